import PyProof.Rows.All
import Wide.All
import OpenK.AllK
import Wide.FinOn
import HandS.ForMost
import HandS.ForExc
import HandS.IsInst
import HandS.TupAny
import HandS.Conv
import HandS.RevRange
import HandS.Deep
import HandS.Rev
import HandS.More
import HandS.TryMany
import HandS.ExcIs
import HandS.Defaults
import HandS.Text
import KE.KStrOpen
import PySem.Challenge.RW_everyforest_k02_forest_texts
set_option Elab.async false
set_option linter.all false
set_option maxRecDepth 100000
set_option maxHeartbeats 2000000
/-! PL: pure values over HandS. A tuple is plain data here; lists and dicts stand at addresses. -/
namespace L2
namespace PL
open PySem PySem.Spec PyProof.Rows

/-! ### values -/
inductive PV where
  | non | bl (b : Bool) | int (i : Int) | str (s : Str) | tup (l : List PV) | rol (l : List PV) | ref (a : Addr)

inductive MO where
  | lst (xs : List PV)
  | dct (kvs : List (Key × PV))

abbrev MHp := Addr → Option MO
def updM (M : MHp) (a : Addr) (o : MO) : MHp := fun b => if b = a then some o else M b
theorem updM_same {M : MHp} {a : Addr} {o : MO} : updM M a o a = some o := by unfold updM; rw [if_pos rfl]
theorem updM_ne {M : MHp} {a b : Addr} {o : MO} (h : b ≠ a) : updM M a o b = M b := by unfold updM; rw [if_neg h]

abbrev Frg := PySem.W.Frag

/-- a list that nobody may change: the script, a list of the module's -/
def RoL (K : Frg) (H : Hp) (a : Addr) (vs : List V) : Prop :=
  (∃ o, H a = some (.frz o (.lst vs))) ∨
    ∃ (o : Obj) (its : Array Value) (n : Nat), K.lookup a = some o ∧ o.cls = .type "list" ∧ o.dict = none ∧ o.data = .seq its n ∧ its.size ≤ sizeLine ∧ Vals vs its.toList
theorem RoL.seq {K : Frg} {H : Hp} {a : Addr} {vs : List V} (h : RoL K H a vs) : SqL K H a vs := by
  rcases h with ⟨o, h⟩ | h
  · exact .inl (.inr ⟨o, h⟩)
  · exact .inr h

mutual
def RV (K : Frg) (H : Hp) : PV → V → Prop
  | .non, v => v = .non
  | .bl b, v => v = .bl b
  | .int i, v => v = .int i
  | .str s, v => v = .str s
  | .tup l, v => ∃ a vs, v = .ref a ∧ SqT K H a vs ∧ RVs K H l vs
  | .rol l, v => ∃ a vs, v = .ref a ∧ RoL K H a vs ∧ RVs K H l vs
  | .ref a, v => v = .ref a
def RVs (K : Frg) (H : Hp) : List PV → List V → Prop
  | [], vs => vs = []
  | x :: xs, vs => ∃ v r, vs = v :: r ∧ RV K H x v ∧ RVs K H xs r
end

/-- what stands at a, by M and by H -/
def RO (K : Frg) (H : Hp) (a : Addr) : MO → Prop
  | .lst xs => ∃ vs, H a = some (.lst vs) ∧ RVs K H xs vs
  | .dct kvs => ∃ vs, H a = some (.dK vs) ∧ kvs.map (·.1) = vs.map (·.1) ∧ RVs K H (kvs.map (·.2)) (vs.map (·.2))
def JH (K : Frg) (H : Hp) (M : MHp) : Prop := ∀ a o, M a = some o → RO K H a o
/-- what M does not know is kept -/
def Keep (H : Hp) (M : MHp) (H' : Hp) (M' : MHp) : Prop := ∀ a u, H a = some u → M a = none → H' a = some u ∧ M' a = none
theorem Keep.refl (H : Hp) (M : MHp) : Keep H M H M := fun _ _ h n => ⟨h, n⟩
theorem Keep.trans {H H1 H2 : Hp} {M M1 M2 : MHp} (a : Keep H M H1 M1) (b : Keep H1 M1 H2 M2) : Keep H M H2 M2 := fun c u h n =>
  let ⟨h1, n1⟩ := a c u h n
  b c u h1 n1

section
variable {K : Frg} {H H' : Hp} {M M' : MHp}
theorem RO.some {a : Addr} {o : MO} (r : RO K H a o) : H a ≠ none := by
  cases o with
  | lst xs => obtain ⟨vs, h, _⟩ := r; rw [h]; simp
  | dct kvs => obtain ⟨vs, h, _⟩ := r; rw [h]; simp
theorem JH.fresh {p : Addr} (j : JH K H M) (h : H p = none) : M p = none := by
  cases e : M p with
  | none => rfl
  | some o => exact absurd h (j p o e).some
theorem JH.tup {a : Addr} {vs : List V} (j : JH K H M) (h : H a = some (.tup vs)) : M a = none := by
  cases e : M a with
  | none => rfl
  | some o =>
    have r := j a o e
    cases o with
    | lst xs => obtain ⟨_, q, _⟩ := r; rw [h] at q; cases q
    | dct kvs => obtain ⟨_, q, _⟩ := r; rw [h] at q; cases q
theorem JH.frz {a : Addr} {ob : Obj} {u : HO} (j : JH K H M) (h : H a = some (.frz ob u)) : M a = none := by
  cases e : M a with
  | none => rfl
  | some o =>
    have r := j a o e
    cases o with
    | lst xs => obtain ⟨_, q, _⟩ := r; rw [h] at q; cases q
    | dct kvs => obtain ⟨_, q, _⟩ := r; rw [h] at q; cases q
theorem SqT.keep {a : Addr} {vs : List V} (j : JH K H M) (k : Keep H M H' M') (h : SqT K H a vs) : SqT K H' a vs := by
  rcases h with (h | ⟨o, h⟩) | h
  · exact .inl (.inl (k _ _ h (j.tup h)).1)
  · exact .inl (.inr ⟨o, (k _ _ h (j.frz h)).1⟩)
  · exact .inr h
theorem RoL.keep {a : Addr} {vs : List V} (j : JH K H M) (k : Keep H M H' M') (h : RoL K H a vs) : RoL K H' a vs := by
  rcases h with ⟨o, h⟩ | h
  · exact .inl ⟨o, (k _ _ h (j.frz h)).1⟩
  · exact .inr h
mutual
theorem RV.keep (j : JH K H M) (k : Keep H M H' M') : ∀ {x : PV} {v : V}, RV K H x v → RV K H' x v
  | .non, _, h => h
  | .bl _, _, h => h
  | .int _, _, h => h
  | .str _, _, h => h
  | .ref _, _, h => h
  | .tup l, _, h => by
    unfold RV at h ⊢
    obtain ⟨a, vs, e, s, r⟩ := h
    exact ⟨a, vs, e, SqT.keep j k s, RVs.keep j k r⟩
  | .rol l, _, h => by
    unfold RV at h ⊢
    obtain ⟨a, vs, e, s, r⟩ := h
    exact ⟨a, vs, e, RoL.keep j k s, RVs.keep j k r⟩
theorem RVs.keep (j : JH K H M) (k : Keep H M H' M') : ∀ {xs : List PV} {vs : List V}, RVs K H xs vs → RVs K H' xs vs
  | [], _, h => h
  | x :: xs, _, h => by
    unfold RVs at h ⊢
    obtain ⟨v, r, e, h1, h2⟩ := h
    exact ⟨v, r, e, RV.keep j k h1, RVs.keep j k h2⟩
end

/-! ### lists of values -/
theorem RVs.nil : RVs K H [] [] := by unfold RVs; rfl
theorem RVs.cons {x : PV} {v : V} {xs : List PV} {vs : List V} (h : RV K H x v) (t : RVs K H xs vs) : RVs K H (x :: xs) (v :: vs) := by
  unfold RVs; exact ⟨v, vs, rfl, h, t⟩
theorem RVs.uncons {x : PV} {xs : List PV} {vs : List V} (h : RVs K H (x :: xs) vs) : ∃ v r, vs = v :: r ∧ RV K H x v ∧ RVs K H xs r := by
  unfold RVs at h; exact h
theorem RVs.nil_iff {vs : List V} (h : RVs K H [] vs) : vs = [] := by unfold RVs at h; exact h
theorem RVs.length : ∀ {xs : List PV} {vs : List V}, RVs K H xs vs → xs.length = vs.length
  | [], _, h => by rw [h.nil_iff]; rfl
  | x :: xs, _, h => by
    obtain ⟨v, r, e, _, t⟩ := h.uncons
    subst e
    exact congrArg Nat.succ t.length
theorem RVs.append : ∀ {xs ys : List PV} {vs ws : List V}, RVs K H xs vs → RVs K H ys ws → RVs K H (xs ++ ys) (vs ++ ws)
  | [], _, _, _, h, g => by rw [h.nil_iff]; exact g
  | x :: xs, _, _, _, h, g => by
    obtain ⟨v, r, e, h1, t⟩ := h.uncons
    subst e
    exact .cons h1 (t.append g)
theorem RVs.get : ∀ {xs : List PV} {vs : List V} {i : Nat} {x : PV}, RVs K H xs vs → xs[i]? = some x → ∃ v, vs[i]? = some v ∧ RV K H x v
  | [], _, _, _, _, e => by simp at e
  | y :: xs, _, 0, x, h, e => by
    obtain ⟨v, r, e', h1, t⟩ := h.uncons
    subst e'
    simp at e
    subst e
    exact ⟨v, rfl, h1⟩
  | y :: xs, _, i + 1, x, h, e => by
    obtain ⟨v, r, e', h1, t⟩ := h.uncons
    subst e'
    obtain ⟨w, a, b⟩ := t.get (i := i) (x := x) (by simpa using e)
    exact ⟨w, by simpa using a, b⟩
theorem RVs.getV : ∀ {xs : List PV} {vs : List V} {i : Nat} {v : V}, RVs K H xs vs → vs[i]? = some v → ∃ x, xs[i]? = some x ∧ RV K H x v
  | [], _, _, _, h, e => by rw [h.nil_iff] at e; simp at e
  | y :: xs, _, 0, x, h, e => by
    obtain ⟨v, r, e', h1, t⟩ := h.uncons
    subst e'
    simp at e
    subst e
    exact ⟨y, rfl, h1⟩
  | y :: xs, _, i + 1, x, h, e => by
    obtain ⟨v, r, e', h1, t⟩ := h.uncons
    subst e'
    obtain ⟨w, a, b⟩ := t.getV (i := i) (v := x) (by simpa using e)
    exact ⟨w, by simpa using a, b⟩
theorem RVs.set {x : PV} {v : V} (h0 : RV K H x v) : ∀ {xs : List PV} {vs : List V} (i : Nat), RVs K H xs vs → RVs K H (xs.set i x) (vs.set i v)
  | [], _, _, h => by rw [h.nil_iff]; exact .nil
  | y :: xs, _, 0, h => by
    obtain ⟨v, r, e', h1, t⟩ := h.uncons
    subst e'
    exact .cons h0 t
  | y :: xs, _, i + 1, h => by
    obtain ⟨v, r, e', h1, t⟩ := h.uncons
    subst e'
    exact .cons h1 (RVs.set h0 i t)
theorem RVs.take : ∀ {xs : List PV} {vs : List V} (n : Nat), RVs K H xs vs → RVs K H (xs.take n) (vs.take n)
  | xs, vs, 0, _ => by simp; exact .nil
  | [], _, n + 1, h => by rw [h.nil_iff]; exact .nil
  | y :: xs, _, n + 1, h => by
    obtain ⟨v, r, e', h1, t⟩ := h.uncons
    subst e'
    exact .cons h1 (RVs.take n t)
theorem RVs.drop : ∀ {xs : List PV} {vs : List V} (n : Nat), RVs K H xs vs → RVs K H (xs.drop n) (vs.drop n)
  | xs, vs, 0, h => by simpa using h
  | [], _, n + 1, h => by rw [h.nil_iff]; exact .nil
  | y :: xs, _, n + 1, h => by
    obtain ⟨v, r, e', h1, t⟩ := h.uncons
    subst e'
    exact RVs.drop n t
theorem RVs.dropLast {xs : List PV} {vs : List V} (h : RVs K H xs vs) : RVs K H xs.dropLast vs.dropLast := by
  rw [List.dropLast_eq_take, List.dropLast_eq_take, h.length]
  exact h.take _
theorem RVs.reverse : ∀ {xs : List PV} {vs : List V}, RVs K H xs vs → RVs K H xs.reverse vs.reverse
  | [], _, h => by rw [h.nil_iff]; exact .nil
  | y :: xs, _, h => by
    obtain ⟨v, r, e', h1, t⟩ := h.uncons
    subst e'
    rw [List.reverse_cons, List.reverse_cons]
    exact t.reverse.append (.cons h1 .nil)
theorem RVs.eraseIdx : ∀ {xs : List PV} {vs : List V} (i : Nat), RVs K H xs vs → RVs K H (xs.eraseIdx i) (vs.eraseIdx i)
  | [], _, _, h => by rw [h.nil_iff]; exact .nil
  | y :: xs, _, 0, h => by
    obtain ⟨v, r, e', h1, t⟩ := h.uncons
    subst e'
    exact t
  | y :: xs, _, i + 1, h => by
    obtain ⟨v, r, e', h1, t⟩ := h.uncons
    subst e'
    exact .cons h1 (RVs.eraseIdx i t)
theorem RVs.insertIdx {x : PV} {v : V} (h0 : RV K H x v) : ∀ {xs : List PV} {vs : List V} (i : Nat), RVs K H xs vs → RVs K H (xs.insertIdx i x) (vs.insertIdx i v)
  | [], _, 0, h => by rw [h.nil_iff]; exact .cons h0 .nil
  | [], _, i + 1, h => by rw [h.nil_iff]; exact .nil
  | y :: xs, _, 0, h => by
    obtain ⟨w, r, e', h1, t⟩ := h.uncons
    subst e'
    exact .cons h0 (.cons h1 t)
  | y :: xs, _, i + 1, h => by
    obtain ⟨w, r, e', h1, t⟩ := h.uncons
    subst e'
    exact .cons h1 (RVs.insertIdx h0 i t)

/-! ### a change of the heap -/
/-- a new tuple -/
theorem keep_new {p : Addr} {o : HO} (h : H p = none) : Keep H M (upd H p o) M := fun a u e n =>
  ⟨by rw [upd_ne (ne_of_none e h)]; exact e, n⟩
theorem RO.keep {a : Addr} {o : MO} (j : JH K H M) (k : Keep H M H' M') (r : RO K H a o) (e : H' a = H a) : RO K H' a o := by
  cases o with
  | lst xs => obtain ⟨vs, h, r⟩ := r; exact ⟨vs, e.trans h, RVs.keep j k r⟩
  | dct kvs => obtain ⟨vs, h, m, r⟩ := r; exact ⟨vs, e.trans h, m, RVs.keep j k r⟩
theorem JH.new {p : Addr} {o : HO} (j : JH K H M) (h : H p = none) : JH K (upd H p o) M := fun a u e =>
  (j a u e).keep j (keep_new h) (by
    have : a ≠ p := fun z => by subst z; exact (j a u e).some h
    rw [upd_ne this])
/-- a new list or dict -/
theorem keep_newM {p : Addr} {o : HO} {u : MO} (h : H p = none) : Keep H M (upd H p o) (updM M p u) := fun a w e n =>
  ⟨by rw [upd_ne (ne_of_none e h)]; exact e, by rw [updM_ne (ne_of_none e h)]; exact n⟩
theorem JH.newM {p : Addr} {o : HO} {u : MO} (j : JH K H M) (h : H p = none) (r : RO K (upd H p o) p u) : JH K (upd H p o) (updM M p u) := fun a w e => by
  by_cases z : a = p
  · subst z
    rw [updM_same] at e
    cases e
    exact r
  · rw [updM_ne z] at e
    exact (j a w e).keep j (keep_newM (u := u) h) (by rw [upd_ne z])
/-- an object written -/
theorem keep_set {p : Addr} {o : HO} {u w : MO} (h : M p = some w) : Keep H M (upd H p o) (updM M p u) := fun a x e n => by
  have z : a ≠ p := fun q => by subst q; rw [h] at n; cases n
  exact ⟨by rw [upd_ne z]; exact e, by rw [updM_ne z]; exact n⟩
theorem JH.set {p : Addr} {o : HO} {u w : MO} (j : JH K H M) (h : M p = some w) (r : RO K (upd H p o) p u) : JH K (upd H p o) (updM M p u) := fun a x e => by
  by_cases z : a = p
  · subst z
    rw [updM_same] at e
    cases e
    exact r
  · rw [updM_ne z] at e
    exact (j a x e).keep j (keep_set (u := u) h) (by rw [upd_ne z])
theorem JH.lst {p : Addr} {xs : List PV} (j : JH K H M) (h : M p = some (.lst xs)) : ∃ vs, H p = some (.lst vs) ∧ RVs K H xs vs := j p _ h
end

/-! ### slots -/
abbrev MSt := List (Option PV)
structure RS (K : Frg) (H : Hp) (μ : MSt) (σ : St) : Prop where
  len : μ.length = σ.length
  at_ : ∀ (i : Nat) (x : PV), μ[i]? = some (some x) → ∃ v, σ[i]? = some (some v) ∧ RV K H x v
section
variable {K : Frg} {H H' : Hp} {M M' : MHp} {μ : MSt} {σ : St}
theorem RS.keep (j : JH K H M) (k : Keep H M H' M') (r : RS K H μ σ) : RS K H' μ σ := ⟨r.len, fun i x e => let ⟨v, a, b⟩ := r.at_ i x e; ⟨v, a, RV.keep j k b⟩⟩
theorem RS.set {x : PV} {v : V} (i : Nat) (h : RV K H x v) (r : RS K H μ σ) : RS K H (μ.set i (some x)) (σ.set i (some v)) := by
  refine ⟨by simp [r.len], fun n y e => ?_⟩
  by_cases z : i = n
  · subst z
    by_cases hl : i < μ.length
    · rw [List.getElem?_set_self hl] at e
      cases e
      exact ⟨v, List.getElem?_set_self (by rw [← r.len]; exact hl), h⟩
    · rw [List.getElem?_eq_none (by simpa using hl)] at e
      cases e
  · rw [List.getElem?_set_ne z] at e
    obtain ⟨w, a, b⟩ := r.at_ n y e
    exact ⟨w, by rw [List.getElem?_set_ne z]; exact a, b⟩
theorem RS.clear (i : Nat) (r : RS K H μ σ) : RS K H (μ.set i none) (σ.set i none) := by
  refine ⟨by simp [r.len], fun n y e => ?_⟩
  by_cases z : i = n
  · subst z
    by_cases hl : i < μ.length
    · rw [List.getElem?_set_self hl] at e; cases e
    · rw [List.getElem?_eq_none (by simpa using hl)] at e; cases e
  · rw [List.getElem?_set_ne z] at e
    obtain ⟨w, a, b⟩ := r.at_ n y e
    exact ⟨w, by rw [List.getElem?_set_ne z]; exact a, b⟩
/-- a comprehension's own names forgotten -/
def wipeM (μ : MSt) : List Nat → MSt
  | [] => μ
  | v :: vs => (wipeM μ vs).set v none
theorem RS.wipe : ∀ (vs : List Nat), RS K H μ σ → RS K H (wipeM μ vs) (wipe σ vs)
  | [], r => r
  | v :: vs, r => (RS.wipe vs r).clear v
end

/-! ### wishes -/
/-- an exception: its class, its fields where it has own ones -/
structure MExc where
  C : Addr
  fs : Option (List (Str × PV))
abbrev MQ := PV → MHp → Prop
abbrev MX := MExc → MHp → Prop
abbrev ME := MSt → MHp → MQ → MX → Prop
abbrev MT := MSt → MHp → (Bool → MHp → Prop) → MX → Prop
abbrev MA := MSt → MHp → (List PV → MHp → Prop) → MX → Prop
structure MEnds where
  nx : MSt → MHp → Prop
  rt : MQ
  bk : MSt → MHp → Prop
  ct : MSt → MHp → Prop
  ex : MExc → MSt → MHp → Prop
abbrev MS := MEnds → MSt → MHp → Prop
/-- an exception's class and dict -/
def RX (K : Frg) (H : Hp) (e : MExc) (cls : Value) (d : Option Addr) : Prop :=
  cls = .ref e.C ∧ match e.fs with
    | none => d = none
    | some fs => ∃ dd vs, d = some dd ∧ H dd = some (.xd vs) ∧ fs.map (·.1) = vs.map (·.1) ∧ RVs K H (fs.map (·.2)) (vs.map (·.2))
def upQ (K : Frg) (H : Hp) (M : MHp) (Q : MQ) : VK := fun v H' => ∃ x M', RV K H' x v ∧ JH K H' M' ∧ Keep H M H' M' ∧ Q x M'
def upB (K : Frg) (H : Hp) (M : MHp) (Q : Bool → MHp → Prop) : Bool → Hp → Prop := fun b H' => ∃ M', JH K H' M' ∧ Keep H M H' M' ∧ Q b M'
def upL (K : Frg) (H : Hp) (M : MHp) (Q : List PV → MHp → Prop) : List V → Hp → Prop := fun vs H' => ∃ xs M', RVs K H' xs vs ∧ JH K H' M' ∧ Keep H M H' M' ∧ Q xs M'
def upX (K : Frg) (H : Hp) (M : MHp) (E : MX) : XK := fun cls d H' => ∃ e M', RX K H' e cls d ∧ JH K H' M' ∧ Keep H M H' M' ∧ E e M'
def upN (K : Frg) (H : Hp) (M : MHp) (N : MSt → MHp → Prop) : St → Hp → Prop := fun σ' H' => ∃ μ' M', RS K H' μ' σ' ∧ JH K H' M' ∧ Keep H M H' M' ∧ N μ' M'
def upXS (K : Frg) (H : Hp) (M : MHp) (E : MExc → MSt → MHp → Prop) : WX := fun cls d σ' H' => ∃ e μ' M', RX K H' e cls d ∧ RS K H' μ' σ' ∧ JH K H' M' ∧ Keep H M H' M' ∧ E e μ' M'

/-! ### readings, lifted -/
def upE (K : Frg) (W : WX) (m : ME) : TE := fun σ H Q => ∃ μ M Qm Xm, RS K H μ σ ∧ JH K H M ∧ m μ M Qm Xm ∧ (∀ v H', upQ K H M Qm v H' → Q v H') ∧ ∀ cls d H', upX K H M Xm cls d H' → W cls d σ H'
def upT (K : Frg) (W : WX) (m : MT) : TT := fun σ H Q => ∃ μ M Qm Xm, RS K H μ σ ∧ JH K H M ∧ m μ M Qm Xm ∧ (∀ b H', upB K H M Qm b H' → Q b H') ∧ ∀ cls d H', upX K H M Xm cls d H' → W cls d σ H'
def upA (K : Frg) (W : WX) (m : MA) : TA := fun σ H Q => ∃ μ M Qm Xm, RS K H μ σ ∧ JH K H M ∧ m μ M Qm Xm ∧ (∀ vs H', upL K H M Qm vs H' → Q vs H') ∧ ∀ cls d H', upX K H M Xm cls d H' → W cls d σ H'
structure UpD (K : Frg) (H : Hp) (M : MHp) (W : WX) (Dm : MEnds) (D : Ends) : Prop where
  nx : ∀ σ' H', upN K H M Dm.nx σ' H' → D.nx σ' H'
  rt : ∀ v H', upQ K H M Dm.rt v H' → D.rt v H'
  bk : ∀ σ' H', upN K H M Dm.bk σ' H' → D.bk σ' H'
  ct : ∀ σ' H', upN K H M Dm.ct σ' H' → D.ct σ' H'
  ex : ∀ cls d σ' H', upXS K H M Dm.ex cls d σ' H' → W cls d σ' H'
def upS (K : Frg) (W : WX) (m : MS) : TS := fun D σ H => ∃ μ M Dm, RS K H μ σ ∧ JH K H M ∧ m Dm μ M ∧ UpD K H M W Dm D

abbrev JE (X : Cx) (W : WX) (e : Expr) (m : ME) : Prop := PE X e (upE X.K W m)
abbrev JT (X : Cx) (W : WX) (e : Expr) (m : MT) : Prop := PT X e (upT X.K W m)
abbrev JW (X : Cx) (W : WX) (e : Expr) (m : MT) : Prop := PW X e (upT X.K W m)
abbrev JA (X : Cx) (W : WX) (es : List Expr) (m : MA) : Prop := PA X es (upA X.K W m)
abbrev JS (X : Cx) (W : WX) (s : Stmt) (m : MS) : Prop := PS X s (upS X.K W m)
abbrev JB (X : Cx) (W : WX) (s : List Stmt) (m : MS) : Prop := PSs X s (upS X.K W m)

theorem PE.weak {X : Cx} {e : Expr} {t t' : TE} (h : PE X e t) (w : ∀ σ H Q, t' σ H Q → t σ H Q) : PE X e t' := ⟨fun pins s σ H Q I q => h.run pins s σ H Q I (w _ _ _ q)⟩
theorem PT.weak {X : Cx} {e : Expr} {t t' : TT} (h : PT X e t) (w : ∀ σ H Q, t' σ H Q → t σ H Q) : PT X e t' := ⟨fun pins s σ H Q I q => h.run pins s σ H Q I (w _ _ _ q)⟩
theorem PW.weak {X : Cx} {e : Expr} {t t' : TT} (h : PW X e t) (w : ∀ σ H Q, t' σ H Q → t σ H Q) : PW X e t' := ⟨fun wh pins s σ H Q I q => h.run wh pins s σ H Q I (w _ _ _ q)⟩
theorem PA.weak {X : Cx} {es : List Expr} {t t' : TA} (h : PA X es t) (w : ∀ σ H Q, t' σ H Q → t σ H Q) : PA X es t' := ⟨fun pos pins s σ H Q I q => h.run pos pins s σ H Q I (w _ _ _ q)⟩
theorem PS.weak {X : Cx} {st : Stmt} {t t' : TS} (h : PS X st t) (w : ∀ D σ H, t' D σ H → t D σ H) : PS X st t' := ⟨fun pins s σ H D I q => h.run pins s σ H D I (w _ _ _ q)⟩
theorem PSs.weak {X : Cx} {st : List Stmt} {t t' : TS} (h : PSs X st t) (w : ∀ D σ H, t' D σ H → t D σ H) : PSs X st t' := ⟨fun pins s σ H D I q => h.run pins s σ H D I (w _ _ _ q)⟩
theorem OpR.weak {X : Cx} {f : Value → Value → Sem Value} {r r' : R2} (h : OpR X f r) (w : ∀ x y H Q, r' x y H Q → r x y H Q) : OpR X f r' := fun pins s σ H x y v u Q I rx ry q => h pins s σ H x y v u Q I rx ry (w _ _ _ _ q)
theorem UnR.weak {X : Cx} {f : Value → Sem Value} {r r' : V → Hp → VK → Prop} (h : UnR X f r) (w : ∀ x H Q, r' x H Q → r x H Q) : UnR X f r' := fun pins s σ H x v Q I rx q => h pins s σ H x v Q I rx (w _ _ _ q)
theorem CallR.weak {X : Cx} {f : Value} {r r' : List V → Hp → VK → Prop} (h : CallR X f r) (w : ∀ xs H Q, r' xs H Q → r xs H Q) : CallR X f r' := fun pins s σ H xs us Q I rx q => h pins s σ H xs us Q I rx (w _ _ _ q)
theorem IxR.weak {X : Cx} {r r' : R2} (h : IxR X r) (w : ∀ x y H Q, r' x y H Q → r x y H Q) : IxR X r' := fun value slice pins s σ H x y v u Q I rx ry q hs => h value slice pins s σ H x y v u Q I rx ry (w _ _ _ _ q) hs
theorem MtR.weak {X : Cx} {id : String} {r r' : V → List V → Hp → VK → Prop} (h : MtR X id r) (w : ∀ x xs H Q, r' x xs H Q → r x xs H Q) : MtR X id r' := fun pins s σ H x xs v us Q I rx rr q => h pins s σ H x xs v us Q I rx rr (w _ _ _ _ q)

section
variable {K : Frg} {H H1 H2 : Hp} {M M1 M2 : MHp}
theorem upQ.from {Q : MQ} {v : V} {H' : Hp} (k : Keep H M H1 M1) (h : upQ K H1 M1 Q v H') : upQ K H M Q v H' :=
  let ⟨x, M', a, b, c, d⟩ := h
  ⟨x, M', a, b, k.trans c, d⟩
theorem upB.from {Q : Bool → MHp → Prop} {v : Bool} {H' : Hp} (k : Keep H M H1 M1) (h : upB K H1 M1 Q v H') : upB K H M Q v H' :=
  let ⟨M', b, c, d⟩ := h
  ⟨M', b, k.trans c, d⟩
theorem upL.from {Q : List PV → MHp → Prop} {v : List V} {H' : Hp} (k : Keep H M H1 M1) (h : upL K H1 M1 Q v H') : upL K H M Q v H' :=
  let ⟨x, M', a, b, c, d⟩ := h
  ⟨x, M', a, b, k.trans c, d⟩
theorem upX.from {E : MX} {cls : Value} {d : Option Addr} {H' : Hp} (k : Keep H M H1 M1) (h : upX K H1 M1 E cls d H') : upX K H M E cls d H' :=
  let ⟨x, M', a, b, c, q⟩ := h
  ⟨x, M', a, b, k.trans c, q⟩
theorem upN.from {N : MSt → MHp → Prop} {σ' : St} {H' : Hp} (k : Keep H M H1 M1) (h : upN K H1 M1 N σ' H') : upN K H M N σ' H' :=
  let ⟨x, M', a, b, c, d⟩ := h
  ⟨x, M', a, b, k.trans c, d⟩
theorem upXS.from {E : MExc → MSt → MHp → Prop} {cls : Value} {d : Option Addr} {σ' : St} {H' : Hp} (k : Keep H M H1 M1) (h : upXS K H1 M1 E cls d σ' H') : upXS K H M E cls d σ' H' :=
  let ⟨x, m, M', a, s, b, c, q⟩ := h
  ⟨x, m, M', a, s, b, k.trans c, q⟩
theorem UpD.from {W : WX} {Dm : MEnds} {D : Ends} (k : Keep H M H1 M1) (u : UpD K H M W Dm D) : UpD K H1 M1 W Dm D :=
  ⟨fun _ _ h => u.nx _ _ (h.from k), fun _ _ h => u.rt _ _ (h.from k), fun _ _ h => u.bk _ _ (h.from k), fun _ _ h => u.ct _ _ (h.from k), fun _ _ _ _ h => u.ex _ _ _ _ (h.from k)⟩
end

/-! ### expressions -/
def getS (μ : MSt) (i : Nat) (k : PV → Prop) : Prop := match μ[i]? with
  | some (some x) => k x
  | _ => False
def mVar (i : Nat) : ME := fun μ M Q _ => getS μ i fun x => Q x M
def mC (x : PV) : ME := fun _ M Q _ => Q x M
/-- by values: two places -/
abbrev MR2 := PV → PV → MHp → MQ → Prop
def mOp (r : MR2) (a b : ME) : ME := fun μ M Q E => a μ M (fun x M1 => b μ M1 (fun y M2 => r x y M2 Q) E) E
def mUn (r : PV → MHp → MQ → Prop) (a : ME) : ME := fun μ M Q E => a μ M (fun x M1 => r x M1 Q) E
def upR (K : Frg) (r : MR2) : R2 := fun v w H Q => ∃ x y M Qm, RV K H x v ∧ RV K H y w ∧ JH K H M ∧ r x y M Qm ∧ ∀ v' H', upQ K H M Qm v' H' → Q v' H'
def upU (K : Frg) (r : PV → MHp → MQ → Prop) : V → Hp → VK → Prop := fun v H Q => ∃ x M Qm, RV K H x v ∧ JH K H M ∧ r x M Qm ∧ ∀ v' H', upQ K H M Qm v' H' → Q v' H'
def upC (K : Frg) (r : List PV → MHp → MQ → Prop) : List V → Hp → VK → Prop := fun vs H Q => ∃ xs M Qm, RVs K H xs vs ∧ JH K H M ∧ r xs M Qm ∧ ∀ v' H', upQ K H M Qm v' H' → Q v' H'
def upM (K : Frg) (r : PV → List PV → MHp → MQ → Prop) : V → List V → Hp → VK → Prop := fun v vs H Q => ∃ x xs M Qm, RV K H x v ∧ RVs K H xs vs ∧ JH K H M ∧ r x xs M Qm ∧ ∀ v' H', upQ K H M Qm v' H' → Q v' H'

section
variable {X : Cx} {W : WX} {a b c : Expr} {ma mb mc : ME} {pos : Pos}
theorem getS_some {μ : MSt} {i : Nat} {k : PV → Prop} (h : getS μ i k) : ∃ x, μ[i]? = some (some x) ∧ k x := by
  unfold getS at h
  split at h
  · exact ⟨_, ‹_›, h⟩
  · exact h.elim
/-- the value as it is, nothing changed -/
theorem upQ.now {K : Frg} {H : Hp} {M : MHp} {Q : MQ} {x : PV} {v : V} (r : RV K H x v) (j : JH K H M) (q : Q x M) : upQ K H M Q v H := ⟨x, M, r, j, Keep.refl _ _, q⟩

theorem je_var {i : Nat} {x : Str} (h : PE X (.Name x pos) (tVar i)) : JE X W (.Name x pos) (mVar i) := PE.weak h fun σ H Q ⟨μ, M, Qm, Xm, rs, j, m, q, _⟩ => by
  obtain ⟨x, e, m⟩ := getS_some m
  obtain ⟨v, e2, r⟩ := rs.at_ i x e
  exact ⟨v, e2, q _ _ (.now r j m)⟩
theorem je_const {e : Expr} {v : V} {x : PV} (h : PE X e (tC v)) (r : ∀ K H, RV K H x v) : JE X W e (mC x) := PE.weak h fun σ H Q ⟨μ, M, Qm, Xm, rs, j, m, q, _⟩ => q _ _ (.now (r _ _) j m)
theorem je_int {i k p} : JE X W (.Constant (.int i) k p) (mC (.int i)) := je_const pe_int fun _ _ => by unfold RV; rfl
theorem je_bl {i k p} : JE X W (.Constant (.bool i) k p) (mC (.bl i)) := je_const pe_bl fun _ _ => by unfold RV; rfl
theorem je_str {i k p} : JE X W (.Constant (.str i) k p) (mC (.str i)) := je_const pe_str fun _ _ => by unfold RV; rfl
theorem je_non {k p} : JE X W (.Constant .none k p) (mC .non) := je_const pe_non fun _ _ => by unfold RV; rfl
/-- a constant of the module -/
theorem je_globI {x : Str} {i : Int} {t : Tok} (hg : Gl X x) (hm : X.mg x = some (.int i t)) (hd : (x == ("__debug__" : Str)) = false := by decide) : JE X W (.Name x pos) (mC (.int i)) := je_const (v := .int i) (pe_glob hg hm ⟨t, rfl⟩ hd) fun _ _ => by unfold RV; rfl
theorem je_globS {x : Str} {i : Str} {t : Tok} (hg : Gl X x) (hm : X.mg x = some (.str i t)) (hd : (x == ("__debug__" : Str)) = false := by decide) : JE X W (.Name x pos) (mC (.str i)) := je_const (v := .str i) (pe_glob hg hm ⟨t, rfl⟩ hd) fun _ _ => by unfold RV; rfl

theorem je_op {op : Operator} {r : MR2} (ho : OpR X (binaryOp op) (upR X.K r)) (ha : JE X W a ma) (hb : JE X W b mb) : JE X W (.BinOp a op b pos) (mOp r ma mb) :=
  PE.weak (pe_op ho ha hb) fun σ H Q ⟨μ, M, Qm, Xm, rs, j, m, q, x⟩ => ⟨μ, M, _, Xm, rs, j, m, fun v H1 ⟨y, M1, r1, j1, k1, m1⟩ => ⟨μ, M1, _, Xm, rs.keep j k1, j1, m1,
    fun w H2 ⟨z, M2, r2, j2, k2, m2⟩ => ⟨y, z, M2, Qm, r1.keep j1 k2, r2, j2, m2, fun v' H' u => q _ _ ((u.from k2).from k1)⟩, fun _ _ _ u => x _ _ _ (u.from k1)⟩, x⟩
theorem je_un {op : UnaryOp} {r : PV → MHp → MQ → Prop} (ho : UnR X (unaryOp op) (upU X.K r)) (ha : JE X W a ma) : JE X W (.UnaryOp op a pos) (mUn r ma) :=
  PE.weak (pe_un ho ha) fun σ H Q ⟨μ, M, Qm, Xm, rs, j, m, q, x⟩ => ⟨μ, M, _, Xm, rs, j, m, fun v H1 ⟨y, M1, r1, j1, k1, m1⟩ => ⟨y, M1, Qm, r1, j1, m1, fun v' H' u => q _ _ (u.from k1)⟩, x⟩
/-- a comparison as a value -/
theorem je_cmp {op : CmpOp} {r : MR2} (ho : OpR X (compareOp op) (upR X.K r)) (ha : JE X W a ma) (hb : JE X W b mb) (hm : behindInMarks op b = false) : JE X W (.Compare a [op] [b] pos) (mOp r ma mb) :=
  PE.weak (pe_cmpR ho ha hb hm) fun σ H Q ⟨μ, M, Qm, Xm, rs, j, m, q, x⟩ => ⟨μ, M, _, Xm, rs, j, m, fun v H1 ⟨y, M1, r1, j1, k1, m1⟩ => ⟨μ, M1, _, Xm, rs.keep j k1, j1, m1,
    fun w H2 ⟨z, M2, r2, j2, k2, m2⟩ => ⟨y, z, M2, Qm, r1.keep j1 k2, r2, j2, m2, fun v' H' u => q _ _ ((u.from k2).from k1)⟩, fun _ _ _ u => x _ _ _ (u.from k1)⟩, x⟩

/-! ### tests -/
/-- a value that must be True or False -/
def isB (x : PV) (k : Bool → Prop) : Prop := match x with
  | .bl b => k b
  | _ => False
theorem isB_some {x : PV} {k : Bool → Prop} (h : isB x k) : ∃ b, x = .bl b ∧ k b := by
  cases x <;> first | exact ⟨_, rfl, h⟩ | exact h.elim
def mB (m : ME) : MT := fun μ M Q E => m μ M (fun x M1 => isB x fun b => Q b M1) E
theorem jt_cmp {op : CmpOp} {r : MR2} (ho : OpR X (compareOp op) (upR X.K r)) (ha : JE X W a ma) (hb : JE X W b mb) (hm : behindInMarks op b = false) : JT X W (.Compare a [op] [b] pos) (mB (mOp r ma mb)) :=
  PT.weak (pt_cmpR ho ha hb hm) fun σ H Q ⟨μ, M, Qm, Xm, rs, j, m, q, x⟩ => ⟨μ, M, _, Xm, rs, j, m, fun v H1 ⟨y, M1, r1, j1, k1, m1⟩ => ⟨μ, M1, _, Xm, rs.keep j k1, j1, m1,
    fun w H2 ⟨z, M2, r2, j2, k2, m2⟩ => ⟨y, z, M2, _, r1.keep j1 k2, r2, j2, m2, fun v' H' ⟨p, M3, r3, j3, k3, m3⟩ => by
      obtain ⟨b, e, m3⟩ := isB_some m3
      subst e
      unfold RV at r3
      exact ⟨b, r3, q _ _ ⟨M3, j3, (k1.trans k2).trans k3, m3⟩⟩⟩, fun _ _ _ u => x _ _ _ (u.from k1)⟩, x⟩
/-- an expression whose value is True or False -/
theorem jt_val {e : Expr} {m : ME} (h : JE X W e m) (he : ∀ whole, isTrue e X.env whole = (do let v ← whole; standAt e.pos; holding [v] (truthy v)) := by intro _; rfl) : JT X W e (mB m) :=
  PT.weak (pt_val h he) fun σ H Q ⟨μ, M, Qm, Xm, rs, j, m, q, x⟩ => ⟨μ, M, _, Xm, rs, j, m, fun v H1 ⟨y, M1, r1, j1, k1, m1⟩ => by
      obtain ⟨b, e, m1⟩ := isB_some m1
      subst e
      unfold RV at r1
      exact ⟨b, r1, q _ _ ⟨M1, j1, k1, m1⟩⟩, x⟩
/-- a value's truth -/
def truP (x : PV) (M : MHp) (k : Bool → Prop) : Prop := match x with
  | .non => k false
  | .bl b => k b
  | .int i => k (i != 0)
  | .str s => s.length ≤ sizeLine ∧ k ((s.length : Int) != 0)
  | .tup l => k (!l.isEmpty)
  | .rol l => k (!l.isEmpty)
  | .ref a => match M a with
    | some (.lst xs) => k (!xs.isEmpty)
    | some (.dct kvs) => k (!kvs.isEmpty)
    | _ => False
theorem isEmpty_rvs {K : Frg} {H : Hp} {xs : List PV} {vs : List V} (r : RVs K H xs vs) : xs.isEmpty = vs.isEmpty := by
  have := r.length
  cases xs <;> cases vs <;> first | rfl | (simp at this)
theorem isEmpty_len {α β : Type} {xs : List α} {vs : List β} (r : xs.length = vs.length) : xs.isEmpty = vs.isEmpty := by
  cases xs <;> cases vs <;> first | rfl | (simp at r)
theorem truP_ok {K : Frg} {H : Hp} {M : MHp} {x : PV} {v : V} {k : Bool → Prop} (r : RV K H x v) (j : JH K H M) (h : truP x M k) : ∃ b, TruV K v H b ∧ k b := by
  cases x with
  | non => unfold RV at r; subst r; exact ⟨_, rfl, h⟩
  | bl b => unfold RV at r; subst r; exact ⟨_, rfl, h⟩
  | int b => unfold RV at r; subst r; exact ⟨_, rfl, h⟩
  | str b => unfold RV at r; subst r; exact ⟨_, ⟨h.1, rfl⟩, h.2⟩
  | tup l =>
    unfold RV at r
    obtain ⟨a, vs, e, s, r⟩ := r
    subst e
    exact ⟨_, .inr (.inl ⟨vs, s, rfl⟩), by rw [← isEmpty_rvs r]; exact h⟩
  | rol l =>
    unfold RV at r
    obtain ⟨a, vs, e, s, r⟩ := r
    subst e
    exact ⟨_, .inl ⟨vs, s.seq, rfl⟩, by rw [← isEmpty_rvs r]; exact h⟩
  | ref a =>
    unfold RV at r
    subst r
    have h : (match M a with
      | some (.lst xs) => k (!xs.isEmpty)
      | some (.dct kvs) => k (!kvs.isEmpty)
      | _ => False) := h
    split at h
    · rename_i xs e
      obtain ⟨vs, e2, r⟩ := j a _ e
      exact ⟨_, .inl ⟨vs, SqL.of e2, rfl⟩, by rw [← isEmpty_rvs r]; exact h⟩
    · rename_i kvs e
      obtain ⟨vs, e2, m, r⟩ := j a _ e
      have := congrArg List.length m
      rw [List.length_map, List.length_map] at this
      exact ⟨_, .inr (.inr ⟨vs, e2, rfl⟩), by rw [← isEmpty_len this]; exact h⟩
    · exact h.elim
def mTru (m : ME) : MT := fun μ M Q E => m μ M (fun x M1 => truP x M1 fun b => Q b M1) E
theorem jt_tru {e : Expr} {m : ME} (h : JE X W e m) (he : ∀ whole, isTrue e X.env whole = (do let v ← whole; standAt e.pos; holding [v] (truthy v)) := by intro _; rfl) : JT X W e (mTru m) :=
  PT.weak (pt_truth h he) fun σ H Q ⟨μ, M, Qm, Xm, rs, j, m, q, x⟩ => ⟨μ, M, _, Xm, rs, j, m, fun v H1 ⟨y, M1, r1, j1, k1, m1⟩ => by
      obtain ⟨b, e, m1⟩ := truP_ok r1 j1 m1
      exact ⟨b, e, q _ _ ⟨M1, j1, k1, m1⟩⟩, x⟩
def mAnd (t u : MT) : MT := fun μ M Q E => t μ M (fun b M1 => if b = true then u μ M1 Q E else Q false M1) E
def mOr (t u : MT) : MT := fun μ M Q E => t μ M (fun b M1 => if b = true then Q true M1 else u μ M1 Q E) E
def mNot (t : MT) : MT := fun μ M Q E => t μ M (fun b M1 => Q (!b) M1) E
variable {A B : MT} {rest : List Expr}
theorem jw_and1 (ha : JT X W a A) : JW X W (.BoolOp .And [a] pos) A := pw_and1 ha
theorem jw_or1 (ha : JT X W a A) : JW X W (.BoolOp .Or [a] pos) A := pw_or1 ha
theorem ite_if {c : Prop} [Decidable c] {P Q P' Q' : Prop} (h : if c then P else Q) (hp : P → P') (hq : Q → Q') : if c then P' else Q' := by
  by_cases z : c
  · rw [if_pos z] at h ⊢; exact hp h
  · rw [if_neg z] at h ⊢; exact hq h
theorem jw_and (ha : JT X W a A) (hb : JW X W (.BoolOp .And (b :: rest) pos) B) : JW X W (.BoolOp .And (a :: b :: rest) pos) (mAnd A B) :=
  PW.weak (pw_and ha hb) fun σ H Q ⟨μ, M, Qm, Xm, rs, j, m, q, x⟩ => ⟨μ, M, _, Xm, rs, j, m, fun b H1 ⟨M1, j1, k1, m1⟩ =>
    ite_if m1 (fun m1 => ⟨μ, M1, _, Xm, rs.keep j k1, j1, m1, fun _ _ u => q _ _ (u.from k1), fun _ _ _ u => x _ _ _ (u.from k1)⟩) fun m1 => q _ _ ⟨M1, j1, k1, m1⟩, x⟩
theorem jw_or (ha : JT X W a A) (hb : JW X W (.BoolOp .Or (b :: rest) pos) B) : JW X W (.BoolOp .Or (a :: b :: rest) pos) (mOr A B) :=
  PW.weak (pw_or ha hb) fun σ H Q ⟨μ, M, Qm, Xm, rs, j, m, q, x⟩ => ⟨μ, M, _, Xm, rs, j, m, fun b H1 ⟨M1, j1, k1, m1⟩ =>
    ite_if m1 (fun m1 => q _ _ ⟨M1, j1, k1, m1⟩) (fun m1 => ⟨μ, M1, _, Xm, rs.keep j k1, j1, m1, fun _ _ u => q _ _ (u.from k1), fun _ _ _ u => x _ _ _ (u.from k1)⟩), x⟩
theorem jt_not (ha : JT X W a A) : JT X W (.UnaryOp .Not a pos) (mNot A) :=
  PT.weak (pt_not ha) fun σ H Q ⟨μ, M, Qm, Xm, rs, j, m, q, x⟩ => ⟨μ, M, _, Xm, rs, j, m, fun b H1 ⟨M1, j1, k1, m1⟩ => q _ _ ⟨M1, j1, k1, m1⟩, x⟩
/-- a test's answer as a value (and, or of True and False) -/
def mAndV (a b : ME) : ME := fun μ M Q E => a μ M (fun x M1 => isB x fun c => if c = true then b μ M1 Q E else Q (.bl false) M1) E
def mOrV (a b : ME) : ME := fun μ M Q E => a μ M (fun x M1 => isB x fun c => if c = true then Q (.bl true) M1 else b μ M1 Q E) E
def mNotV (a : ME) : ME := fun μ M Q E => a μ M (fun x M1 => isB x fun c => Q (.bl (!c)) M1) E
theorem je_one {op : BoolOp} (ha : JE X W a ma) : JE X W (.BoolOp op [a] pos) ma := pe_one ha
theorem je_and (ha : JE X W a ma) (hb : JE X W (.BoolOp .And (b :: rest) pos) mb) : JE X W (.BoolOp .And (a :: b :: rest) pos) (mAndV ma mb) :=
  PE.weak (pe_and ha hb) fun σ H Q ⟨μ, M, Qm, Xm, rs, j, m, q, x⟩ => ⟨μ, M, _, Xm, rs, j, m, fun v H1 ⟨y, M1, r1, j1, k1, m1⟩ => by
    obtain ⟨c, e, m1⟩ := isB_some m1
    subst e
    unfold RV at r1
    exact ⟨c, r1, ite_if m1 (fun m1 => ⟨μ, M1, _, Xm, rs.keep j k1, j1, m1, fun _ _ u => q _ _ (u.from k1), fun _ _ _ u => x _ _ _ (u.from k1)⟩) fun m1 => q _ _ ⟨.bl false, M1, by unfold RV; rfl, j1, k1, m1⟩⟩, x⟩
theorem je_or (ha : JE X W a ma) (hb : JE X W (.BoolOp .Or (b :: rest) pos) mb) : JE X W (.BoolOp .Or (a :: b :: rest) pos) (mOrV ma mb) :=
  PE.weak (pe_or ha hb) fun σ H Q ⟨μ, M, Qm, Xm, rs, j, m, q, x⟩ => ⟨μ, M, _, Xm, rs, j, m, fun v H1 ⟨y, M1, r1, j1, k1, m1⟩ => by
    obtain ⟨c, e, m1⟩ := isB_some m1
    subst e
    unfold RV at r1
    exact ⟨c, r1, ite_if m1 (fun m1 => q _ _ ⟨.bl true, M1, by unfold RV; rfl, j1, k1, m1⟩) (fun m1 => ⟨μ, M1, _, Xm, rs.keep j k1, j1, m1, fun _ _ u => q _ _ (u.from k1), fun _ _ _ u => x _ _ _ (u.from k1)⟩)⟩, x⟩
theorem je_not (ha : JE X W a ma) : JE X W (.UnaryOp .Not a pos) (mNotV ma) :=
  PE.weak (pe_not ha) fun σ H Q ⟨μ, M, Qm, Xm, rs, j, m, q, x⟩ => ⟨μ, M, _, Xm, rs, j, m, fun v H1 ⟨y, M1, r1, j1, k1, m1⟩ => by
    obtain ⟨c, e, m1⟩ := isB_some m1
    subst e
    unfold RV at r1
    exact ⟨c, r1, q _ _ ⟨.bl (!c), M1, by unfold RV; rfl, j1, k1, m1⟩⟩, x⟩
def mIf (t : MT) (a b : ME) : ME := fun μ M Q E => t μ M (fun c M1 => if c = true then a μ M1 Q E else b μ M1 Q E) E
theorem je_if {t : Expr} (ht : JT X W t A) (ha : JE X W a ma) (hb : JE X W b mb) : JE X W (.IfExp t a b pos) (mIf A ma mb) :=
  PE.weak (pe_ifExp ht ha hb) fun σ H Q ⟨μ, M, Qm, Xm, rs, j, m, q, x⟩ => ⟨μ, M, _, Xm, rs, j, m, fun c H1 ⟨M1, j1, k1, m1⟩ =>
    ite_if m1 (fun m1 => ⟨μ, M1, _, Xm, rs.keep j k1, j1, m1, fun _ _ u => q _ _ (u.from k1), fun _ _ _ u => x _ _ _ (u.from k1)⟩)
      fun m1 => ⟨μ, M1, _, Xm, rs.keep j k1, j1, m1, fun _ _ u => q _ _ (u.from k1), fun _ _ _ u => x _ _ _ (u.from k1)⟩, x⟩

/-! ### argument lists, displays -/
def mNil : MA := fun _ M Q _ => Q [] M
def mCons (a : ME) (r : MA) : MA := fun μ M Q E => a μ M (fun x M1 => r μ M1 (fun xs M2 => Q (x :: xs) M2) E) E
theorem ja_nil : JA X W [] mNil := PA.weak pa_nil fun σ H Q ⟨μ, M, Qm, Xm, rs, j, m, q, x⟩ => q _ _ ⟨[], M, .nil, j, Keep.refl _ _, m⟩
theorem ja_cons {e : Expr} {es : List Expr} {me : ME} {mr : MA} (he : JE X W e me) (hr : JA X W es mr) (hs : starEach (e :: es) X.env = (false, eval e X.env) :: starEach es X.env := by rfl) : JA X W (e :: es) (mCons me mr) :=
  PA.weak (pa_cons he hr hs) fun σ H Q ⟨μ, M, Qm, Xm, rs, j, m, q, x⟩ => ⟨μ, M, _, Xm, rs, j, m, fun v H1 ⟨y, M1, r1, j1, k1, m1⟩ => ⟨μ, M1, _, Xm, rs.keep j k1, j1, m1,
    fun vs H2 ⟨ys, M2, r2, j2, k2, m2⟩ => q _ _ ⟨y :: ys, M2, .cons (r1.keep j1 k2) r2, j2, k1.trans k2, m2⟩, fun _ _ _ u => x _ _ _ (u.from k1)⟩, x⟩
def mTup (a : MA) : ME := fun μ M Q E => a μ M (fun xs M1 => xs.length ≤ sizeLine ∧ Q (.tup xs) M1) E
def mLst (a : MA) : ME := fun μ M Q E => a μ M (fun xs M1 => xs.length ≤ sizeLine ∧ ∀ p, M1 p = none → Q (.ref p) (updM M1 p (.lst xs))) E
/-- a new tuple of values that are there -/
theorem upQ.tup {K : Frg} {H : Hp} {M : MHp} {Q : MQ} {xs : List PV} {vs : List V} {p : Addr} (hp : H p = none) (r : RVs K H xs vs) (j : JH K H M) (q : Q (.tup xs) M) : upQ K H M Q (.ref p) (upd H p (.tup vs)) :=
  ⟨.tup xs, M, by unfold RV; exact ⟨p, vs, rfl, SqT.of upd_same, r.keep j (keep_new hp)⟩, j.new hp, keep_new hp, q⟩
theorem upQ.lst {K : Frg} {H : Hp} {M : MHp} {Q : MQ} {xs : List PV} {vs : List V} {p : Addr} (hp : H p = none) (r : RVs K H xs vs) (j : JH K H M) (q : ∀ p, M p = none → Q (.ref p) (updM M p (.lst xs))) : upQ K H M Q (.ref p) (upd H p (.lst vs)) :=
  ⟨.ref p, updM M p (.lst xs), by unfold RV; rfl, j.newM hp ⟨vs, upd_same, r.keep j (keep_newM (u := .lst xs) hp)⟩, keep_newM hp, q p (j.fresh hp)⟩
theorem je_tup {es : List Expr} {m : MA} {k : Nat} (h : JA X W es m) : JE X W (.Tuple es k pos) (mTup m) :=
  PE.weak (pe_tup h) fun σ H Q ⟨μ, M, Qm, Xm, rs, j, m, q, x⟩ => ⟨μ, M, _, Xm, rs, j, m, fun vs H1 ⟨ys, M1, r1, j1, k1, l, m1⟩ => ⟨by rw [← r1.length]; exact l, fun p hp => q _ _ ((upQ.tup hp r1 j1 m1).from k1)⟩, x⟩
theorem je_lst {es : List Expr} {m : MA} (h : JA X W es m) : JE X W (.List es pos) (mLst m) :=
  PE.weak (pe_lst h) fun σ H Q ⟨μ, M, Qm, Xm, rs, j, m, q, x⟩ => ⟨μ, M, _, Xm, rs, j, m, fun vs H1 ⟨ys, M1, r1, j1, k1, l, m1⟩ => ⟨by rw [← r1.length]; exact l, fun p hp => q _ _ ((upQ.lst hp r1 j1 m1).from k1)⟩, x⟩

/-! ### subscripts, built-in calls, methods -/
theorem je_ix {r : MR2} (hr : IxR X (upR X.K r)) (ha : JE X W a ma) (hb : JE X W b mb) (hs : PlainIx b) : JE X W (.Subscript a b pos) (mOp r ma mb) :=
  PE.weak (pe_ix hr ha hb hs) fun σ H Q ⟨μ, M, Qm, Xm, rs, j, m, q, x⟩ => ⟨μ, M, _, Xm, rs, j, m, fun v H1 ⟨y, M1, r1, j1, k1, m1⟩ => ⟨μ, M1, _, Xm, rs.keep j k1, j1, m1,
    fun w H2 ⟨z, M2, r2, j2, k2, m2⟩ => ⟨y, z, M2, Qm, r1.keep j1 k2, r2, j2, m2, fun v' H' u => q _ _ ((u.from k2).from k1)⟩, fun _ _ _ u => x _ _ _ (u.from k1)⟩, x⟩
def mCB (r : List PV → MHp → MQ → Prop) (m : MA) : ME := fun μ M Q E => m μ M (fun xs M1 => r xs M1 Q) E
theorem je_cb {r : List PV → MHp → MQ → Prop} {x : Str} {p : Pos} {e : Expr} {es : List Expr} {m : MA} {id : String} (hc : CallR X (.builtin id) (upC X.K r)) (hg : Gl X x) (hm : X.mg x = none) (hv : bootBuiltins x = some (.builtin id)) (ha : JA X W (e :: es) m)
    (hn : x ≠ "__name__" := by decide) (hdb : (x == ("__debug__" : Str)) = false := by decide)
    (he : starEach (e :: es) X.env = (false, eval e X.env) :: starEach es X.env := by rfl) (hpl : (backTo pos (starEach es X.env)).any (·.1) = false := by rfl) : JE X W (.Call (.Name x p) (e :: es) [] pos) (mCB r m) :=
  PE.weak (pe_callB hc hg hm hv ha hn hdb he hpl) fun σ H Q ⟨μ, M, Qm, Xm, rs, j, m, q, x⟩ => ⟨μ, M, _, Xm, rs, j, m, fun vs H1 ⟨ys, M1, r1, j1, k1, m1⟩ => ⟨ys, M1, Qm, r1, j1, m1, fun v' H' u => q _ _ (u.from k1)⟩, x⟩
theorem je_ct {r : List PV → MHp → MQ → Prop} {x : Str} {p : Pos} {e : Expr} {es : List Expr} {m : MA} {T : String} (hc : CallR X (.type T) (upC X.K r)) (hg : Gl X x) (hm : X.mg x = none) (hv : bootBuiltins x = some (.type T)) (ha : JA X W (e :: es) m)
    (hn : x ≠ "__name__" := by decide) (hdb : (x == ("__debug__" : Str)) = false := by decide)
    (he : starEach (e :: es) X.env = (false, eval e X.env) :: starEach es X.env := by rfl) (hpl : (backTo pos (starEach es X.env)).any (·.1) = false := by rfl) : JE X W (.Call (.Name x p) (e :: es) [] pos) (mCB r m) :=
  PE.weak (pe_callTy hc hg hm hv ha hn hdb he hpl) fun σ H Q ⟨μ, M, Qm, Xm, rs, j, m, q, x⟩ => ⟨μ, M, _, Xm, rs, j, m, fun vs H1 ⟨ys, M1, r1, j1, k1, m1⟩ => ⟨ys, M1, Qm, r1, j1, m1, fun v' H' u => q _ _ (u.from k1)⟩, x⟩
end
end PL
end L2
set_option maxRecDepth 100000
set_option maxHeartbeats 2000000
/-! PL2: operators, statements, loops, comprehensions, defs -/
namespace L2
namespace PL
open PySem PySem.Spec PyProof.Rows

section
variable {K : Frg} {H : Hp}
theorem RV.i_non : RV K H .non .non := by unfold RV; rfl
theorem RV.i_bl {b} : RV K H (.bl b) (.bl b) := by unfold RV; rfl
theorem RV.i_int {b} : RV K H (.int b) (.int b) := by unfold RV; rfl
theorem RV.i_str {b} : RV K H (.str b) (.str b) := by unfold RV; rfl
theorem RV.i_ref {b} : RV K H (.ref b) (.ref b) := by unfold RV; rfl
theorem RV.i_tup {l a vs} (s : SqT K H a vs) (r : RVs K H l vs) : RV K H (.tup l) (.ref a) := by unfold RV; exact ⟨a, vs, rfl, s, r⟩
theorem RV.non {v} (h : RV K H .non v) : v = .non := by unfold RV at h; exact h
theorem RV.bl {b v} (h : RV K H (.bl b) v) : v = .bl b := by unfold RV at h; exact h
theorem RV.int {b v} (h : RV K H (.int b) v) : v = .int b := by unfold RV at h; exact h
theorem RV.str {b v} (h : RV K H (.str b) v) : v = .str b := by unfold RV at h; exact h
theorem RV.ref {b v} (h : RV K H (.ref b) v) : v = .ref b := by unfold RV at h; exact h
theorem RV.tup {l v} (h : RV K H (.tup l) v) : ∃ a vs, v = .ref a ∧ SqT K H a vs ∧ RVs K H l vs := by unfold RV at h; exact h
theorem RV.rol {l v} (h : RV K H (.rol l) v) : ∃ a vs, v = .ref a ∧ RoL K H a vs ∧ RVs K H l vs := by unfold RV at h; exact h
end

/-! ### operators -/
def withL (M : MHp) (a : Addr) (k : List PV → Prop) : Prop := match M a with
  | some (.lst xs) => k xs
  | _ => False
theorem withL_some {M : MHp} {a : Addr} {k : List PV → Prop} (h : withL M a k) : ∃ xs, M a = some (.lst xs) ∧ k xs := by
  unfold withL at h
  split at h
  · exact ⟨_, ‹_›, h⟩
  · exact h.elim
theorem withL_of {M : MHp} {a : Addr} {k : List PV → Prop} {xs : List PV} (e : M a = some (.lst xs)) (h : k xs) : withL M a k := by
  unfold withL; rw [e]; exact h
/-- a new list -/
def newL (M : MHp) (xs : List PV) (Q : MQ) : Prop := ∀ p, M p = none → Q (.ref p) (updM M p (.lst xs))
def sAdd : MR2
  | .int i, .int j, M, Q => Q (.int (i + j)) M
  | .str a, .str b, M, Q => a.length + b.length ≤ sizeLine ∧ Q (.str (a ++ b)) M
  | .tup a, .tup b, M, Q => a.length + b.length ≤ sizeLine ∧ Q (.tup (a ++ b)) M
  | .ref a, .ref b, M, Q => withL M a fun xs => withL M b fun ys => xs.length + ys.length ≤ sizeLine ∧ newL M (xs ++ ys) Q
  | _, _, _, _ => False
def sI2 (C : Int → Int → Prop) (g : Int → Int → PV) : MR2
  | .int i, .int j, M, Q => C i j ∧ Q (g i j) M
  | _, _, _, _ => False
def sMul : MR2
  | .int i, .int j, M, Q => CMul i j ∧ Q (.int (i * j)) M
  | .str x, .int n, M, Q => MulOk x n ∧ Q (.str (Txt.mul x n)) M
  | .ref a, .int k, M, Q => withL M a fun xs => (-(2 ^ 63) ≤ k ∧ k < 2 ^ 63 ∧ xs.length * k.toNat ≤ sizeLine) ∧ newL M (List.replicate k.toNat xs).flatten Q
  | _, _, _, _ => False
section
variable {X : Cx}
theorem op_addM : OpR X (binaryOp .Add) (upR X.K sAdd) := OpR.weak (op_add.or (op_add_str.or (op_cat.or op_catA))) fun v w H Q ⟨x, y, M, Qm, rx, ry, j, h, q⟩ => by
  cases x <;> cases y <;> first
    | exact (show False from h).elim
    | (cases rx.int; cases ry.int; exact .inl ⟨_, _, rfl, rfl, q _ _ (.now .i_int j h)⟩)
    | (cases rx.str; cases ry.str; exact .inr (.inl ⟨_, _, rfl, rfl, h.1, q _ _ (.now .i_str j h.2)⟩))
    | (obtain ⟨a, vs, rfl, sa, ra⟩ := rx.tup
       obtain ⟨b, ws, rfl, sb, rb⟩ := ry.tup
       obtain ⟨hz, h⟩ := h
       refine .inr (.inr (.inr ⟨a, b, vs, ws, rfl, rfl, sa, sb, by rw [← ra.length, ← rb.length]; exact hz, fun e => ?_, fun _ e => ?_, fun _ _ p hp => ?_⟩))
       · subst e
         have z : _ = [] := List.length_eq_zero_iff.mp ra.length
         subst z
         exact q _ _ (.now (.i_tup sb rb) j h)
       · subst e
         have z : _ = [] := List.length_eq_zero_iff.mp rb.length
         subst z
         rw [List.append_nil] at h
         exact q _ _ (.now (.i_tup sa ra) j h)
       · exact q _ _ (.tup hp (ra.append rb) j h))
    | (cases rx.ref; cases ry.ref
       obtain ⟨xs, e1, h⟩ := withL_some h
       obtain ⟨ys, e2, hz, h⟩ := withL_some h
       obtain ⟨vs, h1, ra⟩ := j.lst e1
       obtain ⟨ws, h2, rb⟩ := j.lst e2
       exact .inr (.inr (.inl ⟨_, _, vs, ws, rfl, rfl, h1, h2, by rw [← ra.length, ← rb.length]; exact hz, fun p hp => q _ _ (.lst hp (ra.append rb) j h)⟩)))
theorem opI2 {f : Value → Value → Sem Value} {C C' : Int → Int → Prop} {g : Int → Int → V} {g' : Int → Int → PV} (h : OpR X f (rI C g)) (hc : ∀ i j, C' i j → C i j) (hg : ∀ K H i j, C' i j → RV K H (g' i j) (g i j)) : OpR X f (upR X.K (sI2 C' g')) :=
  OpR.weak h fun v w H Q ⟨x, y, M, Qm, rx, ry, j, h, q⟩ => by
    cases x <;> cases y <;> first
      | exact (show False from h).elim
      | (cases rx.int; cases ry.int; obtain ⟨c, h⟩ := h; exact ⟨_, _, rfl, rfl, hc _ _ c, q _ _ (.now (hg _ _ _ _ c) j h)⟩)
theorem opI20 {f : Value → Value → Sem Value} {g : Int → Int → V} {g' : Int → Int → PV} (h : OpR X f (rI0 g)) (hg : ∀ K H i j, RV K H (g' i j) (g i j)) : OpR X f (upR X.K (sI2 (fun _ _ => True) g')) :=
  OpR.weak h fun v w H Q ⟨x, y, M, Qm, rx, ry, j, h, q⟩ => by
    cases x <;> cases y <;> first
      | exact (show False from h).elim
      | (cases rx.int; cases ry.int; obtain ⟨c, h⟩ := h; exact ⟨_, _, rfl, rfl, q _ _ (.now (hg _ _ _ _) j h)⟩)
abbrev sSub : MR2 := sI2 (fun _ _ => True) fun i j => .int (i - j)
theorem op_subM : OpR X (binaryOp .Sub) (upR X.K sSub) := opI20 op_sub fun _ _ _ _ => .i_int
abbrev sDiv : MR2 := sI2 CDiv fun i j => .int (i / j)
theorem op_divM : OpR X (binaryOp .FloorDiv) (upR X.K sDiv) := opI2 op_fdiv (fun _ _ h => h) fun _ _ _ _ _ => .i_int
abbrev sMod : MR2 := sI2 (fun _ j => 0 < j) fun i j => .int (i % j)
theorem op_modM : OpR X (binaryOp .Mod) (upR X.K sMod) := opI2 op_mod (fun _ _ h => h) fun _ _ _ _ _ => .i_int
abbrev sPow : MR2 := sI2 CPow fun i j => .int (i ^ j.toNat)
theorem op_powM : OpR X (binaryOp .Pow) (upR X.K sPow) := opI2 op_pow (fun _ _ h => h) fun _ _ _ _ _ => .i_int
theorem op_mul_str : OpR X (binaryOp .Mult) (fun x y H Q => ∃ z n, x = .str z ∧ y = .int n ∧ MulOk z n ∧ Q (.str (Txt.mul z n)) H) := by
  intro pins s σ H x y v u Q I rx ry h
  obtain ⟨z, n, rfl, rfl, hz, q⟩ := h
  obtain ⟨t, rfl⟩ := rx
  obtain ⟨t', rfl⟩ := ry
  exact SB.mul hz fun t' k => ⟨.str _, H, I.tok _, ⟨_, rfl⟩, q⟩
theorem op_mulM : OpR X (binaryOp .Mult) (upR X.K sMul) := OpR.weak (op_mul.or (op_mul_str.or op_rep)) fun v w H Q ⟨x, y, M, Qm, rx, ry, j, h, q⟩ => by
  cases x <;> cases y <;> first
    | exact (show False from h).elim
    | (cases rx.int; cases ry.int; exact .inl ⟨_, _, rfl, rfl, h.1, q _ _ (.now .i_int j h.2)⟩)
    | (cases rx.str; cases ry.int; exact .inr (.inl ⟨_, _, rfl, rfl, h.1, q _ _ (.now .i_str j h.2)⟩))
    | (cases rx.ref; cases ry.int
       obtain ⟨xs, e1, ⟨z1, z2, z3⟩, h⟩ := withL_some h
       obtain ⟨vs, h1, ra⟩ := j.lst e1
       refine .inr (.inr ⟨_, _, vs, rfl, rfl, h1, z1, z2, by rw [← ra.length]; exact z3, fun p hp => q _ _ (.lst hp ?_ j h)⟩)
       generalize (Int.toNat _) = n
       induction n with
       | zero => exact .nil
       | succ n ih => rw [List.replicate_succ, List.replicate_succ, List.flatten_cons, List.flatten_cons]; exact ra.append ih)
/-- x += y -/
def sIAdd : MR2
  | .int i, .int j, M, Q => Q (.int (i + j)) M
  | .str a, .str b, M, Q => a.length + b.length ≤ sizeLine ∧ Q (.str (a ++ b)) M
  | _, _, _, _ => False
theorem iop_addM : OpR X (inplaceOp .Add) (upR X.K sIAdd) := OpR.weak (iop_add.or iop_add_str) fun v w H Q ⟨x, y, M, Qm, rx, ry, j, h, q⟩ => by
  cases x <;> cases y <;> first
    | exact (show False from h).elim
    | (cases rx.int; cases ry.int; exact .inl ⟨_, _, rfl, rfl, q _ _ (.now .i_int j h)⟩)
    | (cases rx.str; cases ry.str; exact .inr ⟨_, _, rfl, rfl, h.1, q _ _ (.now .i_str j h.2)⟩)
theorem iop_subM : OpR X (inplaceOp .Sub) (upR X.K sSub) := opI20 iop_sub fun _ _ _ _ => .i_int
def sNeg : PV → MHp → MQ → Prop
  | .int i, M, Q => Q (.int (-i)) M
  | _, _, _ => False
theorem un_negM : UnR X (unaryOp .USub) (upU X.K sNeg) := UnR.weak un_neg fun v H Q ⟨x, M, Qm, rx, j, h, q⟩ => by
  cases x <;> first
    | exact (show False from h).elim
    | (cases rx.int; exact ⟨_, rfl, q _ _ (.now .i_int j h)⟩)

/-! ### comparisons -/
/-- == of scalars -/
def scalP : PV → PV → Option Bool
  | .non, .non => some true
  | .non, .int _ => some false | .int _, .non => some false | .non, .bl _ => some false | .bl _, .non => some false | .non, .str _ => some false | .str _, .non => some false
  | .int i, .int j => some (decide (i = j))
  | .bl i, .bl j => some (decide (i = j))
  | .str i, .str j => some (decide (i = j))
  | .int _, .str _ => some false | .str _, .int _ => some false | .bl _, .str _ => some false | .str _, .bl _ => some false
  | _, _ => none
def optB (o : Option Bool) (k : Bool → Prop) : Prop := match o with
  | some b => k b
  | none => False
def sEq : MR2 := fun x y M Q => optB (scalP x y) fun b => Q (.bl b) M
def sNe : MR2 := fun x y M Q => optB (scalP x y) fun b => Q (.bl (!b)) M
theorem dec_of {α : Type} {p q : Prop} [Decidable p] [Decidable q] (h : p ↔ q) : decide p = decide q := by
  by_cases z : p
  · rw [decide_eq_true z, decide_eq_true (h.mp z)]
  · rw [decide_eq_false z, decide_eq_false fun r => z (h.mpr r)]
theorem scalP_ok {K : Frg} {H : Hp} {x y : PV} {v w : V} {b : Bool} (rx : RV K H x v) (ry : RV K H y w) (e : scalP x y = some b) : scal v w = true ∧ decide (v = w) = b := by
  cases x <;> cases y <;> first
    | (injection e; done)
    | (cases e; done)
    | (cases rx.non; cases ry.non; cases e; exact ⟨rfl, by decide⟩)
    | (cases rx.non; cases ry.int; cases e; exact ⟨rfl, decide_eq_false (fun z => nomatch z)⟩)
    | (cases rx.int; cases ry.non; cases e; exact ⟨rfl, decide_eq_false (fun z => nomatch z)⟩)
    | (cases rx.non; cases ry.bl; cases e; exact ⟨rfl, decide_eq_false (fun z => nomatch z)⟩)
    | (cases rx.bl; cases ry.non; cases e; exact ⟨rfl, decide_eq_false (fun z => nomatch z)⟩)
    | (cases rx.non; cases ry.str; cases e; exact ⟨rfl, decide_eq_false (fun z => nomatch z)⟩)
    | (cases rx.str; cases ry.non; cases e; exact ⟨rfl, decide_eq_false (fun z => nomatch z)⟩)
    | (cases rx.int; cases ry.str; cases e; exact ⟨rfl, decide_eq_false (fun z => nomatch z)⟩)
    | (cases rx.str; cases ry.int; cases e; exact ⟨rfl, decide_eq_false (fun z => nomatch z)⟩)
    | (cases rx.bl; cases ry.str; cases e; exact ⟨rfl, decide_eq_false (fun z => nomatch z)⟩)
    | (cases rx.str; cases ry.bl; cases e; exact ⟨rfl, decide_eq_false (fun z => nomatch z)⟩)
    | (cases rx.int; cases ry.int; cases e; exact ⟨rfl, dec_of (α := Nat) (by simp)⟩)
    | (cases rx.bl; cases ry.bl; cases e; exact ⟨rfl, dec_of (α := Nat) (by simp)⟩)
    | (cases rx.str; cases ry.str; cases e; exact ⟨rfl, dec_of (α := Nat) (by simp)⟩)
theorem optB_some {o : Option Bool} {k : Bool → Prop} (h : optB o k) : ∃ b, o = some b ∧ k b := by
  cases o with
  | none => exact h.elim
  | some b => exact ⟨b, rfl, h⟩
theorem op_eqM : OpR X (compareOp .Eq) (upR X.K sEq) := OpR.weak op_eq fun v w H Q ⟨x, y, M, Qm, rx, ry, j, h, q⟩ => by
  obtain ⟨b, e, h⟩ := optB_some h
  obtain ⟨h1, h2⟩ := scalP_ok rx ry e
  exact ⟨h1, by rw [h2]; exact q _ _ (.now .i_bl j h)⟩
theorem op_neM : OpR X (compareOp .NotEq) (upR X.K sNe) := OpR.weak op_ne fun v w H Q ⟨x, y, M, Qm, rx, ry, j, h, q⟩ => by
  obtain ⟨b, e, h⟩ := optB_some h
  obtain ⟨h1, h2⟩ := scalP_ok rx ry e
  exact ⟨h1, by rw [h2]; exact q _ _ (.now .i_bl j h)⟩
abbrev sLt : MR2 := sI2 (fun _ _ => True) fun i j => .bl (decide (i < j))
abbrev sLe : MR2 := sI2 (fun _ _ => True) fun i j => .bl (decide (i ≤ j))
abbrev sGt : MR2 := sI2 (fun _ _ => True) fun i j => .bl (decide (j < i))
abbrev sGe : MR2 := sI2 (fun _ _ => True) fun i j => .bl (decide (j ≤ i))
theorem op_ltM : OpR X (compareOp .Lt) (upR X.K sLt) := opI20 op_lt fun _ _ _ _ => .i_bl
theorem op_leM : OpR X (compareOp .LtE) (upR X.K sLe) := opI20 op_le fun _ _ _ _ => .i_bl
theorem op_gtM : OpR X (compareOp .Gt) (upR X.K sGt) := opI20 op_gt fun _ _ _ _ => .i_bl
theorem op_geM : OpR X (compareOp .GtE) (upR X.K sGe) := opI20 op_ge fun _ _ _ _ => .i_bl
/-- is None, is not None: y is None -/
def isNonP : PV → Bool
  | .non => true
  | _ => false
def sIs : MR2
  | x, .non, M, Q => Q (.bl (isNonP x)) M
  | _, _, _, _ => False
def sIsNot : MR2
  | x, .non, M, Q => Q (.bl (!isNonP x)) M
  | _, _, _, _ => False
theorem isNonP_ok {K : Frg} {H : Hp} {x : PV} {v : V} (r : RV K H x v) : decide (v = .non) = isNonP x := by
  cases x with
  | non => cases r.non; rfl
  | bl b => cases r.bl; exact decide_eq_false fun z => nomatch z
  | int b => cases r.int; exact decide_eq_false fun z => nomatch z
  | str b => cases r.str; exact decide_eq_false fun z => nomatch z
  | ref b => cases r.ref; exact decide_eq_false fun z => nomatch z
  | tup b => obtain ⟨_, _, rfl, _⟩ := r.tup; exact decide_eq_false fun z => nomatch z
  | rol b => obtain ⟨_, _, rfl, _⟩ := r.rol; exact decide_eq_false fun z => nomatch z
theorem op_isM : OpR X (compareOp .Is) (upR X.K sIs) := OpR.weak op_isN fun v w H Q ⟨x, y, M, Qm, rx, ry, j, h, q⟩ => by
  cases y <;> first
    | (exfalso; cases x <;> exact h)
    | (cases ry.non; exact ⟨rfl, by rw [isNonP_ok rx]; exact q _ _ (.now .i_bl j (by cases x <;> exact h))⟩)
theorem op_isNotM : OpR X (compareOp .IsNot) (upR X.K sIsNot) := OpR.weak op_notN fun v w H Q ⟨x, y, M, Qm, rx, ry, j, h, q⟩ => by
  cases y <;> first
    | (exfalso; cases x <;> exact h)
    | (cases ry.non; exact ⟨rfl, by rw [isNonP_ok rx]; exact q _ _ (.now .i_bl j (by cases x <;> exact h))⟩)
end

/-! ### in, not in -/
def flatP : PV → Bool
  | .non => true
  | .bl _ => true
  | .int _ => true
  | .str _ => true
  | _ => false
def eqP : PV → PV → Bool
  | .non, .non => true
  | .bl a, .bl b => a == b
  | .bl a, .int b => (if a then 1 else 0) == b
  | .int a, .bl b => a == (if b then 1 else 0)
  | .int a, .int b => a == b
  | .str a, .str b => a == b
  | _, _ => false
def inP (x : PV) (l : List PV) : Bool := l.any fun y => eqP y x
def strIn (i j : Str) : Bool := !(Builtin.Str.occurrences j i 0 j.length 1).isEmpty
def sIn (neg : Bool) : MR2 := fun x y M Q => match x, y with
  | .str i, .str j => Q (.bl (if neg then !strIn i j else strIn i j)) M
  | x, .tup l => (flatP x = true ∧ l.all flatP = true) ∧ Q (.bl (if neg then !inP x l else inP x l)) M
  | x, .rol l => (flatP x = true ∧ l.all flatP = true) ∧ Q (.bl (if neg then !inP x l else inP x l)) M
  | x, .ref a => withL M a fun l => (flatP x = true ∧ l.all flatP = true) ∧ Q (.bl (if neg then !inP x l else inP x l)) M
  | _, _ => False
section
variable {K : Frg} {H : Hp}
theorem flatP_ok {x : PV} {v : V} (r : RV K H x v) (h : flatP x = true) : flatV v = true := by
  cases x <;> first
    | exact absurd h Bool.false_ne_true
    | (cases r.non; rfl)
    | (cases r.bl; rfl)
    | (cases r.int; rfl)
    | (cases r.str; rfl)
theorem eqP_ok {x y : PV} {v w : V} (r : RV K H x v) (s : RV K H y w) (h : flatP x = true) (h2 : flatP y = true) : eqV v w = eqP x y := by
  cases x <;> first
    | exact absurd h Bool.false_ne_true
    | (cases y <;> first
        | exact absurd h2 Bool.false_ne_true
        | (first | cases r.non | cases r.bl | cases r.int | cases r.str); (first | cases s.non | cases s.bl | cases s.int | cases s.str); rfl)
theorem allflat : ∀ {l : List PV} {vs : List V}, RVs K H l vs → l.all flatP = true → vs.all flatV = true
  | [], _, r, _ => by rw [r.nil_iff]; rfl
  | x :: l, _, r, h => by
    obtain ⟨v, t, rfl, r1, r2⟩ := r.uncons
    rw [List.all_cons, Bool.and_eq_true] at h
    rw [List.all_cons, flatP_ok r1 h.1, allflat r2 h.2]
    rfl
theorem inP_ok {x : PV} {v : V} (rx : RV K H x v) (hx : flatP x = true) : ∀ {l : List PV} {vs : List V}, RVs K H l vs → l.all flatP = true → inV v vs = inP x l
  | [], _, r, _ => by rw [r.nil_iff]; rfl
  | y :: l, _, r, h => by
    obtain ⟨w, t, rfl, r1, r2⟩ := r.uncons
    rw [List.all_cons, Bool.and_eq_true] at h
    show (eqV w v || inV v t) = (eqP y x || inP x l)
    rw [eqP_ok r1 rx h.1 hx, inP_ok rx hx r2 h.2]
end
theorem op_inG {X : Cx} {op : CmpOp} {neg : Bool} (h1 : OpR X (compareOp op) (rIn X.K neg)) (h2 : OpR X (compareOp op) (fun x y H Q => ∃ i j, x = .str i ∧ y = .str j ∧ Q (.bl (if neg then !(!(Builtin.Str.occurrences j i 0 j.length 1).isEmpty) else !(Builtin.Str.occurrences j i 0 j.length 1).isEmpty)) H)) : OpR X (compareOp op) (upR X.K (sIn neg)) :=
  OpR.weak (h1.or h2) fun v w H Q ⟨x, y, M, Qm, rx, ry, j, h, q⟩ => by
    cases y with
    | str z =>
      cases x with
      | str s => cases rx.str; cases ry.str; exact .inr ⟨s, z, rfl, rfl, q _ _ (.now .i_bl j h)⟩
      | _ => exact (show False from h).elim
    | tup l =>
      obtain ⟨a, vs, rfl, sa, ra⟩ := ry.tup
      have h : (flatP x = true ∧ l.all flatP = true) ∧ Qm (.bl (if neg then !inP x l else inP x l)) M := by cases x <;> exact h
      obtain ⟨⟨f1, f2⟩, h⟩ := h
      exact .inl ⟨a, vs, rfl, .inr sa, flatP_ok rx f1, allflat ra f2, by rw [inP_ok rx f1 ra f2]; exact q _ _ (.now .i_bl j h)⟩
    | rol l =>
      obtain ⟨a, vs, rfl, sa, ra⟩ := ry.rol
      have h : (flatP x = true ∧ l.all flatP = true) ∧ Qm (.bl (if neg then !inP x l else inP x l)) M := by cases x <;> exact h
      obtain ⟨⟨f1, f2⟩, h⟩ := h
      exact .inl ⟨a, vs, rfl, .inl sa.seq, flatP_ok rx f1, allflat ra f2, by rw [inP_ok rx f1 ra f2]; exact q _ _ (.now .i_bl j h)⟩
    | ref a =>
      cases ry.ref
      have h : withL M a fun l => (flatP x = true ∧ l.all flatP = true) ∧ Qm (.bl (if neg then !inP x l else inP x l)) M := by cases x <;> exact h
      obtain ⟨l, e, ⟨f1, f2⟩, h⟩ := withL_some h
      obtain ⟨vs, h1, ra⟩ := j.lst e
      exact .inl ⟨a, vs, rfl, .inl (SqL.of h1), flatP_ok rx f1, allflat ra f2, by rw [inP_ok rx f1 ra f2]; exact q _ _ (.now .i_bl j h)⟩
    | _ => exfalso; cases x <;> exact h
theorem op_inM {X : Cx} : OpR X (compareOp .In) (upR X.K (sIn false)) := op_inG op_in_seq op_in_str
theorem op_notInM {X : Cx} : OpR X (compareOp .NotIn) (upR X.K (sIn true)) := op_inG op_notIn_seq op_notin_str
/-- one sign in a text -/
theorem strIn_one (c : Nat) (z : Str) : strIn ⟨#[c]⟩ z = decide (c ∈ z.cps.toList) := by
  unfold strIn
  exact (PySem.StrLaws.found_one z c).symm ▸ rfl

/-! ### items, slices -/
def sIx : MR2
  | .tup l, .int i, M, Q => ∃ v, atI l i = some v ∧ Q v M
  | .rol l, .int i, M, Q => ∃ v, atI l i = some v ∧ Q v M
  | .ref a, .int i, M, Q => withL M a fun l => ∃ v, atI l i = some v ∧ Q v M
  | .str z, .int i, M, Q => z.length ≤ sizeLine ∧ ∃ c, atI z.cps.toList i = some c ∧ Q (.str ⟨#[c]⟩) M
  | _, _, _, _ => False
section
variable {K : Frg} {H : Hp}
theorem atI_rel {xs : List PV} {vs : List V} {i : Int} {x : PV} (r : RVs K H xs vs) (h : atI xs i = some x) : ∃ v, atI vs i = some v ∧ RV K H x v := by
  unfold atI at h ⊢
  rw [← r.length]
  cases e : ixN xs.length i with
  | none => rw [e] at h; cases h
  | some j =>
    rw [e] at h
    exact r.get h
end
section
variable {X : Cx} {W : WX} {a b c : Expr} {ma mb mc : ME} {pos : Pos}
theorem ix_M : IxR X (upR X.K sIx) := IxR.weak ix_seq fun v w H Q ⟨x, y, M, Qm, rx, ry, j, h, q⟩ => by
  cases x <;> cases y <;> first
    | exact (show False from h).elim
    | (obtain ⟨a, vs, rfl, sa, ra⟩ := rx.tup
       cases ry.int
       obtain ⟨z, e, h⟩ := h
       obtain ⟨v, e2, r⟩ := atI_rel ra e
       exact .inr (.inl ⟨a, vs, _, v, rfl, rfl, sa, e2, q _ _ (.now r j h)⟩))
    | (obtain ⟨a, vs, rfl, sa, ra⟩ := rx.rol
       cases ry.int
       obtain ⟨z, e, h⟩ := h
       obtain ⟨v, e2, r⟩ := atI_rel ra e
       exact .inl ⟨a, vs, _, v, rfl, rfl, sa.seq, e2, q _ _ (.now r j h)⟩)
    | (cases rx.ref
       cases ry.int
       obtain ⟨xs, e0, z, e, h⟩ := withL_some h
       obtain ⟨vs, h1, ra⟩ := j.lst e0
       obtain ⟨v, e2, r⟩ := atI_rel ra e
       exact .inl ⟨_, vs, _, v, rfl, rfl, SqL.of h1, e2, q _ _ (.now r j h)⟩)
    | (cases rx.str
       cases ry.int
       obtain ⟨hz, c, e, h⟩ := h
       exact .inr (.inr ⟨_, _, c, rfl, rfl, hz, e, q _ _ (.now .i_str j h)⟩))

/-- a part of a slice -/
def mPart (m : ME) : MSt → MHp → (Option Int → MHp → Prop) → MX → Prop := fun μ M Q E => m μ M (fun x M1 => match x with
  | .int i => Q (some i) M1
  | _ => False) E
def mNoPart : MSt → MHp → (Option Int → MHp → Prop) → MX → Prop := fun _ M Q _ => Q none M
abbrev MO2 := MSt → MHp → (Option Int → MHp → Prop) → MX → Prop
def upO (K : Frg) (W : WX) (m : MO2) : TO := fun σ H Q => ∃ μ M Qm Xm, RS K H μ σ ∧ JH K H M ∧ m μ M Qm Xm ∧ (∀ o H', (∃ M', JH K H' M' ∧ Keep H M H' M' ∧ Qm o M') → Q o H') ∧ ∀ cls d H', upX K H M Xm cls d H' → W cls d σ H'
abbrev JO (X : Cx) (W : WX) (e : Option Expr) (m : MO2) : Prop := PO X e (upO X.K W m)
theorem PO.weak {e : Option Expr} {t t' : TO} (h : PO X e t) (w : ∀ σ H Q, t' σ H Q → t σ H Q) : PO X e t' := ⟨fun pins s σ H Q I q => h.run pins s σ H Q I (w _ _ _ q)⟩
theorem jo_none : JO X W none mNoPart := PO.weak po_none fun σ H Q ⟨μ, M, Qm, Xm, rs, j, m, q, x⟩ => q _ _ ⟨M, j, Keep.refl _ _, m⟩
theorem jo_some (h : JE X W a ma) : JO X W (some a) (mPart ma) := PO.weak (po_some h) fun σ H Q ⟨μ, M, Qm, Xm, rs, j, m, q, x⟩ => ⟨μ, M, _, Xm, rs, j, m, fun v H1 ⟨y, M1, r1, j1, k1, m1⟩ => by
  cases y <;> first
    | exact (show False from m1).elim
    | exact ⟨_, r1.int, q _ _ ⟨M1, j1, k1, m1⟩⟩, x⟩
def cutP {α : Type} (xs : List α) (lo hi : Option Int) : List α := (xs.drop (HT.sIx xs.length 0 lo)).take (HT.sIx xs.length xs.length hi - HT.sIx xs.length 0 lo)
abbrev MSl := PV → Option Int → Option Int → MHp → MQ → Prop
def sSl : MSl
  | .tup l, lo, hi, M, Q => Q (.tup (cutP l lo hi)) M
  | .ref a, lo, hi, M, Q => withL M a fun l => newL M (cutP l lo hi) Q
  | .rol l, lo, hi, M, Q => newL M (cutP l lo hi) Q
  | .str z, lo, hi, M, Q => z.length ≤ sizeLine ∧ Q (.str (cutS z lo hi)) M
  | _, _, _, _, _ => False
theorem cut_rel {K : Frg} {H : Hp} {xs : List PV} {vs : List V} (lo hi : Option Int) (r : RVs K H xs vs) : RVs K H (cutP xs lo hi) (cutV vs lo hi) := by
  unfold cutP cutV
  rw [← r.length]
  exact (r.drop _).take _
def upSl (K : Frg) (r : MSl) : V → Option Int → Option Int → Hp → VK → Prop := fun v lo hi H Q => ∃ x M Qm, RV K H x v ∧ JH K H M ∧ r x lo hi M Qm ∧ ∀ v' H', upQ K H M Qm v' H' → Q v' H'
theorem SlR.weak {r r' : V → Option Int → Option Int → Hp → VK → Prop} (h : SlR X r) (w : ∀ x lo hi H Q, r' x lo hi H Q → r x lo hi H Q) : SlR X r' := by
  intro pins s σ H x v vl vu lo hi sl Q I rx hs pl pu q
  exact h pins s σ H x v vl vu lo hi sl Q I rx hs pl pu (w _ _ _ _ _ q)
theorem cutV_whole {xs : List V} {lo hi : Option Int} (h : HT.sIx xs.length 0 lo = 0 ∧ HT.sIx xs.length xs.length hi = xs.length) : cutV xs lo hi = xs := by
  unfold cutV
  rw [h.1, h.2]
  simp
theorem sl_M : SlR X (upSl X.K sSl) := SlR.weak ((sl_tupA.or sl_list).or sl_str) fun v lo hi H Q ⟨x, M, Qm, rx, j, h, q⟩ => by
  cases x <;> first
    | exact (show False from h).elim
    | (cases rx.str
       exact .inr ⟨_, rfl, h.1, q _ _ (.now .i_str j h.2)⟩)
    | (obtain ⟨a, vs, rfl, sa, ra⟩ := rx.tup
       refine .inl (.inl ⟨a, vs, rfl, sa, fun e => ?_, fun _ p hp => q _ _ (.tup hp (cut_rel lo hi ra) j h)⟩)
       have z := cut_rel lo hi ra
       rw [cutV_whole e] at z
       exact q _ _ (.now (.i_tup sa z) j h))
    | (obtain ⟨a, vs, rfl, sa, ra⟩ := rx.rol
       exact .inl (.inr ⟨a, vs, rfl, sa.seq, fun p hp => q _ _ (.lst hp (cut_rel lo hi ra) j h)⟩))
    | (cases rx.ref
       obtain ⟨xs, e0, h⟩ := withL_some h
       obtain ⟨vs, h1, ra⟩ := j.lst e0
       exact .inl (.inr ⟨_, vs, rfl, SqL.of h1, fun p hp => q _ _ (.lst hp (cut_rel lo hi ra) j h)⟩))
def mSl (m : ME) (lo hi : MO2) : ME := fun μ M Q E => m μ M (fun x M1 => lo μ M1 (fun l M2 => hi μ M2 (fun u M3 => sSl x l u M3 Q) E) E) E
theorem je_sl {lo hi : Option Expr} {ml mh : MO2} {p2 : Pos} (ha : JE X W a ma) (hl : JO X W lo ml) (hh : JO X W hi mh) : JE X W (.Subscript a (.Slice lo hi none p2) pos) (mSl ma ml mh) :=
  PE.weak (pe_slice sl_M ha hl hh) fun σ H Q ⟨μ, M, Qm, Xm, rs, j, m, q, x⟩ => ⟨μ, M, _, Xm, rs, j, m, fun v H1 ⟨y, M1, r1, j1, k1, m1⟩ => ⟨μ, M1, _, Xm, rs.keep j k1, j1, m1,
    fun o H2 ⟨M2, j2, k2, m2⟩ => ⟨μ, M2, _, Xm, (rs.keep j k1).keep j1 k2, j2, m2, fun o2 H3 ⟨M3, j3, k3, m3⟩ => ⟨y, M3, Qm, (r1.keep j1 k2).keep j2 k3, j3, m3, fun v' H' u => q _ _ (((u.from k3).from k2).from k1)⟩,
      fun _ _ _ u => x _ _ _ ((u.from k2).from k1)⟩, fun _ _ _ u => x _ _ _ (u.from k1)⟩, x⟩

/-! ### built-in functions -/
def sLen : List PV → MHp → MQ → Prop
  | [.tup l], M, Q => Q (.int l.length) M
  | [.rol l], M, Q => Q (.int l.length) M
  | [.ref a], M, Q => withL M a fun l => Q (.int l.length) M
  | [.str z], M, Q => z.length ≤ sizeLine ∧ Q (.int z.length) M
  | _, _, _ => False
theorem one_of {K : Frg} {H : Hp} {x : PV} {vs : List V} (r : RVs K H [x] vs) : ∃ v, vs = [v] ∧ RV K H x v := by
  obtain ⟨v, t, e, h1, h2⟩ := r.uncons
  rw [h2.nil_iff] at e
  exact ⟨v, e, h1⟩
theorem two_of {K : Frg} {H : Hp} {x y : PV} {vs : List V} (r : RVs K H [x, y] vs) : ∃ v w, vs = [v, w] ∧ RV K H x v ∧ RV K H y w := by
  obtain ⟨v, t, e, h1, h2⟩ := r.uncons
  obtain ⟨w, e2, h3⟩ := one_of h2
  subst e2
  exact ⟨v, w, e, h1, h3⟩
theorem call_lenM : CallR X (.builtin "len") (upC X.K sLen) := CallR.weak (call_len_seq.or call_len_str) fun vs H Q ⟨xs, M, Qm, rx, j, h, q⟩ => by
  match xs, h, rx with
  | [.tup l], h, rx =>
    obtain ⟨v, rfl, r⟩ := one_of rx
    obtain ⟨a, ws, rfl, sa, ra⟩ := r.tup
    exact .inl ⟨a, ws, rfl, .inr sa, q _ _ (.now (by rw [← ra.length]; exact .i_int) j h)⟩
  | [.rol l], h, rx =>
    obtain ⟨v, rfl, r⟩ := one_of rx
    obtain ⟨a, ws, rfl, sa, ra⟩ := r.rol
    exact .inl ⟨a, ws, rfl, .inl sa.seq, q _ _ (.now (by rw [← ra.length]; exact .i_int) j h)⟩
  | [.ref a], h, rx =>
    obtain ⟨v, rfl, r⟩ := one_of rx
    cases r.ref
    obtain ⟨xs, e0, h⟩ := withL_some h
    obtain ⟨ws, h1, ra⟩ := j.lst e0
    exact .inl ⟨a, ws, rfl, .inl (SqL.of h1), q _ _ (.now (by rw [← ra.length]; exact .i_int) j h)⟩
  | [.str z], h, rx =>
    obtain ⟨v, rfl, r⟩ := one_of rx
    cases r.str
    exact .inr ⟨z, rfl, h.1, q _ _ (.now .i_int j h.2)⟩
def sAbs : List PV → MHp → MQ → Prop
  | [.int i], M, Q => Q (.int (if i < 0 then -i else i)) M
  | _, _, _ => False
theorem call_absM : CallR X (.builtin "abs") (upC X.K sAbs) := CallR.weak call_abs fun vs H Q ⟨xs, M, Qm, rx, j, h, q⟩ => by
  match xs, h, rx with
  | [.int i], h, rx =>
    obtain ⟨v, rfl, r⟩ := one_of rx
    cases r.int
    exact ⟨i, rfl, q _ _ (.now .i_int j h)⟩
def sInt : List PV → MHp → MQ → Prop
  | [.int i], M, Q => Q (.int i) M
  | [.bl k], M, Q => Q (.int (if k then 1 else 0)) M
  | _, _, _ => False
theorem call_intM : CallR X (.type "int") (upC X.K sInt) := CallR.weak call_int1 fun vs H Q ⟨xs, M, Qm, rx, j, h, q⟩ => by
  match xs, h, rx with
  | [.int i], h, rx =>
    obtain ⟨v, rfl, r⟩ := one_of rx
    cases r.int
    exact .inl ⟨i, rfl, q _ _ (.now .i_int j h)⟩
  | [.bl k], h, rx =>
    obtain ⟨v, rfl, r⟩ := one_of rx
    cases r.bl
    exact .inr ⟨k, rfl, q _ _ (.now .i_int j h)⟩
def sMin2 : List PV → MHp → MQ → Prop
  | [.int i, .int j], M, Q => Q (.int (if j < i then j else i)) M
  | _, _, _ => False
def sMax2 : List PV → MHp → MQ → Prop
  | [.int i, .int j], M, Q => Q (.int (if j > i then j else i)) M
  | _, _, _ => False
theorem call_min2M (hc : X.calm = true) : CallR X (.builtin "min") (upC X.K sMin2) := CallR.weak (call_min2 hc) fun vs H Q ⟨xs, M, Qm, rx, j, h, q⟩ => by
  match xs, h, rx with
  | [.int i, .int k], h, rx =>
    obtain ⟨v, w, rfl, r, r2⟩ := two_of rx
    cases r.int
    cases r2.int
    exact ⟨i, k, rfl, q _ _ (.now .i_int j h)⟩
theorem call_max2M (hc : X.calm = true) : CallR X (.builtin "max") (upC X.K sMax2) := CallR.weak (call_max2 hc) fun vs H Q ⟨xs, M, Qm, rx, j, h, q⟩ => by
  match xs, h, rx with
  | [.int i, .int k], h, rx =>
    obtain ⟨v, w, rfl, r, r2⟩ := two_of rx
    cases r.int
    cases r2.int
    exact ⟨i, k, rfl, q _ _ (.now .i_int j h)⟩
def sStrI : List PV → MHp → MQ → Prop
  | [.int i], M, Q => i.natAbs.log2 < 1920 ∧ Q (.str (toString i)) M
  | _, _, _ => False
theorem call_strIM : CallR X (.type "str") (upC X.K sStrI) := CallR.weak call_str_int fun vs H Q ⟨xs, M, Qm, rx, j, h, q⟩ => by
  match xs, h, rx with
  | [.int i], h, rx =>
    obtain ⟨v, rfl, r⟩ := one_of rx
    cases r.int
    exact ⟨i, rfl, h.1, q _ _ (.now .i_str j h.2)⟩
def sTupOf : List PV → MHp → MQ → Prop
  | [.tup l], M, Q => Q (.tup l) M
  | [.rol l], M, Q => Q (.tup l) M
  | [.ref a], M, Q => withL M a fun l => Q (.tup l) M
  | _, _, _ => False
theorem call_tupM : CallR X (.type "tuple") (upC X.K sTupOf) := CallR.weak call_tuple_of fun vs H Q ⟨xs, M, Qm, rx, j, h, q⟩ => by
  match xs, h, rx with
  | [.tup l], h, rx =>
    obtain ⟨v, rfl, r⟩ := one_of rx
    obtain ⟨a, ws, rfl, sa, ra⟩ := r.tup
    exact ⟨a, ws, rfl, .inr ⟨sa, q _ _ (.now (.i_tup sa ra) j h)⟩⟩
  | [.rol l], h, rx =>
    obtain ⟨v, rfl, r⟩ := one_of rx
    obtain ⟨a, ws, rfl, sa, ra⟩ := r.rol
    exact ⟨a, ws, rfl, .inl ⟨sa.seq, fun p hp => q _ _ (.tup hp ra j h)⟩⟩
  | [.ref a], h, rx =>
    obtain ⟨v, rfl, r⟩ := one_of rx
    cases r.ref
    obtain ⟨xs, e0, h⟩ := withL_some h
    obtain ⟨ws, h1, ra⟩ := j.lst e0
    exact ⟨a, ws, rfl, .inl ⟨SqL.of h1, fun p hp => q _ _ (.tup hp ra j h)⟩⟩
def sLstOf : List PV → MHp → MQ → Prop
  | [.tup l], M, Q => newL M l Q
  | [.rol l], M, Q => newL M l Q
  | [.ref a], M, Q => withL M a fun l => newL M l Q
  | _, _, _ => False
theorem call_lstM : CallR X (.type "list") (upC X.K sLstOf) := CallR.weak call_list_of fun vs H Q ⟨xs, M, Qm, rx, j, h, q⟩ => by
  match xs, h, rx with
  | [.tup l], h, rx =>
    obtain ⟨v, rfl, r⟩ := one_of rx
    obtain ⟨a, ws, rfl, sa, ra⟩ := r.tup
    exact ⟨a, ws, rfl, .inr sa, fun p hp => q _ _ (.lst hp ra j h)⟩
  | [.rol l], h, rx =>
    obtain ⟨v, rfl, r⟩ := one_of rx
    obtain ⟨a, ws, rfl, sa, ra⟩ := r.rol
    exact ⟨a, ws, rfl, .inl sa.seq, fun p hp => q _ _ (.lst hp ra j h)⟩
  | [.ref a], h, rx =>
    obtain ⟨v, rfl, r⟩ := one_of rx
    cases r.ref
    obtain ⟨xs, e0, h⟩ := withL_some h
    obtain ⟨ws, h1, ra⟩ := j.lst e0
    exact ⟨a, ws, rfl, .inl (SqL.of h1), fun p hp => q _ _ (.lst hp ra j h)⟩
/-- isinstance(x, T), T a built-in type by name -/
def tyP (x : PV) (M : MHp) : Option String := match x with
  | .non => some "NoneType"
  | .bl _ => some "bool"
  | .int _ => some "int"
  | .str _ => some "str"
  | .tup _ => some "tuple"
  | .rol _ => some "list"
  | .ref a => match M a with
    | some (.lst _) => some "list"
    | some (.dct _) => some "dict"
    | none => none
theorem tyP_ok {K : Frg} {H : Hp} {M : MHp} {x : PV} {v : V} {t : String} (r : RV K H x v) (j : JH K H M) (e : tyP x M = some t) : TyX K H v (.type t) := by
  cases x with
  | non => cases r.non; cases e; exact .base .non
  | bl b => cases r.bl; cases e; exact .base (.bl _)
  | int b => cases r.int; cases e; exact .base (.int _)
  | str b => cases r.str; cases e; exact .base (.str _)
  | tup l =>
    cases e
    obtain ⟨a, ws, rfl, (s | ⟨o, s⟩) | ⟨o, its, n, s, c, _⟩, ra⟩ := r.tup
    · exact .base (.tup s)
    · exact .fTuple s
    · exact .kTuple s c
  | rol l =>
    cases e
    obtain ⟨a, ws, rfl, ⟨o, s⟩ | ⟨o, its, n, s, c, _⟩, ra⟩ := r.rol
    · exact .base (.frz s)
    · exact .kList s c
  | ref a =>
    cases r.ref
    have e : (match M a with
      | some (.lst _) => some "list"
      | some (.dct _) => some "dict"
      | none => none) = some t := e
    cases q : M a with
    | none => rw [q] at e; cases e
    | some o =>
      rw [q] at e
      have z := j a o q
      cases o with
      | lst xs => cases e; obtain ⟨vs, z, _⟩ := z; exact .base (.lst z)
      | dct xs => cases e; obtain ⟨vs, z, _⟩ := z; exact .base (.dK z)
def sIsi (T : String) (x : PV) (M : MHp) (Q : MQ) : Prop := match tyP x M with
  | some t => optB (kitB t T) fun b => Q (.bl b) M
  | none => False
/-- isinstance(e, T) -/
def mIsi (T : String) (m : ME) : ME := fun μ M Q E => m μ M (fun x M1 => sIsi T x M1 Q) E
theorem je_isi {x : Str} {p p2 : Pos} {T : String} (ha : JE X W a ma) (hg : Gl X "isinstance") (hm : X.mg "isinstance" = none) (hv : bootBuiltins "isinstance" = some (.builtin "isinstance")) (gT : Gl X x) (mT : X.mg x = none) (bT : bootBuiltins x = some (.type T))
    (hn : x ≠ "__name__" := by decide) (hdb : (x == ("__debug__" : Str)) = false := by decide) (he : starEach [a, .Name x p2] X.env = (false, eval a X.env) :: starEach [.Name x p2] X.env := by rfl) (he2 : starEach [.Name x p2] X.env = (false, eval (.Name x p2) X.env) :: starEach [] X.env := by rfl)
    (hpl : (backTo pos (starEach [.Name x p2] X.env)).any (·.1) = false := by rfl) : JE X W (.Call (.Name "isinstance" p) [a, .Name x p2] [] pos) (mIsi T ma) :=
  PE.weak (pe_callB call_isi hg hm hv (pa_cons ha (pa_cons (pe_bltn (v := .ty T) gT mT bT rfl hn hdb) pa_nil he2) he) (by decide) (by decide) he hpl) fun σ H Q ⟨μ, M, Qm, Xm, rs, j, m, q, x⟩ => ⟨μ, M, _, Xm, rs, j, m, fun v H1 ⟨y, M1, r1, j1, k1, m1⟩ => by
    have m1 : sIsi T y M1 Qm := m1
    unfold sIsi at m1
    cases e : tyP y M1 with
    | none => rw [e] at m1; exact m1.elim
    | some t =>
      rw [e] at m1
      obtain ⟨b, e2, m1⟩ := optB_some m1
      exact ⟨v, .ty T, .type t, .type T, b, rfl, .ty T, tyP_ok r1 j1 e, kit_ty e2, q _ _ ((upQ.now .i_bl j1 m1).from k1)⟩, x⟩
end

/-! ### methods of lists and texts -/
def tyM (T : String) (x : PV) (M : MHp) : Prop := match x with
  | .str _ => T = "str"
  | .tup _ => T = "tuple"
  | .rol _ => T = "list"
  | .ref a => match M a with
    | some (.lst _) => T = "list"
    | some (.dct _) => T = "dict"
    | none => False
  | _ => False
abbrev MMt := PV → List PV → MHp → MQ → Prop
def mBM0 (T : String) (r : MMt) (o : ME) : ME := fun μ M Q E => o μ M (fun x M1 => tyM T x M1 ∧ r x [] M1 Q) E
def mBM (T : String) (r : MMt) (o : ME) (m : MA) : ME := fun μ M Q E => o μ M (fun x M1 => tyM T x M1 ∧ m μ M1 (fun xs M2 => r x xs M2 Q) E) E

section
variable {K : Frg} {H : Hp} {M : MHp}
theorem tyM_ok {T : String} {x : PV} {v : V} (r : RV K H x v) (j : JH K H M) (h : tyM T x M) (ht : T ≠ "tuple") : tyV K T v H := by
  cases x with
  | str z => cases r.str; exact h
  | tup l => exact absurd (show T = "tuple" from h) ht
  | rol l => obtain ⟨a, vs, rfl, s, _⟩ := r.rol; exact .inl ⟨h, vs, s.seq⟩
  | ref a =>
    cases r.ref
    have h : (match M a with
      | some (.lst _) => T = "list"
      | some (.dct _) => T = "dict"
      | none => False) := h
    cases e : M a with
    | none => rw [e] at h; exact h.elim
    | some o =>
      rw [e] at h
      have z := j a o e
      cases o with
      | lst xs => obtain ⟨vs, z, _⟩ := z; exact .inl ⟨h, vs, SqL.of z⟩
      | dct xs => obtain ⟨vs, z, _⟩ := z; exact .inr (.inr (.inl ⟨h, .inl ⟨vs, z⟩⟩))
  | _ => exact (show False from h).elim
/-- a list written -/
theorem upQ.set {Q : MQ} {a : Addr} {xs ys : List PV} {ws : List V} {x : PV} {v : V} (e : M a = some (.lst xs)) (r : RVs K H ys ws) (j : JH K H M) (rx : RV K H x v) (q : Q x (updM M a (.lst ys))) : upQ K H M Q v (upd H a (.lst ws)) :=
  ⟨x, _, rx.keep j (keep_set (u := .lst ys) e), j.set (u := .lst ys) e ⟨ws, upd_same, r.keep j (keep_set (u := .lst ys) e)⟩, keep_set e, q⟩
end
section
variable {X : Cx} {W : WX} {o e : Expr} {es : List Expr} {mo : ME} {ma : MA} {name : Str} {apos cpos : Pos} {T id : String} {r : MMt}
theorem je_bm0 (pa : PlainAttrs T) (slot : Slot T name id) (hty : typeOf (.builtin id) = pure (.type "method_descriptor")) (hm : MtR X id (upM X.K r)) (ho : JE X W o mo) (ht : T ≠ "tuple" := by decide)
    (hbase : attributeBase o name X.env (eval o X.env) = eval o X.env := by rfl) (hline : (apos.endLine == cpos.line) = true := by rfl) : JE X W (.Call (.Attribute o name apos) [] [] cpos) (mBM0 T r mo) :=
  PE.weak (pe_bm0 pa slot hty hm ho hbase hline) fun σ H Q ⟨μ, M, Qm, Xm, rs, j, m, q, x⟩ => ⟨μ, M, _, Xm, rs, j, m, fun v H1 ⟨y, M1, r1, j1, k1, ty, m1⟩ => ⟨tyM_ok r1 j1 ty ht, y, [], M1, Qm, r1, .nil, j1, m1, fun v' H' u => q _ _ (u.from k1)⟩, x⟩
theorem je_bm (pa : PlainAttrs T) (slot : Slot T name id) (hty : typeOf (.builtin id) = pure (.type "method_descriptor")) (hm : MtR X id (upM X.K r)) (ho : JE X W o mo) (ha : JA X W (e :: es) ma) (ht : T ≠ "tuple" := by decide)
    (hbase : attributeBase o name X.env (eval o X.env) = eval o X.env := by rfl)
    (hfew : ((backTo cpos (starEach (e :: es) X.env)).all (fun x => !x.1) && (backToKw cpos (keywordEach [] X.env)).all (fun x => x.1.isSome)
      && decide ((e :: es).length + ([] : List Keyword).length + (if ([] : List Keyword).isEmpty then 0 else 1) < 30)) = true := by rfl)
    (hline : (apos.endLine == cpos.line) = true := by rfl) (hs : starEach (e :: es) X.env = (false, eval e X.env) :: starEach es X.env := by rfl) (hplain : (backTo cpos (starEach es X.env)).any (·.1) = false := by rfl) :
    JE X W (.Call (.Attribute o name apos) (e :: es) [] cpos) (mBM T r mo ma) :=
  PE.weak (pe_bm pa slot hty hm ho ha hbase hfew hline hs hplain) fun σ H Q ⟨μ, M, Qm, Xm, rs, j, m, q, x⟩ => ⟨μ, M, _, Xm, rs, j, m, fun v H1 ⟨y, M1, r1, j1, k1, ty, m1⟩ => ⟨tyM_ok r1 j1 ty ht, μ, M1, _, Xm, rs.keep j k1, j1, m1,
    fun vs H2 ⟨ys, M2, r2, j2, k2, m2⟩ => ⟨y, ys, M2, Qm, r1.keep j1 k2, r2, j2, m2, fun v' H' u => q _ _ ((u.from k2).from k1)⟩, fun _ _ _ u => x _ _ _ (u.from k1)⟩, x⟩
def sAppend : MMt
  | .ref a, [y], M, Q => withL M a fun xs => xs.length < sizeLine ∧ Q .non (updM M a (.lst (xs ++ [y])))
  | _, _, _, _ => False
theorem mt_appendM : MtR X "list.append" (upM X.K sAppend) := MtR.weak mt_append fun v vs H Q ⟨x, xs, M, Qm, rx, rxs, j, h, q⟩ => by
  match x, xs, h, rx, rxs with
  | .ref a, [y], h, rx, rxs =>
    cases rx.ref
    obtain ⟨w, rfl, r⟩ := one_of rxs
    obtain ⟨l, e, hz, h⟩ := withL_some h
    obtain ⟨ws, h1, ra⟩ := j.lst e
    exact ⟨a, ws, w, rfl, rfl, h1, by rw [← ra.length]; exact hz, q _ _ (.set e (ra.append (.cons r .nil)) j .i_non h)⟩
def sPop : MMt
  | .ref a, [], M, Q => withL M a fun xs => ∃ y, xs[xs.length - 1]? = some y ∧ Q y (updM M a (.lst xs.dropLast))
  | _, _, _, _ => False
theorem mt_popM : MtR X "list.pop" (upM X.K sPop) := MtR.weak mt_pop fun v vs H Q ⟨x, xs, M, Qm, rx, rxs, j, h, q⟩ => by
  match x, xs, h, rx, rxs with
  | .ref a, [], h, rx, rxs =>
    cases rx.ref
    cases rxs.nil_iff
    obtain ⟨l, e, y, hy, h⟩ := withL_some h
    obtain ⟨ws, h1, ra⟩ := j.lst e
    obtain ⟨w, hw, r⟩ := ra.get hy
    rw [ra.length] at hw
    exact ⟨a, ws, w, rfl, rfl, h1, hw, q _ _ (.set e ra.dropLast j r h)⟩
def sPopAt : MMt
  | .ref a, [.int i], M, Q => withL M a fun xs => (-(2 ^ 63) ≤ i ∧ i < 2 ^ 63) ∧ ∃ k y, seqIndex? i xs.length = some k ∧ xs[k]? = some y ∧ Q y (updM M a (.lst (xs.eraseIdx k)))
  | _, _, _, _ => False
theorem mt_popAtM : MtR X "list.pop" (upM X.K sPopAt) := MtR.weak mt_popAt fun v vs H Q ⟨x, xs, M, Qm, rx, rxs, j, h, q⟩ => by
  match x, xs, h, rx, rxs with
  | .ref a, [.int i], h, rx, rxs =>
    cases rx.ref
    obtain ⟨w, rfl, r⟩ := one_of rxs
    cases r.int
    obtain ⟨l, e, ⟨z1, z2⟩, k, y, hk, hy, h⟩ := withL_some h
    obtain ⟨ws, h1, ra⟩ := j.lst e
    obtain ⟨w, hw, r⟩ := ra.get hy
    rw [ra.length] at hk
    exact ⟨a, ws, i, k, w, rfl, rfl, h1, z1, z2, hk, hw, q _ _ (.set e (ra.eraseIdx k) j r h)⟩
def sInsert : MMt
  | .ref a, [.int i, y], M, Q => withL M a fun xs => (xs.length < sizeLine ∧ 0 ≤ i ∧ i < 2 ^ 63) ∧ Q .non (updM M a (.lst (xs.take i.toNat ++ [y] ++ xs.drop i.toNat)))
  | _, _, _, _ => False
theorem mt_insertM : MtR X "list.insert" (upM X.K sInsert) := MtR.weak mt_insert fun v vs H Q ⟨x, xs, M, Qm, rx, rxs, j, h, q⟩ => by
  match x, xs, h, rx, rxs with
  | .ref a, [.int i, y], h, rx, rxs =>
    cases rx.ref
    obtain ⟨u, w, rfl, r0, r⟩ := two_of rxs
    cases r0.int
    obtain ⟨l, e, ⟨z1, z2, z3⟩, h⟩ := withL_some h
    obtain ⟨ws, h1, ra⟩ := j.lst e
    exact ⟨a, ws, i, w, rfl, rfl, h1, by rw [← ra.length]; exact z1, z2, z3, q _ _ (.set e (((ra.take _).append (.cons r .nil)).append (ra.drop _)) j .i_non h)⟩
def sExtend : MMt
  | .ref a, [.ref b], M, Q => withL M a fun xs => withL M b fun ys => xs.length + ys.length ≤ sizeLine ∧ Q .non (updM M a (.lst (xs ++ ys)))
  | _, _, _, _ => False
theorem mt_extendM : MtR X "list.extend" (upM X.K sExtend) := MtR.weak mt_extend fun v vs H Q ⟨x, xs, M, Qm, rx, rxs, j, h, q⟩ => by
  match x, xs, h, rx, rxs with
  | .ref a, [.ref b], h, rx, rxs =>
    cases rx.ref
    obtain ⟨w, rfl, r⟩ := one_of rxs
    cases r.ref
    obtain ⟨l, e, h⟩ := withL_some h
    obtain ⟨l2, e2, hz, h⟩ := withL_some h
    obtain ⟨ws, h1, ra⟩ := j.lst e
    obtain ⟨ws2, h2, rb⟩ := j.lst e2
    exact ⟨a, b, ws, ws2, rfl, rfl, h1, h2, by rw [← ra.length, ← rb.length]; exact hz, q _ _ (.set e (ra.append rb) j .i_non h)⟩
def sUpper : MMt
  | .str a, [], M, Q => a.length ≤ 5592405 ∧ Q (.str (Txt.upper a)) M
  | _, _, _, _ => False
theorem mt_upperM : MtR X "str.upper" (upM X.K sUpper) := MtR.weak mt_upper fun v vs H Q ⟨x, xs, M, Qm, rx, rxs, j, h, q⟩ => by
  match x, xs, h, rx, rxs with
  | .str a, [], h, rx, rxs =>
    cases rx.str
    cases rxs.nil_iff
    exact ⟨a, rfl, rfl, h.1, q _ _ (.now .i_str j h.2)⟩
end

/-! ### statements -/
def mNext : MS := fun D μ M => D.nx μ M
def mBreak : MS := fun D μ M => D.bk μ M
def mCont : MS := fun D μ M => D.ct μ M
def mNever : MS := fun _ _ _ => False
def mSeq (a b : MS) : MS := fun D μ M => a { D with nx := b D } μ M
def mDrop (a : ME) : MS := fun D μ M => a μ M (fun _ M1 => D.nx μ M1) (fun e M1 => D.ex e μ M1)
def mRet (a : ME) : MS := fun D μ M => a μ M D.rt (fun e M1 => D.ex e μ M1)
def mRetN : MS := fun D _ M => D.rt .non M
def mIfS (t : MT) (a b : MS) : MS := fun D μ M => t μ M (fun c M1 => if c = true then a D μ M1 else b D μ M1) (fun e M1 => D.ex e μ M1)
abbrev MG := PV → MSt → MHp → (MSt → MHp → Prop) → (MExc → MSt → MHp → Prop) → Prop
def upG (K : Frg) (W : WX) (g : MG) : TG := fun v σ H N => ∃ x μ M Nm Em, RV K H x v ∧ RS K H μ σ ∧ JH K H M ∧ g x μ M Nm Em ∧ (∀ σ' H', upN K H M Nm σ' H' → N σ' H') ∧ ∀ cls d σ' H', upXS K H M Em cls d σ' H' → W cls d σ' H'
abbrev JG (X : Cx) (W : WX) (tg : Expr) (g : MG) : Prop := PG X tg (upG X.K W g)
def mAsg (a : ME) (g : MG) : MS := fun D μ M => a μ M (fun x M1 => g x μ M1 D.nx D.ex) (fun e M1 => D.ex e μ M1)
def gNameM (i : Nat) : MG := fun x μ M N _ => N (μ.set i (some x)) M
section
variable {X : Cx} {W : WX} {st : Stmt} {rest : List Stmt} {a b : MS} {e : Expr} {me : ME} {pos : Pos}
theorem UpD.here {K : Frg} {H : Hp} {M : MHp} {W : WX} {Dm : MEnds} {D : Ends} {μ : MSt} {σ : St} (u : UpD K H M W Dm D) (rs : RS K H μ σ) (j : JH K H M) (h : Dm.nx μ M) : D.nx σ H := u.nx _ _ ⟨μ, M, rs, j, Keep.refl _ _, h⟩
theorem UpD.thr {K : Frg} {H : Hp} {M : MHp} {W : WX} {Dm : MEnds} {D : Ends} {μ : MSt} {σ : St} (u : UpD K H M W Dm D) (rs : RS K H μ σ) (j : JH K H M) : ∀ cls d H', upX K H M (fun e M1 => Dm.ex e μ M1) cls d H' → W cls d σ H' :=
  fun cls d H' ⟨e, M', r, j', k, h⟩ => u.ex _ _ _ _ ⟨e, μ, M', r, rs.keep j k, j', k, h⟩
theorem jb_nil : JB X W [] mNext := PSs.weak pss_nil fun D σ H ⟨μ, M, Dm, rs, j, m, u⟩ => u.here rs j m
theorem jb_cons (h1 : JS X W st a) (h2 : JB X W rest b) : JB X W (st :: rest) (mSeq a b) :=
  PSs.weak (pss_cons h1 h2) fun D σ H ⟨μ, M, Dm, rs, j, m, u⟩ => ⟨μ, M, { Dm with nx := b Dm }, rs, j, m, ⟨fun σ' H' ⟨μ', M', rs', j', k', m'⟩ => ⟨μ', M', Dm, rs', j', m', u.from k'⟩, u.rt, u.bk, u.ct, u.ex⟩⟩
theorem jb_one (h1 : JS X W st a) : JB X W [st] a := pss_one h1
theorem js_pass : JS X W (.Pass pos) mNext := PS.weak ps_pass fun D σ H ⟨μ, M, Dm, rs, j, m, u⟩ => u.here rs j m
theorem js_break : JS X W (.Break pos) mBreak := PS.weak ps_break fun D σ H ⟨μ, M, Dm, rs, j, m, u⟩ => u.bk _ _ ⟨μ, M, rs, j, Keep.refl _ _, m⟩
theorem js_continue : JS X W (.Continue pos) mCont := PS.weak ps_continue fun D σ H ⟨μ, M, Dm, rs, j, m, u⟩ => u.ct _ _ ⟨μ, M, rs, j, Keep.refl _ _, m⟩
theorem js_never : JS X W st mNever := PS.weak ps_never fun D σ H ⟨μ, M, Dm, rs, j, m, u⟩ => m
theorem jb_never {sts : List Stmt} : JB X W sts mNever := PSs.weak pss_never fun D σ H ⟨μ, M, Dm, rs, j, m, u⟩ => m
theorem js_expr (he : JE X W e me) (hs : swapsWith e none pos.line X.env = pure false := by rfl) : JS X W (.Expr e pos) (mDrop me) :=
  PS.weak (ps_expr he hs) fun D σ H ⟨μ, M, Dm, rs, j, m, u⟩ => ⟨μ, M, _, _, rs, j, m, fun v H1 ⟨y, M1, r1, j1, k1, m1⟩ => u.nx _ _ ⟨μ, M1, rs.keep j k1, j1, k1, m1⟩, u.thr rs j⟩
theorem js_ret (he : JE X W e me) : JS X W (.Return (some e) pos) (mRet me) :=
  PS.weak (ps_ret he) fun D σ H ⟨μ, M, Dm, rs, j, m, u⟩ => ⟨μ, M, _, _, rs, j, m, u.rt, u.thr rs j⟩
theorem js_retN : JS X W (.Return none pos) mRetN := PS.weak ps_retN fun D σ H ⟨μ, M, Dm, rs, j, m, u⟩ => u.rt _ _ (.now .i_non j m)
theorem js_if {c : Expr} {t : MT} {sa sb : List Stmt} (hc : JT X W c t) (ha : JB X W sa a) (hb : JB X W sb b) : JS X W (.If c sa sb pos) (mIfS t a b) :=
  PS.weak (ps_if hc ha hb) fun D σ H ⟨μ, M, Dm, rs, j, m, u⟩ => ⟨μ, M, _, _, rs, j, m, fun c H1 ⟨M1, j1, k1, m1⟩ =>
    ite_if m1 (fun m1 => ⟨μ, M1, Dm, rs.keep j k1, j1, m1, u.from k1⟩) fun m1 => ⟨μ, M1, Dm, rs.keep j k1, j1, m1, u.from k1⟩, u.thr rs j⟩
/-! targets -/
theorem jg_name {i : Nat} {x : Str} (hN : X.N.Nodup) (hi : X.N[i]? = some x) (hx : Loc X.env.scope x) (hf : X.fn x = true ∨ X.env.scope.names.lookup x = some .local := by first | exact .inl rfl | exact .inr rfl | assumption) : JG X W (.Name x pos) (gNameM i) :=
  ⟨fun pins s σ H v u Q I r ⟨x, μ, M, Nm, Em, rx, rs, j, m, n, _⟩ => (pg_name hN hi hx hf).run pins s σ H v u Q I r (n _ _ ⟨_, M, rs.set i rx, j, Keep.refl _ _, m⟩)⟩
abbrev MGs := List PV → MSt → MHp → (MSt → MHp → Prop) → (MExc → MSt → MHp → Prop) → Prop
def upGs (K : Frg) (W : WX) (g : MGs) : TGs := fun vs σ H N => ∃ xs μ M Nm Em, RVs K H xs vs ∧ RS K H μ σ ∧ JH K H M ∧ g xs μ M Nm Em ∧ (∀ σ' H', upN K H M Nm σ' H' → N σ' H') ∧ ∀ cls d σ' H', upXS K H M Em cls d σ' H' → W cls d σ' H'
abbrev JGs (X : Cx) (W : WX) (ts : List Expr) (g : MGs) : Prop := PGs X ts (upGs X.K W g)
def gNilM : MGs := fun xs μ M N _ => xs = [] ∧ N μ M
def gConsM (g : MG) (r : MGs) : MGs := fun xs μ M N E => match xs with
  | x :: ys => g x μ M (fun μ' M' => r ys μ' M' N E) E
  | [] => False
theorem jgs_nil : JGs X W [] gNilM := ⟨fun pins s σ H vs us Q I r ⟨xs, μ, M, Nm, Em, rx, rs, j, ⟨e, m⟩, n, _⟩ => pgs_nil.run pins s σ H vs us Q I r ⟨by subst e; exact rx.nil_iff, n _ _ ⟨μ, M, rs, j, Keep.refl _ _, m⟩⟩⟩
theorem jgs_cons {es : List Expr} {g : MG} {r : MGs} (h1 : JG X W e g) (h2 : JGs X W es r) (hs : (assignEach (e :: es) X.env).map (·.2) = assign e X.env :: (assignEach es X.env).map (·.2) := by rfl) : JGs X W (e :: es) (gConsM g r) :=
  ⟨fun pins s σ H vs us Q I rr ⟨xs, μ, M, Nm, Em, rx, rs, j, m, n, x⟩ => (pgs_cons h1 h2 hs).run pins s σ H vs us Q I rr (by
    match xs, m, rx with
    | y :: ys, m, rx =>
      obtain ⟨v, t, e, r1, r2⟩ := rx.uncons
      exact ⟨v, t, e, y, μ, M, _, Em, r1, rs, j, m, fun σ' H' ⟨μ', M', rs', j', k', m'⟩ => ⟨ys, μ', M', Nm, Em, r2.keep j k', rs', j', m', fun _ _ u => n _ _ (u.from k'), fun _ _ _ _ u => x _ _ _ _ (u.from k')⟩, x⟩)⟩
/-- (a, b, ..) = a tuple of that length -/
def gTupM (n : Nat) (g : MGs) : MG := fun x μ M N E => match x with
  | .tup l => l.length = n ∧ g l μ M N E
  | _ => False
theorem jg_tup {es : List Expr} {k : Nat} {g : MGs} {n : Nat} (hc : X.calm = true) (h : JGs X W es g) (hn : (assignEach es X.env).length = n := by rfl) (hst : (assignEach es X.env).findIdx? (·.1) = none := by rfl) : JG X W (.Tuple es k pos) (gTupM n g) :=
  ⟨fun pins s σ H v u Q I r ⟨x, μ, M, Nm, Em, rx, rs, j, m, nn, xx⟩ => (pg_tup hc h hn hst).run pins s σ H v u Q I r (by
    cases x <;> first
      | exact (show False from m).elim
      | (obtain ⟨a, vs, e, s, ra⟩ := rx.tup
         obtain ⟨hl, m⟩ := m
         exact ⟨a, vs, e, s, by rw [← ra.length]; exact hl, _, μ, M, Nm, Em, ra, rs, j, m, nn, xx⟩))⟩
/-- a[i] = v -/
def sSet (o i x : PV) (M : MHp) (N : MHp → Prop) : Prop := match o, i with
  | .ref a, .int k => withL M a fun xs => ∃ n, ixN xs.length k = some n ∧ N (updM M a (.lst (xs.set n x)))
  | _, _ => False
def gSubM (o i : ME) : MG := fun x μ M N E => o μ M (fun y M1 => i μ M1 (fun z M2 => sSet y z x M2 fun M3 => N μ M3) (fun e M2 => E e μ M2)) (fun e M1 => E e μ M1)
theorem jg_sub {o i : Expr} {mo mi : ME} (ho : JE X W o mo) (hi : JE X W i mi)
    (ha : ∀ v, assign (.Subscript o i pos) X.env v = (do
      let ov ← holding [v] (eval o X.env)
      let iv ← holding [v, ov] (eval i X.env)
      standAt pos
      holding [v, ov, iv] (setItem ov iv v)
      release [v, ov, iv] []) := by intro _; rfl) : JG X W (.Subscript o i pos) (gSubM mo mi) :=
  ⟨fun pins s σ H v u Q I r ⟨x, μ, M, Nm, Em, rx, rs, j, m, n, xx⟩ => (pg_sub ho hi set_list ha).run pins s σ H v u Q I r
    ⟨μ, M, _, _, rs, j, m, fun ov H1 ⟨y, M1, r1, j1, k1, m1⟩ => ⟨μ, M1, _, _, rs.keep j k1, j1, m1, fun iv H2 ⟨z, M2, r2, j2, k2, m2⟩ => by
      cases y <;> cases z <;> first
        | exact (show False from m2).elim
        | (cases (r1.keep j1 k2).ref
           cases r2.int
           obtain ⟨xs, e, k, hk, m2⟩ := withL_some m2
           obtain ⟨ws, h1, ra⟩ := j2.lst e
           have rx2 := (rx.keep j k1).keep j1 k2
           refine ⟨_, ws, _, k, rfl, rfl, h1, by rw [← ra.length]; exact hk, n _ _ ⟨μ, _, ?_, ?_, (k1.trans k2).trans (keep_set e), m2⟩⟩
           · exact ((rs.keep j k1).keep j1 k2).keep j2 (keep_set (u := .lst (xs.set k x)) e)
           · exact j2.set (u := .lst (xs.set k x)) e ⟨_, upd_same, (RVs.set rx2 k ra).keep j2 (keep_set (u := .lst (xs.set k x)) e)⟩),
      fun cls d H' ⟨ee, M', r', j', k', h'⟩ => xx _ _ _ _ ⟨ee, μ, M', r', (rs.keep j k1).keep j1 k', j', k1.trans k', h'⟩⟩, fun cls d H' ⟨ee, M', r', j', k', h'⟩ => xx _ _ _ _ ⟨ee, μ, M', r', rs.keep j k', j', k', h'⟩⟩⟩
theorem js_asg {tg : Expr} {g : MG} (he : JE X W e me) (hg : JG X W tg g) (hs : swapsWithSole [tg] e pos.line X.env = pure false := by rfl) (hw : swappedStores [tg] e X.env = pure none := by rfl)
    (h1 : (assignEach [tg] X.env).map (·.2) = [assign tg X.env] := by rfl) : JS X W (.Assign [tg] e pos) (mAsg me g) :=
  PS.weak (ps_asg he hg hs hw h1) fun D σ H ⟨μ, M, Dm, rs, j, m, u⟩ => ⟨μ, M, _, _, rs, j, m, fun v H1 ⟨y, M1, r1, j1, k1, m1⟩ => ⟨y, μ, M1, _, _, r1, rs.keep j k1, j1, m1, fun _ _ n => u.nx _ _ (n.from k1), fun _ _ _ _ n => u.ex _ _ _ _ (n.from k1)⟩, u.thr rs j⟩
theorem js_set {i : Nat} {x : Str} {p : Pos} (hN : X.N.Nodup) (hi : X.N[i]? = some x) (hx : Loc X.env.scope x) (he : JE X W e me) (hs : swapsWith e (some (.Name x p)) pos.line X.env = pure false := by rfl) (hf : X.fn x = true ∨ X.env.scope.names.lookup x = some .local := by first | exact .inl rfl | exact .inr rfl | assumption) :
    JS X W (.Assign [.Name x p] e pos) (mAsg me (gNameM i)) :=
  PS.weak (ps_set hN hi hx he hs hf) fun D σ H ⟨μ, M, Dm, rs, j, m, u⟩ => ⟨μ, M, _, _, rs, j, m, fun v H1 ⟨y, M1, r1, j1, k1, m1⟩ => u.nx _ _ ⟨_, M1, (rs.keep j k1).set i r1, j1, k1, m1⟩, u.thr rs j⟩
/-- a, b = x, y -/
def mPar (i k : Nat) (a : MA) : MS := fun D μ M => a μ M (fun xs M1 => match xs with
  | [x, y] => D.nx ((μ.set i (some x)).set k (some y)) M1
  | _ => False) (fun e M1 => D.ex e μ M1)
theorem js_par {i k : Nat} {x y : Str} {ea eb : Expr} {m : MA} {px py pt : Pos} {kt k2 pt2} (hc : X.calm = true) (hN : X.N.Nodup) (hi : X.N[i]? = some x) (hj : X.N[k]? = some y) (hij : i ≠ k)
    (hx : X.env.scope.names.lookup x = some .local) (hy : X.env.scope.names.lookup y = some .local) (ha : JA X W [ea, eb] m)
    (hw : swappedStores [.Tuple [.Name x px, .Name y py] kt pt] (.Tuple [ea, eb] k2 pt2) X.env = pure (some [x, y]))
    (hs : swapsWithSole [.Tuple [.Name x px, .Name y py] kt pt] (.Tuple [ea, eb] k2 pt2) pos.line X.env = pure false := by rfl) :
    JS X W (.Assign [.Tuple [.Name x px, .Name y py] kt pt] (.Tuple [ea, eb] k2 pt2) pos) (mPar i k m) :=
  PS.weak (ps_par hc hN hi hj hij hx hy ha hw hs) fun D σ H ⟨μ, M, Dm, rs, j, m, u⟩ => ⟨μ, M, _, _, rs, j, m, fun vs H1 ⟨ys, M1, r1, j1, k1, m1⟩ => by
    match ys, m1, r1 with
    | [p, q], m1, r1 =>
      obtain ⟨v, w, e, ra, rb⟩ := two_of r1
      exact ⟨v, w, e, u.nx _ _ ⟨_, M1, ((rs.keep j k1).set i ra).set k rb, j1, k1, m1⟩⟩, u.thr rs j⟩
/-- x += e -/
def mAug (i : Nat) (r : MR2) (me : ME) : MS := fun D μ M => getS μ i fun x => me μ M (fun y M1 => r x y M1 (fun z M2 => D.nx (μ.set i (some z)) M2)) (fun e M1 => D.ex e μ M1)
theorem js_aug {i : Nat} {x : Str} {op : Operator} {r : MR2} {p : Pos} (hN : X.N.Nodup) (hi : X.N[i]? = some x) (hx : Loc X.env.scope x) (he : JE X W e me) (ho : OpR X (inplaceOp op) (upR X.K r)) (hf : X.fn x = true ∨ X.env.scope.names.lookup x = some .local := by first | exact .inl rfl | exact .inr rfl | assumption) :
    JS X W (.AugAssign (.Name x p) op e pos) (mAug i r me) :=
  PS.weak (ps_aug hN hi hx he ho hf) fun D σ H ⟨μ, M, Dm, rs, j, m, u⟩ => by
    obtain ⟨x, e, m⟩ := getS_some m
    obtain ⟨v, e2, rx⟩ := rs.at_ i x e
    exact ⟨v, e2, μ, M, _, _, rs, j, m, fun w H1 ⟨y, M1, r1, j1, k1, m1⟩ => ⟨x, y, M1, _, rx.keep j k1, r1, j1, m1, fun v' H' ⟨z, M2, r2, j2, k2, m2⟩ => u.nx _ _ ⟨_, M2, ((rs.keep j k1).keep j1 k2).set i r2, j2, k1.trans k2, m2⟩⟩, u.thr rs j⟩
end
end PL
end L2
set_option maxRecDepth 100000
set_option maxHeartbeats 2000000
/-! PL3: loops, comprehensions, calls, exceptions, defs -/
namespace L2
namespace PL
open PySem PySem.Spec PyProof.Rows

/-! ### what is walked -/
inductive MIt where
  | fix (xs : List PV)
  | live (a : Addr) (xs : List PV)
def MIt.items : MIt → List PV
  | .fix xs => xs
  | .live _ xs => xs
def MIt.ok : MIt → MHp → Prop
  | .fix _, _ => True
  | .live a xs, M => M a = some (.lst xs)
/-- what holds while it is walked: a list must stand as it stood -/
def MIt.w : MIt → MHp → Prop → Prop
  | .fix _, _, P => P
  | .live a xs, M, P => M a = some (.lst xs) ∧ P
theorem MIt.w_ok {it : MIt} {M : MHp} {P : Prop} (h : it.w M P) : it.ok M ∧ P := by
  cases it with
  | fix xs => exact ⟨trivial, h⟩
  | live a xs => exact h
abbrev MI := MSt → MHp → (MIt → MHp → Prop) → MX → Prop
structure ItR (K : Frg) (H : Hp) (M : MHp) (J : It) (it : MIt) : Prop where
  go : ∀ H' M' i, JH K H' M' → Keep H M H' M' → it.ok M' → i < it.items.length → J.go i H'
  yld : ∀ H' M' i v H3, JH K H' M' → Keep H M H' M' → it.ok M' → i < it.items.length → J.yld i H' v H3 → JH K H3 M' ∧ Keep H' M' H3 M' ∧ ∃ x, it.items[i]? = some x ∧ RV K H3 x v
  stop : ∀ H' M', JH K H' M' → Keep H M H' M' → it.ok M' → J.stop it.items.length H'
def upI (K : Frg) (W : WX) (mi : MI) : TI := fun σ H R => ∃ μ M Rm Xm, RS K H μ σ ∧ JH K H M ∧ mi μ M Rm Xm ∧ (∀ J H', (∃ it M', ItR K H' M' J it ∧ JH K H' M' ∧ Keep H M H' M' ∧ Rm it M') → R J H') ∧ ∀ cls d H', upX K H M Xm cls d H' → W cls d σ H'
abbrev JI (X : Cx) (W : WX) (tg iter : Expr) (mi : MI) : Prop := PI X tg iter (upI X.K W mi)
section
variable {X : Cx} {W : WX} {tg e : Expr} {m : ME} {ma : MA} {p pos : Pos}
theorem PI.weak {iter : Expr} {w w' : TI} (h : PI X tg iter w) (i : ∀ σ H R, w' σ H R → w σ H R) : PI X tg iter w' := ⟨fun pins s σ H R I q => h.run pins s σ H R I (i _ _ _ q)⟩
theorem PI.or {iter : Expr} {w w' : TI} (h : PI X tg iter w) (h' : PI X tg iter w') : PI X tg iter (fun σ H R => w σ H R ∨ w' σ H R) := ⟨fun pins s σ H R I q => q.elim (h.run pins s σ H R I) (h'.run pins s σ H R I)⟩
/-- a value that is walked as a sequence -/
def seqP (x : PV) (M : MHp) (k : MIt → Prop) : Prop := match x with
  | .tup xs => k (.fix xs)
  | .rol xs => k (.fix xs)
  | .ref a => withL M a fun xs => k (.live a xs)
  | _ => False
def iSeq (m : ME) : MI := fun μ M R E => m μ M (fun x M1 => seqP x M1 fun it => R it M1) E
/-- e gives a list or a tuple -/
def tSeqs (K : Frg) (te : TE) : TI := fun σ H R => te σ H fun x H1 => ∃ a, x = .ref a ∧ (((∃ xs, SqL K H1 a xs) ∧ R (Itl K a) H1) ∨ ((∃ xs, SqT K H1 a xs) ∧ R (Itt K a) H1))
theorem pi_seqs {l : Expr} {tl : TE} (hl : PE X l tl) : PI X tg l (tSeqs X.K tl) := by
  refine ⟨fun pins s σ H R I h => ?_⟩
  refine thn (hl.run pins s σ H _ I h) fun v s1 ⟨x, H1, I1, r1, q1⟩ => ?_
  obtain ⟨a, e, q1⟩ := q1
  subst e
  cases r1
  rcases q1 with ⟨⟨xs, hq⟩, q⟩ | ⟨⟨xs, hq⟩, q⟩
  · obtain ⟨its, rv, p, hz⟩ := I1.list hq
    refine wpAny_pyIter_list p.isList ?_
    refine ⟨s1.heap.objs.size, [s1.heap.objs.size], _, _, H1, rfl, I1.kept (t' := s1.toks) fun b o e => Heap.get?_push_of_some _ e, turn_list a _, ⟨_, Heap.get?_push_size _ rfl, rfl, rfl⟩, fun b hb => ?_, q⟩
    have e : b = s1.heap.objs.size := by simpa using hb
    subst e
    exact I1.fpOk (Nat.le_refl _) (I1.hok.fresh (Nat.le_refl _))
  · obtain ⟨its, rv, p, hz⟩ := I1.tuple hq
    refine wpAny_pyIter_tuple (show s1.heap.IsTuple a its.toArray from p) ?_
    refine ⟨s1.heap.objs.size, [s1.heap.objs.size], _, _, H1, rfl, I1.kept (t' := s1.toks) fun b o e => Heap.get?_push_of_some _ e, turn_tuple a _, ⟨_, Heap.get?_push_size _ rfl, rfl, rfl⟩, fun b hb => ?_, q⟩
    have e : b = s1.heap.objs.size := by simpa using hb
    subst e
    exact I1.fpOk (Nat.le_refl _) (I1.hok.fresh (Nat.le_refl _))
theorem ji_seq (h : JE X W e m) : JI X W tg e (iSeq m) := PI.weak (pi_seqs h) fun σ H R ⟨μ, M, Rm, Xm, rs, j, m, q, x⟩ => ⟨μ, M, _, Xm, rs, j, m, fun v H1 ⟨y, M1, r1, j1, k1, m1⟩ => by
  cases y <;> first
    | exact (show False from m1).elim
    | (obtain ⟨a, vs, rfl, sa, ra⟩ := r1.tup
       refine ⟨a, rfl, .inr ⟨⟨vs, sa⟩, q _ _ ⟨_, M1, ⟨fun H' M' i j' k' _ hi => ?_, fun H' M' i v H3 j' k' _ hi hy => ?_, fun H' M' j' k' _ => ?_⟩, j1, k1, m1⟩⟩⟩
       · obtain ⟨w, hw, _⟩ := ra.get (List.getElem?_eq_getElem hi)
         exact ⟨vs, w, SqT.keep j1 k' sa, hw⟩
       · obtain ⟨rfl, hy⟩ := hy
         have z := hy vs (SqT.keep j1 k' sa)
         obtain ⟨x, hx, r⟩ := ra.getV z
         exact ⟨j', Keep.refl _ _, x, hx, r.keep j1 k'⟩
       · exact ⟨vs, SqT.keep j1 k' sa, by show vs.length ≤ _; rw [← ra.length]; exact Nat.le_refl _⟩)
    | (obtain ⟨a, vs, rfl, sa, ra⟩ := r1.rol
       refine ⟨a, rfl, .inl ⟨⟨vs, sa.seq⟩, q _ _ ⟨_, M1, ⟨fun H' M' i j' k' _ hi => ?_, fun H' M' i v H3 j' k' _ hi hy => ?_, fun H' M' j' k' _ => ?_⟩, j1, k1, m1⟩⟩⟩
       · obtain ⟨w, hw, _⟩ := ra.get (List.getElem?_eq_getElem hi)
         exact ⟨vs, w, (RoL.keep j1 k' sa).seq, hw⟩
       · obtain ⟨rfl, hy⟩ := hy
         have z := hy vs (RoL.keep j1 k' sa).seq
         obtain ⟨x, hx, r⟩ := ra.getV z
         exact ⟨j', Keep.refl _ _, x, hx, r.keep j1 k'⟩
       · exact ⟨vs, (RoL.keep j1 k' sa).seq, by show vs.length ≤ _; rw [← ra.length]; exact Nat.le_refl _⟩)
    | (cases r1.ref
       obtain ⟨xs, e, m1⟩ := withL_some m1
       obtain ⟨ws, h1, ra⟩ := j1.lst e
       refine ⟨_, rfl, .inl ⟨⟨ws, SqL.of h1⟩, q _ _ ⟨_, M1, ⟨fun H' M' i j' k' ok hi => ?_, fun H' M' i v H3 j' k' ok hi hy => ?_, fun H' M' j' k' ok => ?_⟩, j1, k1, m1⟩⟩⟩
       · obtain ⟨ws, h1, ra⟩ := j'.lst ok
         obtain ⟨w, hw, _⟩ := ra.get (List.getElem?_eq_getElem hi)
         exact ⟨ws, w, SqL.of h1, hw⟩
       · obtain ⟨ws, h1, ra⟩ := j'.lst ok
         obtain ⟨rfl, hy⟩ := hy
         have z := hy ws (SqL.of h1)
         obtain ⟨x, hx, r⟩ := ra.getV z
         exact ⟨j', Keep.refl _ _, x, hx, r⟩
       · obtain ⟨ws, h1, ra⟩ := j'.lst ok
         exact ⟨ws, SqL.of h1, by show ws.length ≤ _; rw [← ra.length]; exact Nat.le_refl _⟩), x⟩
/-- lo, lo + c, .. (n of them) -/
def rangeP (lo c : Int) (n : Nat) : List PV := (List.range n).map fun i => .int (lo + (i : Nat) * c)
theorem rangeP_len (lo c : Int) (n : Nat) : (rangeP lo c n).length = n := by simp [rangeP]
theorem rangeP_get {lo c : Int} {n i : Nat} (h : i < n) : (rangeP lo c n)[i]? = some (.int (lo + (i : Nat) * c)) := by simp [rangeP, h]
theorem itr_ok {K : Frg} {H : Hp} {M : MHp} (lo : Int) (n : Nat) : ItR K H M (Itr lo n) (.fix (rangeP lo 1 n)) where
  go := fun H' M' i j k _ hi => by
    rw [show (MIt.fix (rangeP lo 1 n)).items.length = n from rangeP_len ..] at hi
    exact hi
  yld := fun H' M' i v H3 j k _ hi hy => by
    rw [show (MIt.fix (rangeP lo 1 n)).items.length = n from rangeP_len ..] at hi
    obtain ⟨rfl, rfl⟩ := hy
    exact ⟨j, Keep.refl _ _, _, rangeP_get hi, by rw [Int.mul_one]; exact .i_int⟩
  stop := fun H' M' j k _ => by
    show n ≤ (rangeP lo 1 n).length
    rw [rangeP_len]
    exact Nat.le_refl _
theorem itc_ok {K : Frg} {H : Hp} {M : MHp} (lo c : Int) (n : Nat) : ItR K H M (Itc lo c n) (.fix (rangeP lo c n)) where
  go := fun H' M' i j k _ hi => by
    rw [show (MIt.fix (rangeP lo c n)).items.length = n from rangeP_len ..] at hi
    exact hi
  yld := fun H' M' i v H3 j k _ hi hy => by
    rw [show (MIt.fix (rangeP lo c n)).items.length = n from rangeP_len ..] at hi
    obtain ⟨rfl, rfl⟩ := hy
    exact ⟨j, Keep.refl _ _, _, rangeP_get hi, .i_int⟩
  stop := fun H' M' j k _ => by
    show n ≤ (rangeP lo c n).length
    rw [rangeP_len]
    exact Nat.le_refl _
def iRng (ma : MA) : MI := fun μ M R E => ma μ M (fun xs M1 => match xs with
  | [.int j] => (-(2 ^ 62) ≤ j ∧ j < 2 ^ 62) ∧ R (.fix (rangeP 0 1 j.toNat)) M1
  | _ => False) E
theorem ji_range {a : Expr} (hg : Gl X "range") (hm : X.mg "range" = none) (ha : JA X W [a] ma) (hs : starEach [a] X.env = [(false, eval a X.env)] := by rfl) : JI X W tg (.Call (.Name "range" p) [a] [] pos) (iRng ma) :=
  PI.weak (pi_range1 hg hm ha hs) fun σ H R ⟨μ, M, Rm, Xm, rs, j, m, q, x⟩ => ⟨μ, M, _, Xm, rs, j, m, fun vs H1 ⟨ys, M1, r1, j1, k1, m1⟩ => by
    match ys, m1, r1 with
    | [.int n], m1, r1 =>
      obtain ⟨v, e, r⟩ := one_of r1
      cases r.int
      exact ⟨n, e, m1.1.1, m1.1.2, q _ _ ⟨_, M1, itr_ok _ _, j1, k1, m1.2⟩⟩, x⟩
def iRng2 (ma : MA) : MI := fun μ M R E => ma μ M (fun xs M1 => match xs with
  | [.int i, .int j] => (-(2 ^ 62) ≤ i ∧ i < 2 ^ 62 ∧ -(2 ^ 62) ≤ j ∧ j < 2 ^ 62) ∧ R (.fix (rangeP i 1 (j - i).toNat)) M1
  | _ => False) E
theorem ji_range2 {a b : Expr} (hg : Gl X "range") (hm : X.mg "range" = none) (ha : JA X W [a, b] ma) (hs : starEach [a, b] X.env = [(false, eval a X.env), (false, eval b X.env)] := by rfl) (hs2 : starEach [b] X.env = [(false, eval b X.env)] := by rfl) : JI X W tg (.Call (.Name "range" p) [a, b] [] pos) (iRng2 ma) :=
  PI.weak (pi_range2 hg hm ha hs hs2) fun σ H R ⟨μ, M, Rm, Xm, rs, j, m, q, x⟩ => ⟨μ, M, _, Xm, rs, j, m, fun vs H1 ⟨ys, M1, r1, j1, k1, m1⟩ => by
    match ys, m1, r1 with
    | [.int n, .int n2], m1, r1 =>
      obtain ⟨v, w, e, r, r2⟩ := two_of r1
      cases r.int
      cases r2.int
      exact ⟨n, n2, e, m1.1, q _ _ ⟨_, M1, itr_ok _ _, j1, k1, m1.2⟩⟩, x⟩
/-- reversed(range(e)) -/
def iRevRng (m : ME) : MI := fun μ M R E => m μ M (fun x M1 => match x with
  | .int n => (-(2 ^ 62) ≤ n ∧ n < 2 ^ 62) ∧ R (.fix (rangeP ((n.toNat : Int) - 1) (-1) n.toNat)) M1
  | _ => False) E
theorem ji_revRange {a : Expr} {p2 pos2 : Pos} (hg : Gl X "reversed") (hm : X.mg "reversed" = none) (hg2 : Gl X "range") (hm2 : X.mg "range" = none) (ha : JE X W a m) (na : starEach [a] X.env = (false, eval a X.env) :: starEach [] X.env := by rfl)
    (hs : starEach [.Call (.Name "range" p2) [a] [] pos2] X.env = (false, eval (.Call (.Name "range" p2) [a] [] pos2) X.env) :: starEach [] X.env := by rfl) : JI X W tg (.Call (.Name "reversed" p) [.Call (.Name "range" p2) [a] [] pos2] [] pos) (iRevRng m) :=
  PI.weak (pi_revR hg hm (prg_1 hg2 hm2 ha na) hs) fun σ H R ⟨μ, M, Rm, Xm, rs, j, m, q, x⟩ => ⟨μ, M, _, Xm, rs, j, m, fun v H1 ⟨y, M1, r1, j1, k1, m1⟩ => by
    cases y <;> first
      | exact (show False from m1).elim
      | (rename_i n
         obtain ⟨⟨z1, z2⟩, m1⟩ := m1
         refine ⟨n, r1.int, by omega, by omega, z1, z2, q _ _ ⟨_, M1, ?_, j1, k1, m1⟩⟩
         have e : (0 : Int) + (((n - 0).toNat : Nat) : Int) - 1 = (n.toNat : Int) - 1 := by rw [Int.sub_zero, Int.zero_add]
         have e2 : (n - 0).toNat = n.toNat := by rw [Int.sub_zero]
         rw [e, e2]
         exact itc_ok _ _ _), x⟩
end

/-! ### for, while -/
def loopG (it : MIt) (g : MG) (b : MS) (D : MEnds) : List PV → MSt → MHp → Prop
  | [], μ, M => it.w M (D.nx μ M)
  | x :: xs, μ, M => it.w M (g x μ M (fun μ2 M2 => b { D with nx := loopG it g b D xs, ct := loopG it g b D xs, bk := D.nx } μ2 M2) D.ex)
def mFor (mi : MI) (g : MG) (b : MS) : MS := fun D μ M => mi μ M (fun it M1 => loopG it g b D it.items μ M1) (fun e M1 => D.ex e μ M1)
def whileN (c : MT) (b : MS) (D : MEnds) : Nat → MSt → MHp → Prop
  | 0, _, _ => False
  | n + 1, μ, M => c μ M (fun t M1 => if t = true then b { D with nx := whileN c b D n, ct := whileN c b D n, bk := D.nx } μ M1 else D.nx μ M1) (fun e M1 => D.ex e μ M1)
def mWhile (c : MT) (b : MS) : MS := fun D μ M => ∃ n, whileN c b D n μ M
section
variable {X : Cx} {W : WX} {tg iter : Expr} {body : List Stmt} {mi : MI} {g : MG} {b : MS} {pos : Pos}
theorem loop_ok {K : Frg} {H1 : Hp} {M1 : MHp} {J : It} {it : MIt} {Dm : MEnds} {D : Ends} {μ : MSt} {σ : St} (hJ : ItR K H1 M1 J it) (j1 : JH K H1 M1) (rs1 : RS K H1 μ σ) (m1 : loopG it g b Dm it.items μ M1) (u1 : UpD K H1 M1 W Dm D) :
    ∃ V : Nat → Nat → St → Hp → Prop, (∃ m, V 0 m σ H1) ∧ ∀ i m σ H, V i m σ H →
      (J.stop i H ∧ D.nx σ H) ∨ (J.go i H ∧ ∃ N : St → Hp → Prop, (∀ σ' H', N σ' H' → ∃ m', m' < m ∧ V (i + 1) m' σ' H') ∧ ∀ x H', J.yld i H x H' → upG K W g x σ H' fun σ2 H2 => upS K W b { D with nx := N, ct := N, bk := D.nx } σ2 H2) := by
  refine ⟨fun i m σ H => m = it.items.length - i ∧ i ≤ it.items.length ∧ ∃ μ M, RS K H μ σ ∧ JH K H M ∧ Keep H1 M1 H M ∧ loopG it g b Dm (it.items.drop i) μ M, ⟨_, rfl, Nat.zero_le _, μ, M1, rs1, j1, Keep.refl _ _, m1⟩, ?_⟩
  rintro i m σ H ⟨rfl, hi, μ, M, rs, j, k, h⟩
  by_cases hlt : i < it.items.length
  · rw [List.drop_eq_getElem_cons hlt] at h
    unfold loopG at h
    obtain ⟨ok, h⟩ := MIt.w_ok h
    refine .inr ⟨hJ.go H M i j k ok hlt, fun σ' H' => ∃ μ' M', RS K H' μ' σ' ∧ JH K H' M' ∧ Keep H1 M1 H' M' ∧ loopG it g b Dm (it.items.drop (i + 1)) μ' M', fun σ' H' q => ⟨it.items.length - (i + 1), by omega, rfl, hlt, q⟩, fun v H3 y => ?_⟩
    obtain ⟨j3, k3, x, ex, rv⟩ := hJ.yld H M i v H3 j k ok hlt y
    have e : it.items[i] = x := by
      rw [List.getElem?_eq_getElem hlt] at ex
      exact Option.some.inj ex
    subst e
    refine ⟨_, μ, M, _, _, rv, rs.keep j k3, j3, h, fun σ2 H2 ⟨μ2, M2, rs2, j2, k2, m2⟩ => ⟨μ2, M2, _, rs2, j2, m2, ?_⟩, fun _ _ _ _ n => u1.ex _ _ _ _ (n.from (k.trans k3))⟩
    have kk := (k.trans k3).trans k2
    have nn : ∀ σ' H', upN K H2 M2 (loopG it g b Dm (it.items.drop (i + 1))) σ' H' → ∃ μ' M', RS K H' μ' σ' ∧ JH K H' M' ∧ Keep H1 M1 H' M' ∧ loopG it g b Dm (it.items.drop (i + 1)) μ' M' := fun σ' H' ⟨μ', M', rs', j', k', m'⟩ => ⟨μ', M', rs', j', kk.trans k', m'⟩
    exact ⟨nn, fun _ _ n => u1.rt _ _ (n.from kk), fun _ _ n => u1.nx _ _ (n.from kk), nn, fun _ _ _ _ n => u1.ex _ _ _ _ (n.from kk)⟩
  · have e : i = it.items.length := by omega
    subst e
    rw [List.drop_length] at h
    unfold loopG at h
    obtain ⟨ok, h⟩ := MIt.w_ok h
    exact .inl ⟨hJ.stop H M j k ok, u1.nx _ _ ⟨μ, M, rs, j, k, h⟩⟩
theorem js_for (hp : PassesOwn (model X.prog X.w) X.A X.env X.xe) (hc : X.calm = true) (hi : JI X W tg iter mi) (hg : JG X W tg g) (hb : JB X W body b) (hs : ∀ x, foldedSetIterable iter X.env x = pure x := by intro _; rfl) : JS X W (.For tg iter body [] pos) (mFor mi g b) :=
  PS.weak (ps_for hp hc hi hg hb hs) fun D σ H ⟨μ, M, Dm, rs, j, m, u⟩ => ⟨μ, M, _, _, rs, j, m, fun J H1 ⟨it, M1, hJ, j1, k1, m1⟩ => loop_ok hJ j1 (rs.keep j k1) m1 (u.from k1), u.thr rs j⟩
theorem js_while {c : Expr} {t : MT} (hp : PassesOwn (model X.prog X.w) X.A X.env X.xe) (hc : JT X W c t) (hb : JB X W body b) : JS X W (.While c body [] pos) (mWhile t b) :=
  PS.weak (ps_while hp hc hb) fun D σ H ⟨μ, M, Dm, rs, j, ⟨n, m⟩, u⟩ => by
    refine ⟨fun n σ' H' => ∃ μ' M', RS X.K H' μ' σ' ∧ JH X.K H' M' ∧ Keep H M H' M' ∧ whileN t b Dm n μ' M', ⟨n, μ, M, rs, j, Keep.refl _ _, m⟩, ?_⟩
    rintro n σ1 H1 ⟨μ1, M1, rs1, j1, k1, m1⟩
    cases n with
    | zero => exact m1.elim
    | succ n =>
      refine ⟨μ1, M1, _, _, rs1, j1, m1, fun bb H2 ⟨M2, j2, k2, m2⟩ => ite_if m2 (fun m2 => ?_) (fun m2 => u.nx _ _ ⟨μ1, M2, rs1.keep j1 k2, j2, k1.trans k2, m2⟩), (u.from k1).thr rs1 j1⟩
      refine ⟨_, fun σ' H' q => ⟨n, Nat.lt_succ_self _, q⟩, μ1, M2, _, rs1.keep j1 k2, j2, m2, ?_⟩
      have kk := k1.trans k2
      have nn : ∀ σ' H', upN X.K H2 M2 (whileN t b Dm n) σ' H' → ∃ μ' M', RS X.K H' μ' σ' ∧ JH X.K H' M' ∧ Keep H M H' M' ∧ whileN t b Dm n μ' M' := fun σ' H' ⟨μ', M', rs', j', k', m'⟩ => ⟨μ', M', rs', j', kk.trans k', m'⟩
      exact ⟨nn, fun _ _ n => u.rt _ _ (n.from kk), fun _ _ n => u.nx _ _ (n.from kk), nn, fun _ _ _ _ n => u.ex _ _ _ _ (n.from kk)⟩
end

/-! ### list comprehensions -/
/-- tuples and locked things are kept: all that a pure value hangs on -/
def KeepT (H H' : Hp) : Prop := (∀ a vs, H a = some (.tup vs) → H' a = some (.tup vs)) ∧ ∀ a o u, H a = some (.frz o u) → H' a = some (.frz o u)
section
variable {K : Frg} {H H' : Hp} {M M' : MHp}
theorem SqT.keepT {a : Addr} {vs : List V} (k : KeepT H H') (h : SqT K H a vs) : SqT K H' a vs := by
  rcases h with (h | ⟨o, h⟩) | h
  · exact .inl (.inl (k.1 _ _ h))
  · exact .inl (.inr ⟨o, k.2 _ _ _ h⟩)
  · exact .inr h
theorem RoL.keepT {a : Addr} {vs : List V} (k : KeepT H H') (h : RoL K H a vs) : RoL K H' a vs := by
  rcases h with ⟨o, h⟩ | h
  · exact .inl ⟨o, k.2 _ _ _ h⟩
  · exact .inr h
mutual
theorem RV.keepT (k : KeepT H H') : ∀ {x : PV} {v : V}, RV K H x v → RV K H' x v
  | .non, _, h => h
  | .bl _, _, h => h
  | .int _, _, h => h
  | .str _, _, h => h
  | .ref _, _, h => h
  | .tup l, _, h => by
    unfold RV at h ⊢
    obtain ⟨a, vs, e, s, r⟩ := h
    exact ⟨a, vs, e, SqT.keepT k s, RVs.keepT k r⟩
  | .rol l, _, h => by
    unfold RV at h ⊢
    obtain ⟨a, vs, e, s, r⟩ := h
    exact ⟨a, vs, e, RoL.keepT k s, RVs.keepT k r⟩
theorem RVs.keepT (k : KeepT H H') : ∀ {xs : List PV} {vs : List V}, RVs K H xs vs → RVs K H' xs vs
  | [], _, h => h
  | x :: xs, _, h => by
    unfold RVs at h ⊢
    obtain ⟨v, r, e, h1, h2⟩ := h
    exact ⟨v, r, e, RV.keepT k h1, RVs.keepT k h2⟩
end
theorem RO.keepT {a : Addr} {o : MO} (k : KeepT H H') (e : H' a = H a) (r : RO K H a o) : RO K H' a o := by
  cases o with
  | lst xs => obtain ⟨vs, h, r⟩ := r; exact ⟨vs, e.trans h, RVs.keepT k r⟩
  | dct kvs => obtain ⟨vs, h, m, r⟩ := r; exact ⟨vs, e.trans h, m, RVs.keepT k r⟩
/-- a list that M does not know is written -/
theorem keepT_lst {D : Addr} {vs ws : List V} (h : H D = some (.lst vs)) : KeepT H (upd H D (.lst ws)) :=
  ⟨fun a us e => by rw [upd_ne (ne_of e h (fun z => nomatch z))]; exact e, fun a o u e => by rw [upd_ne (ne_of e h (fun z => nomatch z))]; exact e⟩
theorem JH.upd_free {D : Addr} {vs ws : List V} (j : JH K H M) (n : M D = none) (h : H D = some (.lst vs)) : JH K (upd H D (.lst ws)) M := fun a o e => by
  have z : a ≠ D := fun q => by rw [q, n] at e; cases e
  exact (j a o e).keepT (keepT_lst h) (upd_ne z)
end
def noX : MX := fun _ _ => False
def noXS : MExc → MSt → MHp → Prop := fun _ _ _ => False
abbrev W0 : WX := fun _ _ _ _ => False
/-- the turns of a comprehension: acc what is made so far -/
def lcG (it : MIt) (g : MG) (tt : MT) (te : ME) (μw : MSt) (Q : MQ) : List PV → List PV → MHp → Prop
  | [], acc, M => it.w M (newL M acc Q)
  | x :: xs, acc, M => it.w M (g x μw M (fun μ2 M2 => tt μ2 M2 (fun b M3 => if b = true then te μ2 M3 (fun y M4 => acc.length < sizeLine ∧ lcG it g tt te μw Q xs (acc ++ [y]) M4) noX else lcG it g tt te μw Q xs acc M3) noX) noXS)
def mLc (mi : MI) (g : MG) (tt : MT) (te : ME) (vs : List Nat) : ME := fun μ M Q E => mi μ M (fun it M1 => lcG it g tt te (wipeM μ vs) Q it.items [] M1) E
def mYes : MT := fun _ M Q _ => Q true M
theorem wipe_at {σ : St} {i : Nat} : ∀ {vs : List Nat}, i ∈ vs → i < σ.length → (wipe σ vs)[i]? = some none
  | v :: vs, h, hl => by
    unfold wipe
    by_cases e : v = i
    · subst e
      rw [List.getElem?_set_self (by rw [wipe_length]; exact hl)]
    · rw [List.getElem?_set_ne e]
      exact wipe_at ((List.mem_cons.mp h).resolve_left fun z => e z.symm) hl
theorem wipe_out' {σ : St} {i : Nat} : ∀ {vs : List Nat}, i ∉ vs → (wipe σ vs)[i]? = σ[i]?
  | [], _ => rfl
  | v :: vs, h => by
    unfold wipe
    rw [List.getElem?_set_ne (fun z => h (by rw [z]; exact List.mem_cons_self))]
    exact wipe_out' fun z => h (List.mem_cons_of_mem _ z)
theorem wipe_ext {σ τ : St} {vs : List Nat} (hl : σ.length = τ.length) (h : ∀ i, i ∉ vs → σ[i]? = τ[i]?) : wipe σ vs = wipe τ vs := by
  apply List.ext_getElem?
  intro i
  by_cases hi : i ∈ vs
  · by_cases hn : i < σ.length
    · rw [wipe_at hi hn, wipe_at hi (by rw [← hl]; exact hn)]
    · rw [List.getElem?_eq_none (by rw [wipe_length]; omega), List.getElem?_eq_none (by rw [wipe_length]; omega)]
  · rw [wipe_out' hi, wipe_out' hi, h i hi]
theorem wipe_set {σ : St} {i : Nat} {v : Option V} {vs : List Nat} (h : i ∈ vs) : wipe (σ.set i v) vs = wipe σ vs :=
  wipe_ext (by simp) fun k hk => by rw [List.getElem?_set_ne (fun z => hk (by rw [← z]; exact h))]
theorem wipe_wipe {σ : St} {vs : List Nat} : wipe (wipe σ vs) vs = wipe σ vs := wipe_ext (wipe_length _ _) fun _ hk => wipe_out' hk
/-- a comprehension's target: it stores into the block's own names alone -/
def GOk (K : Frg) (vs : List Nat) (gT : TG) (g : MG) : Prop := ∀ (x : PV) (v : V) (μ : MSt) (σ : St) (H : Hp) (M : MHp) (N : MSt → MHp → Prop) (R : St → Hp → Prop), RV K H x v → RS K H μ σ → g x μ M N noXS →
  (∀ σ2 μ2, wipe σ2 vs = wipe σ vs → RS K H μ2 σ2 → N μ2 M → R σ2 H) → gT v σ H R
theorem gok_name {K : Frg} {vs : List Nat} {i : Nat} (h : i ∈ vs) : GOk K vs (gName i) (gNameM i) := fun x v μ σ H M N R rx rs m n => n _ _ (wipe_set h) (rs.set i rx) m
theorem gok_tup2 {K : Frg} {vs : List Nat} {i k : Nat} (h : i ∈ vs) (h2 : k ∈ vs) : GOk K vs (gTup K 2 (gCons (gName i) (gCons (gName k) gNil))) (gTupM 2 (gConsM (gNameM i) (gConsM (gNameM k) gNilM))) := fun x v μ σ H M N R rx rs m n => by
  cases x with
  | tup l =>
    obtain ⟨a, ws, rfl, s, ra⟩ := rx.tup
    obtain ⟨hl, m⟩ := m
    match l, hl, m, ra with
    | [y, z], hl, m, ra =>
      obtain ⟨v, w, rfl, r1, r2⟩ := two_of ra
      exact ⟨a, _, rfl, s, rfl, v, [w], rfl, w, [], rfl, rfl, n _ _ (by rw [wipe_set h2, wipe_set h]) ((rs.set i r1).set k r2) m.2⟩
  | _ => exact (show False from m).elim
section
variable {X : Cx} {W : WX} {elt tg iter : Expr} {ifs : List Expr} {scope : Scope} {own : List (Str × Nat)} {pos : Pos} {mi : MI} {gT : TG} {g : MG} {tt : MT} {te : ME}
abbrev JTs (X : Cx) (W : WX) (es : List Expr) (m : MT) : Prop := PTs X es (upT X.K W m)
theorem jts_nil : JTs X W [] mYes := ⟨fun pins s σ H Q I ⟨μ, M, Qm, Xm, rs, j, m, q, x⟩ => pts_nil.run pins s σ H Q I (q _ _ ⟨M, j, Keep.refl _ _, m⟩)⟩
theorem jts_one {c : Expr} (h : JT X W c tt) : JTs X W [c] tt := pts_one h
theorem lc_ok {K : Frg} {H1 : Hp} {M1 : MHp} {J : It} {it : MIt} {μ : MSt} {σ : St} {vs : List Nat} {Qm : MQ} {Q : VK} {D : Addr} (hJ : ItR K H1 M1 J it) (j1 : JH K H1 M1) (rs1 : RS K H1 μ σ) (m1 : lcG it g tt te (wipeM μ vs) Qm it.items [] M1)
    (hQ : ∀ v H', upQ K H1 M1 Qm v H' → Q v H') (hD : H1 D = none) (gok : GOk K vs gT g) :
    ∃ V : Nat → Nat → Hp → Prop, (∃ m, V 0 m (upd H1 D (.lst []))) ∧ ∀ i m H, V i m H →
      (J.stop i H ∧ Q (.ref D) H) ∨ (J.go i H ∧ ∃ Nx : Hp → Prop, (∀ H', Nx H' → ∃ m', m' < m ∧ V (i + 1) m' H') ∧ ∀ x H', J.yld i H x H' → gT x (wipe σ vs) H' fun σ2 H2 => wipe σ2 vs = wipe σ vs ∧ upT K W0 tt σ2 H2 fun b H3 =>
        if b = true then upE K W0 te σ2 H3 fun y H4 => ∃ acc, H4 D = some (.lst acc) ∧ acc.length < sizeLine ∧ Nx (upd H4 D (.lst (acc ++ [y]))) else Nx H3) := by
  refine ⟨fun i m H => m = it.items.length - i ∧ i ≤ it.items.length ∧ ∃ M acc ws, JH K H M ∧ Keep H1 M1 H M ∧ H D = some (.lst ws) ∧ RVs K H acc ws ∧ M D = none ∧ lcG it g tt te (wipeM μ vs) Qm (it.items.drop i) acc M,
    ⟨_, rfl, Nat.zero_le _, M1, [], [], j1.new hD, keep_new hD, upd_same, .nil, j1.fresh hD, m1⟩, ?_⟩
  rintro i m H ⟨rfl, hi, M, acc, ws, j, k, hw, ra, nD, h⟩
  by_cases hlt : i < it.items.length
  · rw [List.drop_eq_getElem_cons hlt] at h
    unfold lcG at h
    obtain ⟨ok, h⟩ := MIt.w_ok h
    refine .inr ⟨hJ.go H M i j k ok hlt, fun H' => ∃ M acc ws, JH K H' M ∧ Keep H1 M1 H' M ∧ H' D = some (.lst ws) ∧ RVs K H' acc ws ∧ M D = none ∧ lcG it g tt te (wipeM μ vs) Qm (it.items.drop (i + 1)) acc M, fun H' q => ⟨it.items.length - (i + 1), by omega, rfl, hlt, q⟩, fun v H3 y => ?_⟩
    obtain ⟨j3, k3, x, ex, rv⟩ := hJ.yld H M i v H3 j k ok hlt y
    have e : it.items[i] = x := by
      rw [List.getElem?_eq_getElem hlt] at ex
      exact Option.some.inj ex
    subst e
    refine gok _ v _ _ H3 M _ _ rv (((rs1.keep j1 k).keep j k3).wipe vs) h fun σ2 μ2 e2 rs2 h2 => ⟨e2.trans wipe_wipe, μ2, M, _, noX, rs2, j3, h2, fun b H4 ⟨M4, j4, k4, m4⟩ => ?_, fun _ _ _ ⟨_, _, _, _, _, z⟩ => z.elim⟩
    refine ite_if m4 (fun m4 => ?_) (fun m4 => ?_)
    · refine ⟨μ2, M4, _, noX, rs2.keep j3 k4, j4, m4, fun v5 H5 ⟨y5, M5, r5, j5, k5, hz, m5⟩ => ?_, fun _ _ _ ⟨_, _, _, _, _, z⟩ => z.elim⟩
      have kk := (k3.trans k4).trans k5
      obtain ⟨h5, n5⟩ := kk D _ hw nD
      refine ⟨ws, h5, by rw [← ra.length]; exact hz, M5, acc ++ [y5], ws ++ [v5], j5.upd_free n5 h5, fun a u e n => ?_, upd_same, ?_, n5, m5⟩
      · obtain ⟨q1, q2⟩ := (k.trans kk) a u e n
        exact ⟨by rw [upd_ne (ne_of_none e hD)]; exact q1, q2⟩
      · exact ((ra.keep j kk).append (.cons r5 .nil)).keepT (keepT_lst h5)
    · obtain ⟨h5, n5⟩ := (k3.trans k4) D _ hw nD
      exact ⟨M4, acc, ws, j4, (k.trans k3).trans k4, h5, ra.keep j (k3.trans k4), n5, m4⟩
  · have e : i = it.items.length := by omega
    subst e
    rw [List.drop_length] at h
    unfold lcG at h
    obtain ⟨ok, h⟩ := MIt.w_ok h
    refine .inl ⟨hJ.stop H M j k ok, hQ _ _ ⟨.ref D, updM M D (.lst acc), .i_ref, fun a o e => ?_, fun a u e n => ?_, h D nD⟩⟩
    · by_cases z : a = D
      · subst z
        rw [updM_same] at e
        cases e
        exact ⟨ws, hw, ra⟩
      · rw [updM_ne z] at e
        exact j a o e
    · obtain ⟨q1, q2⟩ := k a u e n
      exact ⟨q1, by rw [updM_ne (ne_of_none e hD)]; exact q2⟩
theorem je_lc (hc : X.calm = true) (hN : X.N.Nodup) (hi : JI X W tg iter mi) (ok : BlkOk X.N X.env.scope scope own) (gok : GOk X.K (own.map (·.2)) gT g)
    (hg : ∀ (s : Shared) (H : Hp) (C : Addr) (cl : List (Str × Addr)) (fp : List Addr), PG (X.blk s H scope (compEnvC scope cl C X.env) fp) tg gT) (ht : ∀ (s : Shared) (H : Hp) (C : Addr) (cl : List (Str × Addr)) (fp : List Addr), JTs (X.blk s H scope (compEnvC scope cl C X.env) fp) W0 ifs tt)
    (he : ∀ (s : Shared) (H : Hp) (C : Addr) (cl : List (Str × Addr)) (fp : List Addr), JE (X.blk s H scope (compEnvC scope cl C X.env) fp) W0 elt te) (hs : ∀ x, foldedSetIterable iter X.env x = pure x := by intro _; rfl) :
    JE X W (.ListComp elt [⟨tg, iter, ifs, 0⟩] scope pos) (mLc mi g tt te (own.map (·.2))) :=
  PE.weak (pe_lc hc hN hi ok hg ht he hs) fun σ H Q ⟨μ, M, Qm, Xm, rs, j, m, q, x⟩ => ⟨μ, M, _, Xm, rs, j, m, fun J H1 ⟨it, M1, hJ, j1, k1, m1⟩ D hD => lc_ok hJ j1 (rs.keep j k1) m1 (fun _ _ u => q _ _ (u.from k1)) hD gok, x⟩
theorem js_setLc {i : Nat} {y : Str} {py spos : Pos} (hc : X.calm = true) (hN : X.N.Nodup) (hy : X.N[i]? = some y) (hyl : X.env.scope.names.lookup y = some .local)
    (hsw : swapsWith (.ListComp elt [⟨tg, iter, ifs, 0⟩] scope pos) (some (.Name y py)) spos.line X.env = pure true) (hi : JI X W tg iter mi) (ok : BlkOk X.N X.env.scope scope own) (gok : GOk X.K (own.map (·.2)) gT g)
    (hg : ∀ (s : Shared) (H : Hp) (C : Addr) (cl : List (Str × Addr)) (fp : List Addr), PG (X.blk s H scope (compEnvC scope cl C X.env) fp) tg gT) (ht : ∀ (s : Shared) (H : Hp) (C : Addr) (cl : List (Str × Addr)) (fp : List Addr), JTs (X.blk s H scope (compEnvC scope cl C X.env) fp) W0 ifs tt)
    (he : ∀ (s : Shared) (H : Hp) (C : Addr) (cl : List (Str × Addr)) (fp : List Addr), JE (X.blk s H scope (compEnvC scope cl C X.env) fp) W0 elt te) (hs : ∀ x, foldedSetIterable iter X.env x = pure x := by intro _; rfl) :
    JS X W (.Assign [.Name y py] (.ListComp elt [⟨tg, iter, ifs, 0⟩] scope pos) spos) (mAsg (mLc mi g tt te (own.map (·.2))) (gNameM i)) :=
  PS.weak (ps_setLc hc hN hy hyl hsw hi ok hg ht he hs) fun D σ H ⟨μ, M, Dm, rs, j, m, u⟩ => ⟨μ, M, _, _, rs, j, m, fun J H1 ⟨it, M1, hJ, j1, k1, m1⟩ E hE => lc_ok hJ j1 (rs.keep j k1) m1 (fun v H' ⟨x, M2, rx, j2, k2, m2⟩ => u.nx _ _ ⟨_, M2, ((rs.keep j k1).keep j1 k2).set i rx, j2, k1.trans k2, m2⟩) hE gok, u.thr rs j⟩
end

/-! ### calls of defs -/
abbrev MSp := List PV → MHp → MQ → MX → Prop
def upSp (K : Frg) (sp : MSp) : Sp := fun vs H Q E => ∃ xs M Qm Xm, RVs K H xs vs ∧ JH K H M ∧ sp xs M Qm Xm ∧ (∀ v H', upQ K H M Qm v H' → Q v H') ∧ ∀ cls d H', upX K H M Xm cls d H' → E cls d H'
def mCall (sp : MSp) (m : MA) : ME := fun μ M Q E => m μ M (fun xs M1 => sp xs M1 Q E) E
def startM (N : List Str) (xs : List PV) : MSt := xs.map some ++ List.replicate (N.length - xs.length) none
section
variable {X : Cx} {W : WX} {k : Nat} {f : Addr} {fd : FuncData} {ps : List Str} {sp : MSp} {x : Str} {p pos : Pos} {e : Expr} {es : List Expr} {m : MA}
/-- f(e, ..) -/
theorem je_call (F : FnOk X.prog X.w X.K X.mg X.base (L2.CX X.prog X.w) k f fd ps (upSp X.K sp)) (hr : Room k X.A) (hg : Gl X x) (hm : X.mg x = some (.ref f)) (hk : PySem.W.keepIn X.K (.ref f) = true) (hb : Binds X.K fd ps []) (tk : Takes X W)
    (ha : JA X W (e :: es) m) (hdb : (x == ("__debug__" : Str)) = false := by decide) (he : starEach (e :: es) X.env = (false, eval e X.env) :: starEach es X.env := by rfl) (hpl : (backTo pos (starEach es X.env)).any (·.1) = false := by rfl) :
    JE X W (.Call (.Name x p) (e :: es) [] pos) (mCall sp m) :=
  PE.weak (pe_callS F hr hg hm hk hb (fun σ => passAt tk σ) ha hdb he hpl) fun σ H Q ⟨μ, M, Qm, Xm, rs, j, m, q, x⟩ => ⟨μ, M, _, Xm, rs, j, m, fun vs H1 ⟨xs, M1, r1, j1, k1, m1⟩ => ⟨xs, M1, Qm, Xm, r1, j1, m1, fun _ _ u => q _ _ (u.from k1), fun _ _ _ u => x _ _ _ (u.from k1)⟩, x⟩
/-- the keywords' values -/
abbrev JK (X : Cx) (W : WX) (kws : List Keyword) (m : MA) : Prop := PK X kws (upA X.K W m)
theorem PK.weak {kws : List Keyword} {t t' : TA} (h : PK X kws t) (w : ∀ σ H Q, t' σ H Q → t σ H Q) : PK X kws t' := ⟨fun pos pins s σ H Q I q => h.run pos pins s σ H Q I (w _ _ _ q)⟩
theorem jk_nil : JK X W [] mNil := PK.weak pk_nil fun σ H Q ⟨μ, M, Qm, Xm, rs, j, m, q, x⟩ => q _ _ ⟨[], M, .nil, j, Keep.refl _ _, m⟩
theorem jk_cons {kws : List Keyword} {nm : Option Str} {kpos : Pos} {me : ME} {mr : MA} (he : JE X W e me) (hr : JK X W kws mr) : JK X W (⟨nm, e, kpos⟩ :: kws) (mCons me mr) :=
  PK.weak (pk_cons he hr) fun σ H Q ⟨μ, M, Qm, Xm, rs, j, m, q, x⟩ => ⟨μ, M, _, Xm, rs, j, m, fun v H1 ⟨y, M1, r1, j1, k1, m1⟩ => ⟨μ, M1, _, Xm, rs.keep j k1, j1, m1,
    fun vs H2 ⟨ys, M2, r2, j2, k2, m2⟩ => q _ _ ⟨y :: ys, M2, .cons (r1.keep j1 k2) r2, j2, k1.trans k2, m2⟩, fun _ _ _ u => x _ _ _ (u.from k1)⟩, x⟩
/-- values in another order -/
def permL {α : Type} (pm : List Nat) (l : List α) : List α := pm.filterMap fun i => l[i]?
theorem permL_vals {zs : List V} {ws : List Value} (r : Vals zs ws) : ∀ pm : List Nat, Vals (permL pm zs) (permL pm ws)
  | [] => .nil
  | i :: pm => by
    have ih := permL_vals r pm
    unfold permL at ih ⊢
    rw [List.filterMap_cons, List.filterMap_cons]
    cases e : zs[i]? with
    | none => rw [Vals.none_of r e]; exact ih
    | some x =>
      obtain ⟨u, h1, h2⟩ := r.get e
      rw [h1]
      exact .cons h2 ih
theorem permL_rvs {K : Frg} {H : Hp} {xs : List PV} {vs : List V} (r : RVs K H xs vs) : ∀ pm : List Nat, RVs K H (permL pm xs) (permL pm vs)
  | [] => .nil
  | i :: pm => by
    have ih := permL_rvs r pm
    unfold permL at ih ⊢
    rw [List.filterMap_cons, List.filterMap_cons]
    cases e : xs[i]? with
    | none =>
      have z : vs[i]? = none := List.getElem?_eq_none_iff.mpr (by rw [← r.length]; exact List.getElem?_eq_none_iff.mp e)
      rw [z]; exact ih
    | some x =>
      obtain ⟨u, h1, h2⟩ := r.get e
      rw [h1]
      exact .cons h2 ih
/-- how keywords alone bind: pm puts the values in the parameters' order -/
def KwOnly (K : Frg) (fd : FuncData) (ps ks : List Str) (pm : List Nat) : Prop :=
  ∀ (s : Shared) (ws : List Value), K.In s.heap → ws.length = ks.length → BindsTo s fd ⟨[], ks.zip ws⟩ (ps.zip (permL pm ws))
def mCallK (sp : MSp) (pm : List Nat) (n : Nat) (m : MA) : ME := fun μ M Q E => m μ M (fun xs M1 => xs.length = n ∧ sp (permL pm xs) M1 Q E) E
/-- f(k = v, ..) -/
theorem je_callKw {kws : List Keyword} {ks : List Str} {pm : List Nat} (F : FnOk X.prog X.w X.K X.mg X.base (L2.CX X.prog X.w) k f fd ps (upSp X.K sp)) (hr : Room k X.A) (hg : Gl X x) (hm : X.mg x = some (.ref f)) (hk : PySem.W.keepIn X.K (.ref f) = true) (hb : KwOnly X.K fd ps ks pm) (tk : Takes X W)
    (hkw : JK X W kws m) (hall : (backToKw pos (keywordEach kws X.env)).all (·.1.isSome) = true := by rfl) (hks : (backToKw pos (keywordEach kws X.env)).filterMap (·.1) = ks := by rfl) (hdb : (x == ("__debug__" : Str)) = false := by decide)
    (hpl : ((backTo pos (starEach [] X.env)).any (·.1) || (backToKw pos (keywordEach kws X.env)).any (·.1.isNone)) = false := by rfl) :
    JE X W (.Call (.Name x p) [] kws pos) (mCallK sp pm ks.length m) := by
  refine ⟨fun pins s σ H Q I ⟨μ, M, Qm, Xm, rs, j, m, q, xx⟩ => ?_⟩
  refine wpAny_Call_Name_kw (ld_glob I hg hm ?_ hdb)
  refine PySem.W.callWith_KW0 (h₀ := X.base) I.ok.mod.kin hk hall ?_ hpl
  refine thn (hkw.run pos pins s σ H (fun zs H2 => ∃ ys M2, RVs X.K H2 ys zs ∧ JH X.K H2 M2 ∧ Keep H M H2 M2 ∧ ys.length = ks.length ∧ sp (permL pm ys) M2 Qm Xm) I ⟨μ, M, _, Xm, rs, j, m, fun vs H' ⟨ys, M', r, j', k', m'⟩ => ⟨ys, M', r, j', k', m'⟩, xx⟩) fun ws s2 ⟨zs, H2, I2, rz, ys, M2, ry, j2, k2, hl, q2⟩ => ⟨I2.kIn, ?_⟩
  rw [hks]
  have hz : zs.length = ks.length := by rw [← ry.length]; exact hl
  have hw : ws.length = ks.length := by rw [← rz.length]; exact hz
  have up : upSp X.K sp (permL pm zs) H2 Q (WE W σ) := ⟨permL pm ys, M2, Qm, Xm, permL_rvs ry pm, j2, q2, fun _ _ u => q _ _ (u.from k2), fun _ _ _ u => xx _ _ _ (u.from k2)⟩
  refine wpAny_call (codeAny_mono (F.run X.A X.stack s2 H2 ⟨[] ++ [], ks.zip ws⟩ (permL pm ws) (permL pm zs) Q (WE W σ) hr I2.env0 (hb s2 ws I2.kIn hw) (permL_vals rz pm) up) fun r s' hq => ?_)
  cases r with
  | error e => exact passAt tk σ pins H2 s2 e s' I2 hq
  | ok fl =>
    cases fl with
    | ret u => exact I2.after hq
    | next => exact False.elim hq
    | brk => exact False.elim hq
    | cont => exact False.elim hq

theorem rs_start {K : Frg} {H : Hp} {N : List Str} {xs : List PV} {vs : List V} (r : RVs K H xs vs) : RS K H (startM N xs) (start N vs) := by
  refine ⟨by unfold startM start; simp [r.length], fun i y e => ?_⟩
  unfold startM at e
  unfold start
  by_cases hi : i < xs.length
  · rw [List.getElem?_append_left (by simpa using hi), List.getElem?_map] at e
    rw [List.getElem?_append_left (by simpa [← r.length] using hi), List.getElem?_map]
    cases q : xs[i]? with
    | none => rw [q] at e; cases e
    | some z =>
      rw [q] at e
      cases e
      obtain ⟨v, a, b⟩ := r.get q
      exact ⟨v, by rw [a]; rfl, b⟩
  · rw [List.getElem?_append_right (by simpa using hi), List.getElem?_replicate] at e
    split at e <;> cases e
end
/-- what a def's body wants at its end -/
def endsOf (Q : MQ) (E : MX) : MEnds := ⟨fun _ M' => Q .non M', Q, fun _ _ => False, fun _ _ => False, fun e _ M' => E e M'⟩
section
variable {P : Program} {w : World} {K : Frg} {mg : Str → Option Value} {base : Heap} {st : Stmt} {f : Addr} {fd : FuncData} {N ps : List Str} {k : Nat} {sp : MSp} {m : MS} {x qual : Str}
theorem body_ok {H : Hp} {vs : List V} {Q : VK} {E : XK} (sem : ∀ xs M Q E, sp xs M Q E → m (endsOf Q E) (startM N xs) M) (h : upSp K sp vs H Q E) : upS K (fun cls d _ H => E cls d H) m { nx := fun _ H' => Q .non H', rt := Q } (start N vs) H := by
  obtain ⟨xs, M, Qm, Xm, r, j, s, q, e⟩ := h
  exact ⟨_, M, _, rs_start r, j, sem _ _ _ _ s, fun σ' H' ⟨μ', M', rs', j', k', m'⟩ => q _ _ ⟨.non, M', .i_non, j', k', m'⟩, q, fun _ _ ⟨_, _, _, _, _, z⟩ => z, fun _ _ ⟨_, _, _, _, _, z⟩ => z, fun cls d σ' H' ⟨ex, μ', M', rx, _, j', k', m'⟩ => e _ _ _ ⟨ex, M', rx, j', k', m'⟩⟩
/-- a def of the module by its body -/
theorem fn_okM (F : Fun K x qual st f fd) (S : FnScope N ps (defScope st)) (len : ∀ xs M Q E, sp xs M Q E → xs.length = ps.length)
    (der : ∀ cdv A outer s H E, Room k (A.deeper (envOfC qual (defScope st) s.heap.objs.size f cdv)) → JB (cxOf (L2.CX P w) P w K mg base N qual (defScope st) f cdv A outer s H E) (fun cls d _ H => E cls d H) (defBody st) m)
    (sem : ∀ xs M Q E, sp xs M Q E → m (endsOf Q E) (startM N xs) M) : FnOk P w K mg base (L2.CX P w) (k + 1) f fd ps (upSp K sp) :=
  F.okX S (fun vs H Q E ⟨xs, M, _, _, r, _, s, _⟩ => by rw [← r.length]; exact len _ _ _ _ s) fun cdv A outer s H vs Q E hr h => ⟨_, der cdv A outer s H E hr, body_ok sem h⟩
/-- .. with defaults -/
theorem fn_okD {params : Arguments} {body : List Stmt} {scope : Scope} {dvs : List V} {kws : List (Str × V)} (F : FunD K x qual params body scope dvs kws f fd) (S : FnScope N ps scope) (len : ∀ xs M Q E, sp xs M Q E → xs.length = ps.length)
    (der : ∀ cdv A outer s H E, Room k (A.deeper (envOfC qual scope s.heap.objs.size f cdv)) → JB (cxOf (L2.CX P w) P w K mg base N qual scope f cdv A outer s H E) (fun cls d _ H => E cls d H) body m)
    (sem : ∀ xs M Q E, sp xs M Q E → m (endsOf Q E) (startM N xs) M) : FnOk P w K mg base (L2.CX P w) (k + 1) f fd ps (upSp K sp) :=
  F.ok S (fun vs H Q E ⟨xs, M, _, _, r, _, s, _⟩ => by rw [← r.length]; exact len _ _ _ _ s) fun cdv A outer s H vs Q E hr h => ⟨_, der cdv A outer s H E hr, body_ok sem h⟩
/-- a weaker promise -/
theorem FnOk.impM {sp' : MSp} (F : FnOk P w K mg base (L2.CX P w) k f fd ps (upSp K sp)) (h : ∀ xs M Q E, sp' xs M Q E → sp xs M Q E) : FnOk P w K mg base (L2.CX P w) k f fd ps (upSp K sp') :=
  F.imp fun vs H Q E ⟨xs, M, Qm, Xm, r, j, s, q, e⟩ => ⟨xs, M, Qm, Xm, r, j, h _ _ _ _ s, q, e⟩
end

/-! ### exceptions -/
def mRaise (C : Addr) : MS := fun D μ M => D.ex ⟨C, none⟩ μ M
/-- try: body / except c as n (slot i): suite -/
def mTryAs (isa : Addr → Bool → Prop) (i : Nat) (body : MS) (suite : Addr → MExc → MS) : MS := fun D μ M => body { D with ex := fun e μ' M' => ∃ b, isa e.C b ∧
  (b = true → ∀ a, suite a e ⟨fun μ2 M2 => D.nx (μ2.set i none) M2, D.rt, fun μ2 M2 => D.bk (μ2.set i none) M2, fun μ2 M2 => D.ct (μ2.set i none) M2, noXS⟩ (μ'.set i (some (.ref a))) M') ∧ (b = false → D.ex e μ' M') } μ M
def mTry1 (isa : Addr → Bool → Prop) (body : MS) (suite : Addr → MExc → MS) : MS := fun D μ M => body { D with ex := fun e μ' M' => ∃ b, isa e.C b ∧
  (b = true → ∀ a, suite a e ⟨D.nx, D.rt, D.bk, D.ct, noXS⟩ μ' M') ∧ (b = false → D.ex e μ' M') } μ M
section
variable {X : Cx} {W : WX} {x n : Str} {c : Value} {i : Nat} {body suite : List Stmt} {b₀ : Stmt} {np pos pos' : Pos} {mb : MS} {ms : Addr → MExc → MS}
theorem js_raise {e : Expr} {C : Addr} (hc : X.calm = true) (tk : Takes X W) (h : PMk X e (fun _ H Q => Q (.ref C) none H)) : JS X W (.Raise (some e) none pos) (mRaise C) :=
  PS.weak (ps_raise hc tk h) fun D σ H ⟨μ, M, Dm, rs, j, m, u⟩ => u.ex _ _ _ _ ⟨⟨C, none⟩, μ, M, ⟨rfl, rfl⟩, rs, j, Keep.refl _ _, m⟩
/-- a suite's reading, for the exception that it holds -/
def tSuite (K : Frg) (ms : Addr → MExc → MS) : Addr → Value → Option Addr → TS := fun a cls d D σ H => ∃ e, cls = .ref e.C ∧ (e.fs = none → d = none) ∧ upS K W0 (ms a e) D σ H
theorem suite_ok {a : Addr} {oe : Obj} {cls : Value} {d : Option Addr} {pn : List (Addr × Obj)} (hz : Zc cls d oe) (hf : ∃ vs, oe.data = .fields vs)
    (h : ∀ e : MExc, Zc (.ref e.C) d oe → (e.fs = none → d = none) → JB (X.suite a ((a, oe) :: pn)) W0 (b₀ :: suite) (ms a e)) : PSs (X.suite a ((a, oe) :: pn)) (b₀ :: suite) (tSuite X.K ms a cls d) :=
  ⟨fun pins s σ H D I ⟨e, ec, en, q⟩ => (h e (by rw [← ec]; exact hz) en).run pins s σ H D I q⟩
theorem js_tryAs (hs : X.stack = X.env :: X.outer) (hf : X.env.frame = some X.env.locals) (hN : X.N.Nodup) (hi : X.N[i]? = some n) (hln : X.env.kindOf n = some .local) (hc : Names X x c) (tk : Takes X W)
    (hb : ∀ (W : WX) (pn : List (Addr × Obj)) (xe : Value → Shared → Prop), Takes (X.tr pn xe) W → PassesOwn (model X.prog X.w) X.A X.env xe → JB (X.tr pn xe) W body mb)
    (hsu : ∀ (a : Addr) (oe : Obj) (d : Option Addr) (pn : List (Addr × Obj)) (e : MExc), Zc (.ref e.C) d oe → (∃ vs, oe.data = .fields vs) → (e.fs = none → d = none) → JB (X.suite a ((a, oe) :: pn)) W0 (b₀ :: suite) (ms a e)) :
    JS X W (.Try body [.ExceptHandler (some (.Name x np)) (some n) (b₀ :: suite) pos'] [] [] pos) (mTryAs (fun C b => PySem.W.exmOne X.K (.ref C) c = some b) i mb ms) :=
  PS.weak (ps_try_as (tb := fun W => upS X.K W mb) (ts := tSuite X.K ms) hs hf hN hi hln hc tk hb fun a oe cls d pn hz hf => suite_ok hz hf fun e hz en => hsu a oe d pn e hz hf en) fun D σ H ⟨μ, M, Dm, rs, j, m, u⟩ => ⟨μ, M, _, rs, j, m, u.nx, u.rt, u.bk, u.ct,
    fun cls d σ' H' ⟨e, μ', M', rx, rs', j', k', b, hi, yes, no⟩ => ⟨b, by rw [rx.1]; exact hi, fun hb a ha => ⟨e, rx.1, fun en => by have z := rx.2; rw [en] at z; exact z, μ'.set i (some (.ref a)), M', _, rs'.set i .i_ref, j', yes hb a,
        fun σ2 H2 ⟨μ2, M2, rs2, j2, k2, m2⟩ => u.nx _ _ ⟨_, M2, rs2.clear i, j2, k'.trans k2, m2⟩, fun _ _ q => u.rt _ _ (q.from k'), fun σ2 H2 ⟨μ2, M2, rs2, j2, k2, m2⟩ => u.bk _ _ ⟨_, M2, rs2.clear i, j2, k'.trans k2, m2⟩,
        fun σ2 H2 ⟨μ2, M2, rs2, j2, k2, m2⟩ => u.ct _ _ ⟨_, M2, rs2.clear i, j2, k'.trans k2, m2⟩, fun _ _ _ _ ⟨_, _, _, _, _, _, _, z⟩ => z⟩,
      fun hb => u.ex _ _ _ _ ⟨e, μ', M', rx, rs', j', k', no hb⟩⟩⟩
theorem js_try1 (hs : X.stack = X.env :: X.outer) (hf : X.env.frame = some X.env.locals) (hc : Names X x c) (tk : Takes X W)
    (hb : ∀ (W : WX) (pn : List (Addr × Obj)) (xe : Value → Shared → Prop), Takes (X.tr pn xe) W → PassesOwn (model X.prog X.w) X.A X.env xe → JB (X.tr pn xe) W body mb)
    (hsu : ∀ (a : Addr) (oe : Obj) (d : Option Addr) (pn : List (Addr × Obj)) (e : MExc), Zc (.ref e.C) d oe → (∃ vs, oe.data = .fields vs) → (e.fs = none → d = none) → JB (X.suite a ((a, oe) :: pn)) W0 (b₀ :: suite) (ms a e)) :
    JS X W (.Try body [.ExceptHandler (some (.Name x np)) none (b₀ :: suite) pos'] [] [] pos) (mTry1 (fun C b => PySem.W.exmOne X.K (.ref C) c = some b) mb ms) :=
  PS.weak (ps_try_only (tb := fun W => upS X.K W mb) (ts := tSuite X.K ms) hs hf hc tk hb fun a oe cls d pn hz hf => suite_ok hz hf fun e hz en => hsu a oe d pn e hz hf en) fun D σ H ⟨μ, M, Dm, rs, j, m, u⟩ => ⟨μ, M, _, rs, j, m, u.nx, u.rt, u.bk, u.ct,
    fun cls d σ' H' ⟨e, μ', M', rx, rs', j', k', b, hi, yes, no⟩ => ⟨b, by rw [rx.1]; exact hi, fun hb a ha => ⟨e, rx.1, fun en => by have z := rx.2; rw [en] at z; exact z, μ', M', _, rs', j', yes hb a,
        fun _ _ q => u.nx _ _ (q.from k'), fun _ _ q => u.rt _ _ (q.from k'), fun _ _ q => u.bk _ _ (q.from k'), fun _ _ q => u.ct _ _ (q.from k'), fun _ _ _ _ ⟨_, _, _, _, _, _, _, z⟩ => z⟩,
      fun hb => u.ex _ _ _ _ ⟨e, μ', M', rx, rs', j', k', no hb⟩⟩⟩
end

/-- the classes of exceptions by name: where they stand, what is under what -/
structure XEnv where
  cl : Str → Addr
  isa : Str → Addr → Bool → Prop
  kit : Str → Addr → Bool → Prop
def xenv (K : Frg) (cl : Str → Addr) : XEnv := ⟨cl, fun n C b => PySem.W.exmOne K (.ref C) (.ref (cl n)) = some b, fun n C b => ExcC K C ∧ PySem.W.kitOne K (.ref C) (.ref (cl n)) = some b⟩
/-- isinstance(e, n), e the exception that the suite holds in slot i -/
def mExcIs (xe : XEnv) (a : Addr) (e : MExc) (i : Nat) (n : Str) : ME := fun μ M Q _ => getS μ i fun x => x = .ref a ∧ e.fs = none ∧ ∃ b, xe.kit n e.C b ∧ Q (.bl b) M
section
variable {X : Cx} {W : WX} {a : Addr} {oe : Obj} {pn : List (Addr × Obj)} {d : Option Addr} {e : MExc} {cl : Str → Addr} {x n : Str} {i : Nat} {p p1 p2 pos : Pos}
theorem je_excIs (hz : Zc (.ref e.C) d oe) (hf : ∃ vs, oe.data = .fields vs) (hn : e.fs = none → d = none) (hx : PE (X.suite a ((a, oe) :: pn)) (.Name x p1) (tVar i))
    (hg : Gl X "isinstance") (hm : X.mg "isinstance" = none) (hv : bootBuiltins "isinstance" = some (.builtin "isinstance")) (gT : Gl X n) (mT : X.mg n = some (.ref (cl n)))
    (hdb : (n == ("__debug__" : Str)) = false := by decide) (he : starEach [.Name x p1, .Name n p2] X.env = (false, eval (.Name x p1) X.env) :: starEach [.Name n p2] X.env := by rfl) (he2 : starEach [.Name n p2] X.env = (false, eval (.Name n p2) X.env) :: starEach [] X.env := by rfl)
    (hpl : (backTo pos (starEach [.Name n p2] X.env)).any (·.1) = false := by rfl) : JE (X.suite a ((a, oe) :: pn)) W (.Call (.Name "isinstance" p) [.Name x p1, .Name n p2] [] pos) (mExcIs (xenv X.K cl) a e i n) := by
  refine ⟨fun pins s σ H Q I ⟨μ, M, Qm, Xm, rs, j, m, q, xx⟩ => ?_⟩
  obtain ⟨y, ey, rfl, en, b, ⟨hk, hb⟩, m⟩ := getS_some m
  obtain ⟨v, ev, rv⟩ := rs.at_ i _ ey
  cases rv.ref
  have hd := hn en
  subst hd
  have c := call_isE (X := X) (pn := pn) (a := a) hk hz hf
  refine (pe_callB (X := X.suite a ((a, oe) :: pn)) c hg hm hv (pa_cons hx (pa_cons (pe_glob (X := X.suite a ((a, oe) :: pn)) (v := .ref (cl n)) gT mT rfl hdb) pa_nil he2) he) (by decide) (by decide) he hpl).run pins s σ H Q I ?_
  exact ⟨.ref a, ev, .ref (cl n), .ref (cl n), b, rfl, fun u r => r, hb, q _ _ (.now .i_bl j m)⟩
/-- raise C('..'), an own class without __init__ over ValueError -/
theorem js_raiseOwn {m : Str} {k : Nat} {C : Addr} {pp : Pos} (hc : X.calm = true) (tk : Takes X W) (q : PySem.W.excIn X.K C [.type "ValueError", .type "Exception", .type "BaseException", .type "object"] "ValueError.__new__" = true) (gC : X.mg x = some (.ref C)) (kC : PySem.W.keepIn X.K (.ref C) = true)
    (r1 : PySem.W.subIn X.K (.ref C) (.type "BaseException") = some true) (r2 : PySem.W.typeIn X.K (.ref C) = some (.type "type")) (hg : Gl X x) (hdb : (x == ("__debug__" : Str)) = false := by decide) :
    JS X W (.Raise (some (.Call (.Name x p) [.Constant (.str m) k p2] [] pos)) none pp) (mRaise C) := js_raise hc tk (pmk_own PySem.F.excBase_ValueError q gC kC (raises_own r1 r2) hg hdb)
end

/-! ### a def of the module as callers use it -/
structure Def (P : Program) (w : World) (K : Frg) (mg : Str → Option Value) (base : Heap) (x : Str) (k : Nat) (ps : List Str) (sp : MSp) : Prop where
  ex : ∃ f fd, mg x = some (.ref f) ∧ PySem.W.keepIn K (.ref f) = true ∧ Binds K fd ps [] ∧ FnOk P w K mg base (L2.CX P w) k f fd ps (upSp K sp)
section
variable {X : Cx} {W : WX} {k : Nat} {ps : List Str} {sp : MSp} {x : Str} {p pos : Pos} {e : Expr} {es : List Expr} {m : MA}
theorem je_def (D : Def X.prog X.w X.K X.mg X.base x k ps sp) (hr : Room k X.A) (hg : Gl X x) (tk : Takes X W) (ha : JA X W (e :: es) m) (hdb : (x == ("__debug__" : Str)) = false := by decide) (he : starEach (e :: es) X.env = (false, eval e X.env) :: starEach es X.env := by rfl) (hpl : (backTo pos (starEach es X.env)).any (·.1) = false := by rfl) :
    JE X W (.Call (.Name x p) (e :: es) [] pos) (mCall sp m) := by
  obtain ⟨f, fd, hm, hk, hb, F⟩ := D.ex
  exact je_call F hr hg hm hk hb tk ha hdb he hpl
/-- .. by keywords alone -/
structure DefKw (P : Program) (w : World) (K : Frg) (mg : Str → Option Value) (base : Heap) (x : Str) (k : Nat) (ps ks : List Str) (pm : List Nat) (sp : MSp) : Prop where
  ex : ∃ f fd, mg x = some (.ref f) ∧ PySem.W.keepIn K (.ref f) = true ∧ KwOnly K fd ps ks pm ∧ FnOk P w K mg base (L2.CX P w) k f fd ps (upSp K sp)
theorem je_defKw {kws : List Keyword} {ks : List Str} {pm : List Nat} {n : Nat} (D : DefKw X.prog X.w X.K X.mg X.base x k ps ks pm sp) (hr : Room k X.A) (hg : Gl X x) (tk : Takes X W) (hkw : JK X W kws m) (hn : ks.length = n := by rfl) (hall : (backToKw pos (keywordEach kws X.env)).all (·.1.isSome) = true := by rfl) (hks : (backToKw pos (keywordEach kws X.env)).filterMap (·.1) = ks := by rfl) (hdb : (x == ("__debug__" : Str)) = false := by decide)
    (hpl : ((backTo pos (starEach [] X.env)).any (·.1) || (backToKw pos (keywordEach kws X.env)).any (·.1.isNone)) = false := by rfl) :
    JE X W (.Call (.Name x p) [] kws pos) (mCallK sp pm n m) := by
  obtain ⟨f, fd, hm, hk, hb, F⟩ := D.ex
  rw [← hn]
  exact je_callKw F hr hg hm hk hb tk hkw hall hks hdb hpl
theorem je_globI' {i : Int} (hg : Gl X x) (hm : ∃ t, X.mg x = some (.int i t)) (hd : (x == ("__debug__" : Str)) = false := by decide) : JE X W (.Name x pos) (mC (.int i)) := let ⟨_, h⟩ := hm; je_globI hg h hd
theorem je_globS' {i : Str} (hg : Gl X x) (hm : ∃ t, X.mg x = some (.str i t)) (hd : (x == ("__debug__" : Str)) = false := by decide) : JE X W (.Name x pos) (mC (.str i)) := let ⟨_, h⟩ := hm; je_globS hg h hd

/-! ### dict displays -/
def mDict0 : ME := fun _ M Q _ => ∀ p, M p = none → Q (.ref p) (updM M p (.dct []))
theorem je_dict0 : JE X W (.Dict [] [] pos) mDict0 := PE.weak pe_dnewK fun σ H Q ⟨μ, M, Qm, Xm, rs, j, m, q, x⟩ => fun p hp => q _ _ ⟨.ref p, _, .i_ref, j.newM (u := .dct []) hp ⟨[], upd_same, rfl, .nil⟩, keep_newM hp, m p (j.fresh hp)⟩
/-- {k: v}, k a text -/
def mDict1 (a b : ME) : ME := fun μ M Q E => a μ M (fun x M1 => b μ M1 (fun y M2 => match x with
  | .str s => ∀ p, M2 p = none → Q (.ref p) (updM M2 p (.dct [(.inr s, y)]))
  | _ => False) E) E
theorem je_dict1 {a b : Expr} {ma mb : ME} (ha : JE X W a ma) (hb : JE X W b mb) : JE X W (.Dict [some a] [b] pos) (mDict1 ma mb) :=
  PE.weak (pe_disp (pps_cons ha hb pps_nil) rfl rfl (by simp) (by show 1 ≤ 15; decide)) fun σ H Q ⟨μ, M, Qm, Xm, rs, j, m, q, x⟩ => fun p hp => by
    have j0 := j.new (o := .dK []) hp
    have k0 : Keep H M (upd H p (.dK [])) M := keep_new hp
    refine ⟨μ, M, _, Xm, rs.keep j k0, j0, m, fun v H1 ⟨y, M1, r1, j1, k1, m1⟩ => ⟨μ, M1, _, Xm, (rs.keep j k0).keep j0 k1, j1, m1, fun w H2 ⟨z, M2, r2, j2, k2, m2⟩ => ?_, fun _ _ _ u => x _ _ _ ((u.from k1).from k0)⟩, fun _ _ _ u => x _ _ _ (u.from k0)⟩
    obtain ⟨e2, n2⟩ := (k1.trans k2) p _ upd_same (j.fresh hp)
    have kk := k0.trans (k1.trans k2)
    have r1' := r1.keep j1 k2
    match y, m2, r1' with
    | .str s, m2, r1' =>
      cases r1'.str
      refine ⟨e2, [(.inr s, w)], rfl, (by show 1 ≤ 15; decide), q _ _ ⟨.ref p, updM M2 p (.dct [(.inr s, z)]), .i_ref, fun a o e => ?_, fun a u e n => ?_, m2 p n2⟩⟩
      · have kt : KeepT H2 (upd H2 p (.dK (mergeK [] [(.inr s, w)]))) := ⟨fun a us e => by rw [upd_ne (ne_of e e2 (fun z => nomatch z))]; exact e, fun a o u e => by rw [upd_ne (ne_of e e2 (fun z => nomatch z))]; exact e⟩
        by_cases zz : a = p
        · subst zz
          rw [updM_same] at e
          cases e
          exact ⟨[(.inr s, w)], upd_same, rfl, .cons (r2.keepT kt) .nil⟩
        · rw [updM_ne zz] at e
          exact (j2 a o e).keepT kt (upd_ne zz)
      · obtain ⟨q1, q2⟩ := kk a u e n
        exact ⟨by rw [upd_ne (ne_of_none e hp)]; exact q1, by rw [updM_ne (ne_of_none e hp)]; exact q2⟩
end
end PL
end L2
set_option maxRecDepth 100000
set_option maxHeartbeats 2000000
/-! PL4: how a reading is proved: slots, lists, loops; the draws of the laws -/
namespace L2
namespace PL
open PySem PySem.Spec PyProof.Rows

theorem getS_0 {x : PV} {l : MSt} {k : PV → Prop} : getS (some x :: l) 0 k = k x := rfl
theorem getS_s {y : Option PV} {l : MSt} {n : Nat} {k : PV → Prop} : getS (y :: l) (n + 1) k = getS l n k := rfl
theorem getS_eq {μ : MSt} {i : Nat} {x : PV} {k : PV → Prop} (e : μ[i]? = some (some x)) : getS μ i k = k x := by unfold getS; rw [e]
theorem withL_eq {M : MHp} {a : Addr} {k : List PV → Prop} {xs : List PV} (e : M a = some (.lst xs)) : withL M a k = k xs := by unfold withL; rw [e]
abbrev pis (l : List Int) : List PV := l.map PV.int
theorem isB_bl {b : Bool} {k : Bool → Prop} : isB (.bl b) k = k b := rfl
theorem atI_0 {α : Type} {x : α} {l : List α} : atI (x :: l) 0 = some x := by unfold atI ixN; simp; try rw [if_pos (by omega)]; try simp
theorem atI_1 {α : Type} {x y : α} {l : List α} : atI (x :: y :: l) 1 = some y := by unfold atI ixN; simp; rw [if_pos (by omega)]; simp
theorem atI_2 {α : Type} {x y z : α} {l : List α} : atI (x :: y :: z :: l) 2 = some z := by unfold atI ixN; simp; rw [if_pos (by omega)]; simp
theorem atI_map {α β : Type} {f : α → β} {l : List α} {i : Int} : atI (l.map f) i = (atI l i).map f := by
  unfold atI; rw [List.length_map]; cases ixN l.length i <;> simp
theorem atI_in {α : Type} {l : List α} {i : Int} (h0 : 0 ≤ i) (h1 : i < l.length) : ∃ x, atI l i = some x ∧ l[i.toNat]? = some x := by
  have h : i.toNat < l.length := by omega
  refine ⟨l[i.toNat], ?_, List.getElem?_eq_getElem h⟩
  have := atI_nat (xs := l) (j := i.toNat) (List.getElem?_eq_getElem h)
  rwa [Int.toNat_of_nonneg h0] at this

/-! ### the operators by their operands -/
section
variable {M : MHp} {Q : MQ} {i j : Int} {a b : Str} {l m : List PV} {p r : Addr} {x y : PV} {N : MHp → Prop} {k : Bool → Prop}
theorem sAdd_ii : sAdd (.int i) (.int j) M Q = Q (.int (i + j)) M := rfl
theorem sAdd_ss : sAdd (.str a) (.str b) M Q = (a.length + b.length ≤ sizeLine ∧ Q (.str (a ++ b)) M) := rfl
theorem sAdd_tt : sAdd (.tup l) (.tup m) M Q = (l.length + m.length ≤ sizeLine ∧ Q (.tup (l ++ m)) M) := rfl
theorem sAdd_rr : sAdd (.ref p) (.ref r) M Q = withL M p fun xs => withL M r fun ys => xs.length + ys.length ≤ sizeLine ∧ newL M (xs ++ ys) Q := rfl
theorem sI2_ii {C : Int → Int → Prop} {g : Int → Int → PV} : sI2 C g (.int i) (.int j) M Q = (C i j ∧ Q (g i j) M) := rfl
theorem sMul_ii : sMul (.int i) (.int j) M Q = (CMul i j ∧ Q (.int (i * j)) M) := rfl
theorem sMul_si : sMul (.str a) (.int j) M Q = (MulOk a j ∧ Q (.str (Txt.mul a j)) M) := rfl
theorem sIAdd_ii : sIAdd (.int i) (.int j) M Q = Q (.int (i + j)) M := rfl
theorem sIAdd_ss : sIAdd (.str a) (.str b) M Q = (a.length + b.length ≤ sizeLine ∧ Q (.str (a ++ b)) M) := rfl
theorem sNeg_i : sNeg (.int i) M Q = Q (.int (-i)) M := rfl
theorem sEq_ii : sEq (.int i) (.int j) M Q = Q (.bl (decide (i = j))) M := rfl
theorem sEq_ss : sEq (.str a) (.str b) M Q = Q (.bl (decide (a = b))) M := rfl
theorem sNe_ii : sNe (.int i) (.int j) M Q = Q (.bl (!decide (i = j))) M := rfl
theorem sNe_ss : sNe (.str a) (.str b) M Q = Q (.bl (!decide (a = b))) M := rfl
theorem sIs_n : sIs x .non M Q = Q (.bl (isNonP x)) M := by cases x <;> rfl
theorem sIsNot_n : sIsNot x .non M Q = Q (.bl (!isNonP x)) M := by cases x <;> rfl
theorem isNonP_n : isNonP .non = true := rfl
theorem isNonP_t : isNonP (.tup l) = false := rfl
theorem isNonP_s : isNonP (.str a) = false := rfl
theorem isNonP_i : isNonP (.int i) = false := rfl
theorem isNonP_r : isNonP (.ref p) = false := rfl
theorem sIn_ss {n : Bool} : sIn n (.str a) (.str b) M Q = Q (.bl (if n then !strIn a b else strIn a b)) M := rfl
theorem sIn_st {n : Bool} : sIn n (.str a) (.tup l) M Q = ((flatP (.str a) = true ∧ l.all flatP = true) ∧ Q (.bl (if n then !inP (.str a) l else inP (.str a) l)) M) := rfl
theorem sIn_sr {n : Bool} : sIn n (.str a) (.ref p) M Q = withL M p fun l => (flatP (.str a) = true ∧ l.all flatP = true) ∧ Q (.bl (if n then !inP (.str a) l else inP (.str a) l)) M := rfl
theorem sIx_t : sIx (.tup l) (.int i) M Q = ∃ v, atI l i = some v ∧ Q v M := rfl
theorem sIx_o : sIx (.rol l) (.int i) M Q = ∃ v, atI l i = some v ∧ Q v M := rfl
theorem sIx_r : sIx (.ref p) (.int i) M Q = withL M p fun l => ∃ v, atI l i = some v ∧ Q v M := rfl
theorem sIx_s : sIx (.str a) (.int i) M Q = (a.length ≤ sizeLine ∧ ∃ c, atI a.cps.toList i = some c ∧ Q (.str ⟨#[c]⟩) M) := rfl
theorem sLen_t : sLen [.tup l] M Q = Q (.int l.length) M := rfl
theorem sLen_o : sLen [.rol l] M Q = Q (.int l.length) M := rfl
theorem sLen_r : sLen [.ref p] M Q = withL M p fun l => Q (.int l.length) M := rfl
theorem sLen_s : sLen [.str a] M Q = (a.length ≤ sizeLine ∧ Q (.int a.length) M) := rfl
theorem sAbs_i : sAbs [.int i] M Q = Q (.int (if i < 0 then -i else i)) M := rfl
theorem sInt_i : sInt [.int i] M Q = Q (.int i) M := rfl
theorem sMin2_i : sMin2 [.int i, .int j] M Q = Q (.int (if j < i then j else i)) M := rfl
theorem sMax2_i : sMax2 [.int i, .int j] M Q = Q (.int (if j > i then j else i)) M := rfl
theorem sStrI_i : sStrI [.int i] M Q = (i.natAbs.log2 < 1920 ∧ Q (.str (toString i)) M) := rfl
theorem sTupOf_t : sTupOf [.tup l] M Q = Q (.tup l) M := rfl
theorem sTupOf_r : sTupOf [.ref p] M Q = withL M p fun l => Q (.tup l) M := rfl
theorem sLstOf_t : sLstOf [.tup l] M Q = newL M l Q := rfl
theorem sLstOf_r : sLstOf [.ref p] M Q = withL M p fun l => newL M l Q := rfl
theorem sAppend_r : sAppend (.ref p) [y] M Q = withL M p fun xs => xs.length < sizeLine ∧ Q .non (updM M p (.lst (xs ++ [y]))) := rfl
theorem sPop_r : sPop (.ref p) [] M Q = withL M p fun xs => ∃ y, xs[xs.length - 1]? = some y ∧ Q y (updM M p (.lst xs.dropLast)) := rfl
theorem sPopAt_r : sPopAt (.ref p) [.int i] M Q = withL M p fun xs => (-(2 ^ 63) ≤ i ∧ i < 2 ^ 63) ∧ ∃ k y, seqIndex? i xs.length = some k ∧ xs[k]? = some y ∧ Q y (updM M p (.lst (xs.eraseIdx k))) := rfl
theorem sInsert_r : sInsert (.ref p) [.int i, y] M Q = withL M p fun xs => (xs.length < sizeLine ∧ 0 ≤ i ∧ i < 2 ^ 63) ∧ Q .non (updM M p (.lst (xs.take i.toNat ++ [y] ++ xs.drop i.toNat))) := rfl
theorem sSet_r : sSet (.ref p) (.int i) x M N = withL M p fun xs => ∃ n, ixN xs.length i = some n ∧ N (updM M p (.lst (xs.set n x))) := rfl
theorem truP_t : truP (.tup l) M k = k (!l.isEmpty) := rfl
theorem truP_b {b : Bool} : truP (.bl b) M k = k b := rfl
theorem truP_r : truP (.ref p) M k = match M p with
    | some (.lst xs) => k (!xs.isEmpty)
    | some (.dct kvs) => k (!kvs.isEmpty)
    | _ => False := rfl
theorem truP_l {xs : List PV} (h : M p = some (.lst xs)) : truP (.ref p) M k = k (!xs.isEmpty) := by rw [truP_r, h]
theorem tyM_l {xs : List PV} (h : M p = some (.lst xs)) : tyM "list" (.ref p) M = True := by show (match M p with | some (.lst _) => "list" = "list" | some (.dct _) => "list" = "dict" | none => False) = True; rw [h]; exact eq_true rfl
theorem tyP_l {xs : List PV} (h : M p = some (.lst xs)) : tyP (.ref p) M = some "list" := by show (match M p with | some (.lst _) => some "list" | some (.dct _) => some "dict" | none => none) = _; rw [h]
theorem tyP_d {xs : List (Key × PV)} (h : M p = some (.dct xs)) : tyP (.ref p) M = some "dict" := by show (match M p with | some (.lst _) => some "list" | some (.dct _) => some "dict" | none => none) = _; rw [h]
theorem tyM_s : tyM "str" (.str a) M = True := eq_true rfl
theorem seqP_t {k : MIt → Prop} : seqP (.tup l) M k = k (.fix l) := rfl
theorem seqP_o {k : MIt → Prop} : seqP (.rol l) M k = k (.fix l) := rfl
theorem seqP_r {k : MIt → Prop} : seqP (.ref p) M k = withL M p fun xs => k (.live p xs) := rfl
theorem iRng_i {m : MA} {μ : MSt} {R : MIt → MHp → Prop} {E : MX} : iRng m μ M R E = m μ M (fun xs M1 => match xs with
  | [.int j] => (-(2 ^ 62) ≤ j ∧ j < 2 ^ 62) ∧ R (.fix (rangeP 0 1 j.toNat)) M1
  | _ => False) E := rfl
theorem withL_upd {k : List PV → Prop} : withL (updM M p (.lst l)) p k = k l := withL_eq updM_same
theorem withL_ne {k : List PV → Prop} {o : MO} (h : r ≠ p) : withL (updM M p o) r k = withL M r k := by unfold withL; rw [updM_ne h]
theorem upd_upd {o u : MO} : updM (updM M p o) p u = updM M p u := by
  funext b; unfold updM; split <;> rfl
theorem gTupM_t {n : Nat} {g : MGs} {μ : MSt} {N : MSt → MHp → Prop} {E : MExc → MSt → MHp → Prop} : gTupM n g (.tup l) μ M N E = (l.length = n ∧ g l μ M N E) := rfl
theorem gConsM_c {g : MG} {r : MGs} {μ : MSt} {N : MSt → MHp → Prop} {E : MExc → MSt → MHp → Prop} : gConsM g r (x :: l) μ M N E = g x μ M (fun μ' M' => r l μ' M' N E) E := rfl
theorem gNilM_n {μ : MSt} {N : MSt → MHp → Prop} {E : MExc → MSt → MHp → Prop} : gNilM [] μ M N E = N μ M := propext ⟨fun h => h.2, fun h => ⟨rfl, h⟩⟩
theorem sUpper_s : sUpper (.str a) [] M Q = (a.length ≤ 5592405 ∧ ∀ u, Txt.upper a = u → Q (.str u) M) := by
  refine Eq.trans (b := (a.length ≤ 5592405 ∧ Q (.str (Txt.upper a)) M)) rfl (propext ⟨fun h => ⟨h.1, fun u e => e ▸ h.2⟩, fun h => ⟨h.1, h.2 _ rfl⟩⟩)
theorem mLst_n {a : MA} {μ : MSt} {E : MX} : mLst a μ M Q E = a μ M (fun xs M1 => xs.length ≤ sizeLine ∧ newL M1 xs Q) E := rfl
def newD (M : MHp) (o : List (Key × PV)) (Q : MQ) : Prop := ∀ p, M p = none → Q (.ref p) (updM M p (.dct o))
theorem mDict0_n {μ : MSt} {E : MX} : mDict0 μ M Q E = newD M [] Q := rfl
theorem mDict1_n {ma mb : ME} {μ : MSt} {E : MX} : mDict1 ma mb μ M Q E = ma μ M (fun x M1 => mb μ M1 (fun y M2 => match x with
  | .str s => newD M2 [(.inr s, y)] Q
  | _ => False) E) E := rfl
theorem sSl_r {lo hi : Option Int} : sSl (.ref p) lo hi M Q = withL M p fun l => newL M (cutP l lo hi) Q := rfl
theorem cutP_take {α : Type} {xs : List α} {k : Nat} (h : k ≤ xs.length) : cutP xs none (some (k : Int)) = xs.take k := by
  unfold cutP
  rw [HT.sIx_none, HT.sIx_nat, Nat.min_eq_left h, List.drop_zero, Nat.sub_zero]
theorem cutP_drop {α : Type} {xs : List α} {k : Nat} (h : k ≤ xs.length) : cutP xs (some (k : Int)) none = xs.drop k := by
  unfold cutP
  rw [HT.sIx_none, HT.sIx_nat, Nat.min_eq_left h, List.take_of_length_le (by rw [List.length_drop]; omega)]
theorem ixN_30 : ixN 3 0 = some 0 := by decide
theorem ixN_31 : ixN 3 1 = some 1 := by decide
theorem ixN_32 : ixN 3 2 = some 2 := by decide
theorem ixN_s0 {n : Nat} : ixN (n + 1) 0 = some 0 := by unfold ixN; rw [if_pos (by omega), if_pos (by omega)]; rfl
theorem dec_if {c : Prop} [Decidable c] {P R : Prop} : (if decide c = true then P else R) = if c then P else R := by by_cases z : c <;> simp [z]
theorem sMod_i (h : 0 < j) (q : Q (.int (i % j)) M) : sMod (.int i) (.int j) M Q := ⟨h, q⟩
theorem add_assoc' {i : Nat} : i + 1 + 1 = i + 2 := rfl
end
theorem sz24 : sizeLine = 16777216 := by decide

theorem seq_i {a b : MS} {D : MEnds} {μ : MSt} {M : MHp} (h : ∀ N : MSt → MHp → Prop, (∀ μ' M', b D μ' M' → N μ' M') → a { D with nx := N } μ M) : mSeq a b D μ M := h _ fun _ _ h => h
/-! ### loops -/
theorem loopG_ind {it : MIt} {g : MG} {b : MS} {D : MEnds} (Inv : Nat → MSt → MHp → Prop)
    (step : ∀ (i : Nat) (x : PV) (μ : MSt) (M : MHp) (L : MSt → MHp → Prop), it.items[i]? = some x → Inv i μ M → (∀ μ' M', Inv (i + 1) μ' M' → L μ' M') → it.w M (g x μ M (fun μ2 M2 => b { D with nx := L, ct := L, bk := D.nx } μ2 M2) D.ex))
    (fin : ∀ μ M, Inv it.items.length μ M → it.w M (D.nx μ M)) {μ : MSt} {M : MHp} (h : Inv 0 μ M) : loopG it g b D it.items μ M := by
  suffices H : ∀ n i μ M, i + n = it.items.length → Inv i μ M → loopG it g b D (it.items.drop i) μ M by
    have := H it.items.length 0 μ M (by omega) h
    rwa [List.drop_zero] at this
  intro n
  induction n with
  | zero =>
    intro i μ M hi h
    have e : i = it.items.length := by omega
    subst e
    rw [List.drop_length]
    exact fin _ _ h
  | succ n ih =>
    intro i μ M hi h
    have hlt : i < it.items.length := by omega
    rw [List.drop_eq_getElem_cons hlt]
    exact step i _ μ M _ (List.getElem?_eq_getElem hlt) h fun μ' M' h' => ih (i + 1) μ' M' (by omega) h'
/-- for over plain items -/
theorem for_fix {xs : List PV} {g : MG} {b : MS} {D : MEnds} (Inv : Nat → MSt → MHp → Prop)
    (step : ∀ (i : Nat) (x : PV) (μ : MSt) (M : MHp) (L : MSt → MHp → Prop), xs[i]? = some x → Inv i μ M → (∀ μ' M', Inv (i + 1) μ' M' → L μ' M') → g x μ M (fun μ2 M2 => b { D with nx := L, ct := L, bk := D.nx } μ2 M2) D.ex)
    (fin : ∀ μ M, Inv xs.length μ M → D.nx μ M) {μ : MSt} {M : MHp} (h : Inv 0 μ M) : loopG (.fix xs) g b D xs μ M := loopG_ind (it := .fix xs) Inv step fin h
/-- for k in range(n) -/
theorem for_rng {n : Nat} {g : MG} {b : MS} {D : MEnds} (Inv : Nat → MSt → MHp → Prop)
    (step : ∀ (i : Nat) (μ : MSt) (M : MHp) (L : MSt → MHp → Prop), i < n → Inv i μ M → (∀ μ' M', Inv (i + 1) μ' M' → L μ' M') → g (.int i) μ M (fun μ2 M2 => b { D with nx := L, ct := L, bk := D.nx } μ2 M2) D.ex)
    (fin : ∀ μ M, Inv n μ M → D.nx μ M) {μ : MSt} {M : MHp} (h : Inv 0 μ M) : loopG (.fix (rangeP 0 1 n)) g b D (rangeP 0 1 n) μ M := by
  refine for_fix Inv (fun i x μ M L e hi hl => ?_) (fun μ M h => fin μ M (by rwa [rangeP_len] at h)) h
  have hlt : i < n := by
    have := (List.getElem?_eq_some_iff.mp e).1
    rwa [rangeP_len] at this
  rw [rangeP_get hlt] at e
  cases e
  rw [Int.mul_one, Int.zero_add]
  exact step i μ M L hlt hi hl
theorem lcG_ind {it : MIt} {g : MG} {tt : MT} {te : ME} {μw : MSt} {Q : MQ} (Inv : Nat → List PV → MHp → Prop)
    (step : ∀ (i : Nat) (x : PV) (acc : List PV) (M : MHp) (L : List PV → MHp → Prop), it.items[i]? = some x → Inv i acc M → (∀ acc' M', Inv (i + 1) acc' M' → L acc' M') → it.w M (g x μw M (fun μ2 M2 => tt μ2 M2 (fun b M3 => if b = true then te μ2 M3 (fun y M4 => acc.length < sizeLine ∧ L (acc ++ [y]) M4) noX else L acc M3) noX) noXS))
    (fin : ∀ acc M, Inv it.items.length acc M → it.w M (newL M acc Q)) {M : MHp} (h : Inv 0 [] M) : lcG it g tt te μw Q it.items [] M := by
  suffices H : ∀ n i acc M, i + n = it.items.length → Inv i acc M → lcG it g tt te μw Q (it.items.drop i) acc M by
    have := H it.items.length 0 [] M (by omega) h
    rwa [List.drop_zero] at this
  intro n
  induction n with
  | zero =>
    intro i acc M hi h
    have e : i = it.items.length := by omega
    subst e
    rw [List.drop_length]
    exact fin _ _ h
  | succ n ih =>
    intro i acc M hi h
    have hlt : i < it.items.length := by omega
    rw [List.drop_eq_getElem_cons hlt]
    exact step i _ acc M _ (List.getElem?_eq_getElem hlt) h fun acc' M' h' => ih (i + 1) acc' M' (by omega) h'
/-- [f(x) for x in it], nothing changed -/
theorem lc_pure {it : MIt} {g : MG} {te : ME} {μw : MSt} {Q : MQ} {M : MHp} (f : PV → PV) (ok : ∀ P : Prop, P → it.w M P) (hz : it.items.length ≤ sizeLine)
    (step : ∀ x ∈ it.items, ∀ R : MQ, R (f x) M → g x μw M (fun μ2 M2 => te μ2 M2 R noX) noXS) (q : newL M (it.items.map f) Q) : lcG it g mYes te μw Q it.items [] M := by
  refine lcG_ind (fun i acc M1 => M1 = M ∧ i ≤ it.items.length ∧ acc = (it.items.take i).map f) (fun i x acc M1 L ex h hl => ?_) (fun acc M1 h => ?_) ⟨rfl, Nat.zero_le _, rfl⟩
  · obtain ⟨rfl, hi, rfl⟩ := h
    have hlt := (List.getElem?_eq_some_iff.mp ex).1
    refine ok _ (step x (List.mem_iff_getElem?.mpr ⟨i, ex⟩) _ ⟨?_, hl _ _ ⟨rfl, hlt, ?_⟩⟩)
    · rw [List.length_map, List.length_take]; omega
    · rw [List.take_succ, ex]; simp
  · obtain ⟨rfl, hi, rfl⟩ := h
    rw [List.take_of_length_le (Nat.le_refl _)]
    exact ok _ q

/-! ### what grows -/
def Ext (M M' : MHp) : Prop := ∀ b o, M b = some o → M' b = some o
theorem Ext.new {M : MHp} {p : Addr} {o : MO} (h : M p = none) : Ext M (updM M p o) := fun b u e => by
  rw [updM_ne]
  · exact e
  · rintro rfl; rw [h] at e; cases e
theorem Ext.refl {M : MHp} : Ext M M := fun _ _ h => h
theorem Ext.trans {M M' M'' : MHp} (a : Ext M M') (b : Ext M' M'') : Ext M M'' := fun x o h => b x o (a x o h)
theorem Ext.none {M M' : MHp} {p : Addr} (a : Ext M M') (h : M' p = none) : M p = none := by
  cases e : M p with
  | none => rfl
  | some o => rw [a p o e] at h; cases h
theorem Ext.mut {M M' : MHp} {p : Addr} {o : MO} (a : Ext M M') (h : M p = Option.none) : Ext M (updM M' p o) := fun x u e => by
  rw [updM_ne]
  · exact a x u e
  · rintro rfl; rw [h] at e; cases e
theorem newL_i {M : MHp} {xs : List PV} {Q : MQ} (h : ∀ p M1, M p = none → M1 p = some (.lst xs) → Ext M M1 → Q (.ref p) M1) : newL M xs Q := fun p hp => h p _ hp updM_same (Ext.new hp)
theorem newD_i {M : MHp} {xs : List (Key × PV)} {Q : MQ} (h : ∀ p M1, M p = none → M1 p = some (.dct xs) → Ext M M1 → Q (.ref p) M1) : newD M xs Q := fun p hp => h p _ hp updM_same (Ext.new hp)
/-! ### the draws -/
def Fr (st g : Addr) (M M' : MHp) : Prop := ∀ b o, b ≠ st → b ≠ g → M b = some o → M' b = some o
structure DrawSt (M : MHp) (st g c : Addr) : Prop where
  sg : st ≠ g
  sc : st ≠ c
  gc : g ≠ c
  ex : ∃ (k : Int) (G C : List Int), M st = some (.lst [.ref g, .ref c, .int k]) ∧ M g = some (.lst (G.map .int)) ∧ M c = some (.lst (C.map .int)) ∧ C ≠ []
theorem Fr.refl {st g : Addr} {M : MHp} : Fr st g M M := fun _ _ _ _ h => h
theorem Fr.trans {st g : Addr} {M M' M'' : MHp} (a : Fr st g M M') (b : Fr st g M' M'') : Fr st g M M'' := fun x o h1 h2 e => b x o h1 h2 (a x o h1 h2 e)
theorem Fr.new {st g p : Addr} {M M' : MHp} {o : MO} (a : Fr st g M M') (h : M' p = none) : Fr st g M (updM M' p o) := fun x u h1 h2 e => by
  have := a x u h1 h2 e
  rw [updM_ne]
  · exact this
  · rintro rfl; rw [h] at this; cases this
theorem Fr.mut {st g p : Addr} {M M' : MHp} {o : MO} (a : Fr st g M M') (h : M p = none) : Fr st g M (updM M' p o) := fun x u h1 h2 e => by
  have := a x u h1 h2 e
  rw [updM_ne]
  · exact this
  · rintro rfl; rw [h] at e; cases e
section
variable {M M' : MHp} {st g c p : Addr}
theorem DrawSt.some_st (d : DrawSt M st g c) : M st ≠ none := by obtain ⟨k, G, C, h, _⟩ := d.ex; rw [h]; exact nofun
theorem DrawSt.some_g (d : DrawSt M st g c) : M g ≠ none := by obtain ⟨k, G, C, _, h, _⟩ := d.ex; rw [h]; exact nofun
theorem DrawSt.some_c (d : DrawSt M st g c) : M c ≠ none := by obtain ⟨k, G, C, _, _, h, _⟩ := d.ex; rw [h]; exact nofun
theorem DrawSt.new {o : MO} (d : DrawSt M st g c) (h : M p = none) : DrawSt (updM M p o) st g c := by
  obtain ⟨k, G, C, h1, h2, h3, h4⟩ := d.ex
  refine ⟨d.sg, d.sc, d.gc, k, G, C, ?_, ?_, ?_, h4⟩
  · rw [updM_ne (fun z => d.some_st (by rw [z]; exact h))]; exact h1
  · rw [updM_ne (fun z => d.some_g (by rw [z]; exact h))]; exact h2
  · rw [updM_ne (fun z => d.some_c (by rw [z]; exact h))]; exact h3
theorem DrawSt.ext (d : DrawSt M st g c) (e : Ext M M') : DrawSt M' st g c := by
  obtain ⟨k, G, C, h1, h2, h3, h4⟩ := d.ex
  exact ⟨d.sg, d.sc, d.gc, k, G, C, e _ _ h1, e _ _ h2, e _ _ h3, h4⟩
theorem Ext.fr (e : Ext M M') : Fr st g M M' := fun b o _ _ h => e b o h
/-- an address that is not the draws' -/
def Oth (st g c b : Addr) : Prop := b ≠ st ∧ b ≠ g ∧ b ≠ c
theorem DrawSt.oth (d : DrawSt M st g c) (h : M p = none) : Oth st g c p := ⟨fun z => d.some_st (by rw [← z]; exact h), fun z => d.some_g (by rw [← z]; exact h), fun z => d.some_c (by rw [← z]; exact h)⟩
theorem DrawSt.mut {o : MO} (d : DrawSt M st g c) (h : Oth st g c p) : DrawSt (updM M p o) st g c := by
  obtain ⟨k, G, C, h1, h2, h3, h4⟩ := d.ex
  obtain ⟨o1, o2, o3⟩ := h
  refine ⟨d.sg, d.sc, d.gc, k, G, C, ?_, ?_, ?_, h4⟩
  · rw [updM_ne (fun z => o1 z.symm)]; exact h1
  · rw [updM_ne (fun z => o2 z.symm)]; exact h2
  · rw [updM_ne (fun z => o3 z.symm)]; exact h3
theorem Fr.at {b : Addr} {o : MO} (f : Fr st g M M') (h : Oth st g c b) (e : M b = some o) : M' b = some o := f b o h.1 h.2.1 e
theorem Fr.none {b : Addr} (f : Fr st g M M') (d : DrawSt M' st g c) (e : M' b = none) : M b = none := by
  cases h : M b with
  | none => rfl
  | some o =>
    have z := d.oth e
    rw [f b o z.1 z.2.1 h] at e
    cases e
end
/-- the promise of _law_draw -/
def sp__law_draw : MSp := fun xs M Q _ => ∃ st g c m, xs = [.ref st, .int m] ∧ 0 < m ∧ m < 1073741824 ∧ DrawSt M st g c ∧ ∀ (d : Nat) M', (d : Int) < m → DrawSt M' st g c → Fr st g M M' → Q (.int d) M'
theorem draw_i {st g c : Addr} {m : Int} {M : MHp} {Q : MQ} {E : MX} (d : DrawSt M st g c) (h0 : 0 < m) (h1 : m < 1073741824) (q : ∀ (d : Nat) M', (d : Int) < m → DrawSt M' st g c → Fr st g M M' → Q (.int d) M') : sp__law_draw [.ref st, .int m] M Q E := ⟨st, g, c, m, rfl, h0, h1, d, q⟩
end PL
end L2
set_option maxRecDepth 100000
set_option maxHeartbeats 2000000
/-! PL5: what is never reached; join -/
namespace L2
namespace PL
open PySem PySem.Spec PyProof.Rows
def mNeverE : ME := fun _ _ _ _ => False
def mNeverT : MT := fun _ _ _ _ => False
section
variable {X : Cx} {W : WX}
theorem je_neverE {e : Expr} : JE X W e mNeverE := ⟨fun pins s σ H Q I ⟨μ, M, Qm, Xm, rs, j, m, _⟩ => (show False from m).elim⟩
theorem jt_neverT {e : Expr} : JT X W e mNeverT := ⟨fun pins s σ H Q I ⟨μ, M, Qm, Xm, rs, j, m, _⟩ => (show False from m).elim⟩
theorem rvs_strs {K : Frg} {H : Hp} : ∀ {ys : List Str} {vs : List V}, RVs K H (ys.map .str) vs → vs = ys.map V.str
  | [], _, r => r.nil_iff
  | y :: ys, _, r => by
    obtain ⟨v, t, rfl, h1, h2⟩ := r.uncons
    rw [h1.str, rvs_strs h2]; rfl
def joinFit (a : Str) (ys : List Str) : Prop := (ys.map (·.length)).sum + ys.length * a.length ≤ 16777216
def sJoin : MMt
  | .str a, [.ref p], M, Q => withL M p fun l => ∃ ys : List Str, l = ys.map .str ∧ joinFit a ys ∧ Q (.str (Txt.join a ys)) M
  | .str a, [.tup l], M, Q => ∃ ys : List Str, l = ys.map .str ∧ joinFit a ys ∧ Q (.str (Txt.join a ys)) M
  | _, _, _, _ => False
theorem mt_joinM : MtR X "str.join" (upM X.K sJoin) := MtR.weak mt_join fun v vs H Q ⟨x, xs, M, Qm, rx, rxs, j, h, q⟩ => by
  match x, xs, h, rx, rxs with
  | .str a, [.ref p], h, rx, rxs =>
    cases rx.str
    obtain ⟨w, rfl, r⟩ := one_of rxs
    cases r.ref
    obtain ⟨l, e, ys, rfl, hz, h⟩ := withL_some h
    obtain ⟨ws, h1, ra⟩ := j.lst e
    cases rvs_strs ra
    exact ⟨a, p, ys, rfl, rfl, .inl (SqL.of h1), hz, q _ _ (.now .i_str j h)⟩
  | .str a, [.tup l], h, rx, rxs =>
    cases rx.str
    obtain ⟨w, rfl, r⟩ := one_of rxs
    obtain ⟨ys, rfl, hz, h⟩ := h
    obtain ⟨p, vs, rfl, s, ra⟩ := r.tup
    cases rvs_strs ra
    exact ⟨a, p, ys, rfl, rfl, .inr s, hz, q _ _ (.now .i_str j h)⟩
end
end PL
end L2
set_option maxRecDepth 100000
set_option maxHeartbeats 2000000
namespace L2
namespace PL
namespace K01
open PySem PySem.Spec PyProof.Rows
/-- _law_state: slots 0 script, 1 cells, 2 cell -/
def N__law_state : List Str := ["script", "cells", "cell"]
def m__law_state : MS :=
    (mSeq (mAsg (mLc (iSeq (mVar 0)) (gNameM 2) mYes (mCB sAbs (mCons (mCB sInt (mCons (mVar 2) mNil)) mNil)) [2]) (gNameM 1))
    (mRet (mLst (mCons (mLc (iSeq (mVar 1)) (gNameM 2) (mB (mOp sGe (mVar 2) (mOp sPow (mC (.int 10)) (mC (.int 18))))) (mVar 2) [2]) (mCons (mOp sAdd (mVar 1) (mLst (mCons (mCB sLen (mCons (mVar 1) mNil)) mNil))) (mCons (mC (.int 0)) mNil))))))
/-- _law_draw: slots 0 state, 1 many, 2 great, 3 digit, 4 cells, 5 cell, 6 one, 7 two -/
def N__law_draw : List Str := ["state", "many", "great", "digit", "cells", "cell", "one", "two"]
def m__law_draw : MS :=
    (mSeq (mAsg (mOp sIx (mVar 0) (mC (.int 0))) (gNameM 2))
    (mSeq (mIfS (mB (mOp sGt (mCB sLen (mCons (mVar 2) mNil)) (mC (.int 0)))) (mSeq (mAsg (mOp sMod (mCB sInt (mCons (mOp sIx (mVar 2) (mC (.int 0))) mNil)) (mVar 1)) (gNameM 3))
    (mSeq (mAsg (mOp sDiv (mOp sIx (mVar 2) (mC (.int 0))) (mVar 1)) (gSubM (mVar 2) (mC (.int 0))))
    (mSeq (mIfS (mB (mOp sEq (mOp sIx (mVar 2) (mC (.int 0))) (mC (.int 0)))) (mDrop (mBM "list" sPopAt (mVar 2) (mCons (mC (.int 0)) mNil))) mNext)
    (mRet (mVar 3))))) mNext)
    (mSeq (mAsg (mOp sAdd (mOp sIx (mVar 0) (mC (.int 2))) (mC (.int 1))) (gSubM (mVar 0) (mC (.int 2))))
    (mSeq (mAsg (mOp sIx (mVar 0) (mC (.int 1))) (gNameM 4))
    (mSeq (mAsg (mOp sIx (mVar 4) (mOp sMod (mCB sInt (mCons (mOp sIx (mVar 0) (mC (.int 2))) mNil)) (mCB sLen (mCons (mVar 4) mNil)))) (gNameM 5))
    (mSeq (mAsg (mOp sMod (mCB sInt (mCons (mOp sAdd (mOp sAdd (mOp sMul (mOp sMod (mVar 5) (mC (.int 999983))) (mC (.int 48271))) (mOp sMul (mOp sMod (mOp sDiv (mVar 5) (mC (.int 999983))) (mC (.int 999979))) (mC (.int 69621)))) (mOp sMul (mOp sIx (mVar 0) (mC (.int 2))) (mC (.int 7919)))) mNil)) (mC (.int 2147483647))) (gNameM 6))
    (mSeq (mAsg (mOp sMod (mCB sInt (mCons (mOp sAdd (mOp sAdd (mOp sMul (mVar 6) (mC (.int 16807))) (mOp sMul (mOp sDiv (mVar 6) (mC (.int 127773))) (mC (.int 31)))) (mOp sMul (mOp sIx (mVar 0) (mC (.int 2))) (mC (.int 104729)))) mNil)) (mC (.int 2147483629))) (gNameM 7))
    (mRet (mOp sMod (mOp sDiv (mVar 7) (mC (.int 11))) (mVar 1))))))))))


theorem d_draw : ∀ xs M Q E, sp__law_draw xs M Q E → m__law_draw (endsOf Q E) (startM N__law_draw xs) M := by
  rintro _ M Q E ⟨st, g, c, m, rfl, h0, h1, d, q⟩
  obtain ⟨sg, sc, gc, k, G, C, hs, hg, hc, hC⟩ := d
  show m__law_draw (endsOf Q E) [some (.ref st), some (.int m), none, none, none, none, none, none] M
  have cd : ∀ i, CDiv i m := fun i => ⟨h0, h1⟩
  have sg' : g ≠ st := fun z => sg z.symm
  have sc' : c ≠ st := fun z => sc z.symm
  have gc' : c ≠ g := fun z => gc z.symm
  have rng : ∀ i : Int, ∃ d : Nat, i % m = (d : Int) ∧ (d : Int) < m := fun i => ⟨(i % m).toNat, (Int.toNat_of_nonneg (Int.emod_nonneg _ (by omega))).symm, by rw [Int.toNat_of_nonneg (Int.emod_nonneg _ (by omega))]; exact Int.emod_lt_of_pos _ h0⟩
  cases G with
  | nil =>
    simp only [m__law_draw, mSeq, mAsg, mOp, mUn, mVar, mC, mCB, mCons, mNil, mTup, mLst_n, mB, mTru, mNot, mAnd, mOr, mAndV, mOrV, mNotV, mIf, mIfS, mRet, mRetN, mDrop, mNext, mBreak, mCont, mBM, mBM0, mCall, mFor, mLc, mYes, iSeq, iRng, iRng2, iRevRng, gNameM, gSubM, mAug, mIsi, mSl, mPart, mNoPart, mRaise, getS_0, getS_s, isB_bl, truP_t, truP_b, sIx_t, sIx_o, sIx_r, sIx_s, sAdd_ii, sAdd_ss, sAdd_tt, sAdd_rr, sIAdd_ii, sIAdd_ss, sMul_ii, sMul_si, sI2_ii, sLen_t, sLen_o, sLen_r, sLen_s, sInt_i, sAbs_i, sMin2_i, sMax2_i, sStrI_i, sTupOf_t, sTupOf_r, sLstOf_t, sLstOf_r, sAppend_r, sPop_r, sPopAt_r, sInsert_r, sSet_r, sEq_ii, sEq_ss, sNe_ii, sNe_ss, sIn_ss, sIn_st, sIn_sr, sIs_n, sIsNot_n, isNonP_n, isNonP_t, isNonP_s, isNonP_i, isNonP_r, sNeg_i, sSl_r, mDict0_n, mDict1_n, gTupM_t, gConsM_c, gNilM_n, seqP_t, seqP_o, seqP_r, withL_upd, upd_upd, dec_if, true_and, and_true, List.set_cons_zero, List.set_cons_succ, atI_0, atI_1, atI_2, ixN_30, ixN_31, ixN_32, ixN_s0, Option.some.injEq, exists_eq_left', exists_eq_left, Bool.not_true, Bool.not_false, if_true, if_false, Bool.false_eq_true, reduceCtorEq, List.length_cons, List.length_nil, endsOf, wipeM, List.map_cons, List.map_nil, ite_true, ite_false, eq_self_iff_true, false_and, Nat.reduceAdd, decide_true, decide_false, withL_eq hs, withL_eq hg, withL_eq hc, withL_ne sc', withL_ne sg']
    rw [if_neg (by omega)]
    have hl : 0 < (C.length : Int) := by
      have := List.length_pos_iff.mpr hC
      omega
    rw [List.length_map]
    obtain ⟨cell, e1, _⟩ := atI_in (l := C) (i := (k + 1) % (C.length : Int)) (Int.emod_nonneg _ (by omega)) (Int.emod_lt_of_pos _ hl)
    refine ⟨hl, .int cell, by rw [atI_map, e1]; rfl, ?_⟩
    simp only [mSeq, mAsg, mOp, mUn, mVar, mC, mCB, mCons, mNil, mTup, mLst_n, mB, mTru, mNot, mAnd, mOr, mAndV, mOrV, mNotV, mIf, mIfS, mRet, mRetN, mDrop, mNext, mBreak, mCont, mBM, mBM0, mCall, mFor, mLc, mYes, iSeq, iRng, iRng2, iRevRng, gNameM, gSubM, mAug, mIsi, mSl, mPart, mNoPart, mRaise, getS_0, getS_s, isB_bl, truP_t, truP_b, sIx_t, sIx_o, sIx_r, sIx_s, sAdd_ii, sAdd_ss, sAdd_tt, sAdd_rr, sIAdd_ii, sIAdd_ss, sMul_ii, sMul_si, sI2_ii, sLen_t, sLen_o, sLen_r, sLen_s, sInt_i, sAbs_i, sMin2_i, sMax2_i, sStrI_i, sTupOf_t, sTupOf_r, sLstOf_t, sLstOf_r, sAppend_r, sPop_r, sPopAt_r, sInsert_r, sSet_r, sEq_ii, sEq_ss, sNe_ii, sNe_ss, sIn_ss, sIn_st, sIn_sr, sIs_n, sIsNot_n, isNonP_n, isNonP_t, isNonP_s, isNonP_i, isNonP_r, sNeg_i, sSl_r, mDict0_n, mDict1_n, gTupM_t, gConsM_c, gNilM_n, seqP_t, seqP_o, seqP_r, withL_upd, upd_upd, dec_if, true_and, and_true, List.set_cons_zero, List.set_cons_succ, atI_0, atI_1, atI_2, ixN_30, ixN_31, ixN_32, ixN_s0, Option.some.injEq, exists_eq_left', exists_eq_left, Bool.not_true, Bool.not_false, if_true, if_false, Bool.false_eq_true, reduceCtorEq, List.length_cons, List.length_nil, endsOf, wipeM, List.map_cons, List.map_nil, ite_true, ite_false, eq_self_iff_true, false_and, Nat.reduceAdd, decide_true, decide_false, withL_upd]
    obtain ⟨dd, e2, e3⟩ := rng (((cell % 999983 * 48271 + cell / 999983 % 999979 * 69621 + (k + 1) * 7919) % 2147483647 * 16807 + (cell % 999983 * 48271 + cell / 999983 % 999979 * 69621 + (k + 1) * 7919) % 2147483647 / 127773 * 31 + (k + 1) * 104729) % 2147483629 / 11)
    have cm : ∀ i j : Int, 0 ≤ j → j < 2 ^ 64 → CMul i j := fun i j a b => .inr ⟨by omega, b⟩
    have dv : ∀ i j : Int, 0 < j → j < 1073741824 → CDiv i j := fun i j a b => ⟨a, b⟩
    refine ⟨by decide, cm _ _ (by decide) (by decide), dv _ _ (by decide) (by decide), by decide, cm _ _ (by decide) (by decide), cm _ _ (by decide) (by decide), by decide, cm _ _ (by decide) (by decide), dv _ _ (by decide) (by decide), cm _ _ (by decide) (by decide), cm _ _ (by decide) (by decide), by decide, dv _ _ (by decide) (by decide), h0, ?_⟩
    rw [e2]
    refine q dd _ e3 ⟨sg, sc, gc, k + 1, [], C, updM_same, ?_, ?_, hC⟩ fun b o h1 h2 e => ?_
    · rw [updM_ne sg']; exact hg
    · rw [updM_ne sc']; exact hc
    · rw [updM_ne h1]; exact e
  | cons x G =>
    simp only [m__law_draw, mSeq, mAsg, mOp, mUn, mVar, mC, mCB, mCons, mNil, mTup, mLst_n, mB, mTru, mNot, mAnd, mOr, mAndV, mOrV, mNotV, mIf, mIfS, mRet, mRetN, mDrop, mNext, mBreak, mCont, mBM, mBM0, mCall, mFor, mLc, mYes, iSeq, iRng, iRng2, iRevRng, gNameM, gSubM, mAug, mIsi, mSl, mPart, mNoPart, mRaise, getS_0, getS_s, isB_bl, truP_t, truP_b, sIx_t, sIx_o, sIx_r, sIx_s, sAdd_ii, sAdd_ss, sAdd_tt, sAdd_rr, sIAdd_ii, sIAdd_ss, sMul_ii, sMul_si, sI2_ii, sLen_t, sLen_o, sLen_r, sLen_s, sInt_i, sAbs_i, sMin2_i, sMax2_i, sStrI_i, sTupOf_t, sTupOf_r, sLstOf_t, sLstOf_r, sAppend_r, sPop_r, sPopAt_r, sInsert_r, sSet_r, sEq_ii, sEq_ss, sNe_ii, sNe_ss, sIn_ss, sIn_st, sIn_sr, sIs_n, sIsNot_n, isNonP_n, isNonP_t, isNonP_s, isNonP_i, isNonP_r, sNeg_i, sSl_r, mDict0_n, mDict1_n, gTupM_t, gConsM_c, gNilM_n, seqP_t, seqP_o, seqP_r, withL_upd, upd_upd, dec_if, true_and, and_true, List.set_cons_zero, List.set_cons_succ, atI_0, atI_1, atI_2, ixN_30, ixN_31, ixN_32, ixN_s0, Option.some.injEq, exists_eq_left', exists_eq_left, Bool.not_true, Bool.not_false, if_true, if_false, Bool.false_eq_true, reduceCtorEq, List.length_cons, List.length_nil, endsOf, wipeM, List.map_cons, List.map_nil, ite_true, ite_false, eq_self_iff_true, false_and, Nat.reduceAdd, decide_true, decide_false, withL_eq hs, withL_eq hg]
    rw [if_pos (by omega)]
    obtain ⟨dd, e2, e3⟩ := rng x
    refine ⟨h0, cd _, ?_⟩
    rw [e2]
    by_cases z : x / m = 0
    · rw [if_pos z]
      refine ⟨by rw [tyM_l updM_same]; trivial, ⟨by decide, by decide⟩, 0, _, by unfold seqIndex?; simp, rfl, ?_⟩
      refine q dd _ e3 ⟨sg, sc, gc, k, G, C, ?_, updM_same, ?_, hC⟩ fun b o h1 h2 e => ?_
      · rw [updM_ne sg]; exact hs
      · rw [updM_ne gc']; exact hc
      · rw [updM_ne h2]; exact e
    · rw [if_neg z]
      refine q dd _ e3 ⟨sg, sc, gc, k, x / m :: G, C, ?_, updM_same, ?_, hC⟩ fun b o h1 h2 e => ?_
      · rw [updM_ne sg]; exact hs
      · rw [updM_ne gc']; exact hc
      · rw [updM_ne h2]; exact e
def sp__law_state : MSp := fun xs M Q _ => ∃ ns : List Int, xs = [.rol (pis ns)] ∧ ns.length ≤ 63 ∧ ∀ st g c M', DrawSt M' st g c → Q (.ref st) M'
theorem d_state : ∀ xs M Q E, sp__law_state xs M Q E → m__law_state (endsOf Q E) (startM N__law_state xs) M := by
  rintro _ M Q E ⟨ns, rfl, hn, q⟩
  show m__law_state (endsOf Q E) [some (.rol (pis ns)), none, none] M
  have hz : ns.length ≤ sizeLine := by rw [sz24]; omega
  simp only [m__law_state, mSeq, mAsg, mOp, mUn, mVar, mC, mCB, mCons, mNil, mTup, mLst_n, mB, mTru, mNot, mAnd, mOr, mAndV, mOrV, mNotV, mIf, mIfS, mRet, mRetN, mDrop, mNext, mBreak, mCont, mBM, mBM0, mCall, mFor, mLc, mYes, iSeq, iRng, iRng2, iRevRng, gNameM, gSubM, mAug, mIsi, mSl, mPart, mNoPart, mRaise, getS_0, getS_s, isB_bl, truP_t, truP_b, sIx_t, sIx_o, sIx_r, sIx_s, sAdd_ii, sAdd_ss, sAdd_tt, sAdd_rr, sIAdd_ii, sIAdd_ss, sMul_ii, sMul_si, sI2_ii, sLen_t, sLen_o, sLen_r, sLen_s, sInt_i, sAbs_i, sMin2_i, sMax2_i, sStrI_i, sTupOf_t, sTupOf_r, sLstOf_t, sLstOf_r, sAppend_r, sPop_r, sPopAt_r, sInsert_r, sSet_r, sEq_ii, sEq_ss, sNe_ii, sNe_ss, sIn_ss, sIn_st, sIn_sr, sIs_n, sIsNot_n, isNonP_n, isNonP_t, isNonP_s, isNonP_i, isNonP_r, sNeg_i, sSl_r, mDict0_n, mDict1_n, gTupM_t, gConsM_c, gNilM_n, seqP_t, seqP_o, seqP_r, withL_upd, upd_upd, dec_if, true_and, and_true, List.set_cons_zero, List.set_cons_succ, atI_0, atI_1, atI_2, ixN_30, ixN_31, ixN_32, ixN_s0, Option.some.injEq, exists_eq_left', exists_eq_left, Bool.not_true, Bool.not_false, if_true, if_false, Bool.false_eq_true, reduceCtorEq, List.length_cons, List.length_nil, endsOf, wipeM, List.map_cons, List.map_nil, ite_true, ite_false, eq_self_iff_true, false_and, Nat.reduceAdd, decide_true, decide_false]
  refine lc_pure (it := .fix (pis ns)) (fun x => match x with | .int i => .int (if i < 0 then -i else i) | x => x) (fun P h => h) (by show (pis ns).length ≤ _; rw [List.length_map]; exact hz) (fun x hx R r => ?_) ?_
  · obtain ⟨i, _, rfl⟩ := List.mem_map.mp hx
    simp only [mSeq, mAsg, mOp, mUn, mVar, mC, mCB, mCons, mNil, mTup, mLst_n, mB, mTru, mNot, mAnd, mOr, mAndV, mOrV, mNotV, mIf, mIfS, mRet, mRetN, mDrop, mNext, mBreak, mCont, mBM, mBM0, mCall, mFor, mLc, mYes, iSeq, iRng, iRng2, iRevRng, gNameM, gSubM, mAug, mIsi, mSl, mPart, mNoPart, mRaise, getS_0, getS_s, isB_bl, truP_t, truP_b, sIx_t, sIx_o, sIx_r, sIx_s, sAdd_ii, sAdd_ss, sAdd_tt, sAdd_rr, sIAdd_ii, sIAdd_ss, sMul_ii, sMul_si, sI2_ii, sLen_t, sLen_o, sLen_r, sLen_s, sInt_i, sAbs_i, sMin2_i, sMax2_i, sStrI_i, sTupOf_t, sTupOf_r, sLstOf_t, sLstOf_r, sAppend_r, sPop_r, sPopAt_r, sInsert_r, sSet_r, sEq_ii, sEq_ss, sNe_ii, sNe_ss, sIn_ss, sIn_st, sIn_sr, sIs_n, sIsNot_n, isNonP_n, isNonP_t, isNonP_s, isNonP_i, isNonP_r, sNeg_i, sSl_r, mDict0_n, mDict1_n, gTupM_t, gConsM_c, gNilM_n, seqP_t, seqP_o, seqP_r, withL_upd, upd_upd, dec_if, true_and, and_true, List.set_cons_zero, List.set_cons_succ, atI_0, atI_1, atI_2, ixN_30, ixN_31, ixN_32, ixN_s0, Option.some.injEq, exists_eq_left', exists_eq_left, Bool.not_true, Bool.not_false, if_true, if_false, Bool.false_eq_true, reduceCtorEq, List.length_cons, List.length_nil, endsOf, wipeM, List.map_cons, List.map_nil, ite_true, ite_false, eq_self_iff_true, false_and, Nat.reduceAdd, decide_true, decide_false]
    exact r
  have e : (MIt.items (.fix (pis ns))).map (fun x => match x with | .int i => .int (if i < 0 then -i else i) | x => x) = pis (ns.map fun i => if i < 0 then -i else i) := by
    show (ns.map PV.int).map _ = _
    rw [List.map_map, pis, List.map_map]
    rfl
  rw [e]
  generalize hC : ns.map (fun i => if i < 0 then -i else i) = C
  have lC : C.length ≤ 63 := by rw [← hC, List.length_map]; exact hn
  intro c0 n0
  simp only [mSeq, mAsg, mOp, mUn, mVar, mC, mCB, mCons, mNil, mTup, mLst_n, mB, mTru, mNot, mAnd, mOr, mAndV, mOrV, mNotV, mIf, mIfS, mRet, mRetN, mDrop, mNext, mBreak, mCont, mBM, mBM0, mCall, mFor, mLc, mYes, iSeq, iRng, iRng2, iRevRng, gNameM, gSubM, mAug, mIsi, mSl, mPart, mNoPart, mRaise, getS_0, getS_s, isB_bl, truP_t, truP_b, sIx_t, sIx_o, sIx_r, sIx_s, sAdd_ii, sAdd_ss, sAdd_tt, sAdd_rr, sIAdd_ii, sIAdd_ss, sMul_ii, sMul_si, sI2_ii, sLen_t, sLen_o, sLen_r, sLen_s, sInt_i, sAbs_i, sMin2_i, sMax2_i, sStrI_i, sTupOf_t, sTupOf_r, sLstOf_t, sLstOf_r, sAppend_r, sPop_r, sPopAt_r, sInsert_r, sSet_r, sEq_ii, sEq_ss, sNe_ii, sNe_ss, sIn_ss, sIn_st, sIn_sr, sIs_n, sIsNot_n, isNonP_n, isNonP_t, isNonP_s, isNonP_i, isNonP_r, sNeg_i, sSl_r, mDict0_n, mDict1_n, gTupM_t, gConsM_c, gNilM_n, seqP_t, seqP_o, seqP_r, withL_upd, upd_upd, dec_if, true_and, and_true, List.set_cons_zero, List.set_cons_succ, atI_0, atI_1, atI_2, ixN_30, ixN_31, ixN_32, ixN_s0, Option.some.injEq, exists_eq_left', exists_eq_left, Bool.not_true, Bool.not_false, if_true, if_false, Bool.false_eq_true, reduceCtorEq, List.length_cons, List.length_nil, endsOf, wipeM, List.map_cons, List.map_nil, ite_true, ite_false, eq_self_iff_true, false_and, Nat.reduceAdd, decide_true, decide_false]
  refine lcG_ind (it := .live c0 (pis C)) (fun i acc M1 => M1 = updM M c0 (.lst (pis C)) ∧ i ≤ C.length ∧ ∃ G, acc = pis G ∧ G.length ≤ i) (fun i x acc M1 L ex h hl => ?_) (fun acc M1 h => ?_) ⟨rfl, Nat.zero_le _, [], rfl, Nat.le_refl _⟩
  · obtain ⟨rfl, hi, G, rfl, hG⟩ := h
    refine ⟨updM_same, ?_⟩
    have ex : (C.map PV.int)[i]? = some x := ex
    rw [List.getElem?_map] at ex
    cases ey : C[i]? with
    | none => rw [ey] at ex; cases ex
    | some y =>
      rw [ey] at ex
      cases ex
      have hlt := (List.getElem?_eq_some_iff.mp ey).1
      simp only [mSeq, mAsg, mOp, mUn, mVar, mC, mCB, mCons, mNil, mTup, mLst_n, mB, mTru, mNot, mAnd, mOr, mAndV, mOrV, mNotV, mIf, mIfS, mRet, mRetN, mDrop, mNext, mBreak, mCont, mBM, mBM0, mCall, mFor, mLc, mYes, iSeq, iRng, iRng2, iRevRng, gNameM, gSubM, mAug, mIsi, mSl, mPart, mNoPart, mRaise, getS_0, getS_s, isB_bl, truP_t, truP_b, sIx_t, sIx_o, sIx_r, sIx_s, sAdd_ii, sAdd_ss, sAdd_tt, sAdd_rr, sIAdd_ii, sIAdd_ss, sMul_ii, sMul_si, sI2_ii, sLen_t, sLen_o, sLen_r, sLen_s, sInt_i, sAbs_i, sMin2_i, sMax2_i, sStrI_i, sTupOf_t, sTupOf_r, sLstOf_t, sLstOf_r, sAppend_r, sPop_r, sPopAt_r, sInsert_r, sSet_r, sEq_ii, sEq_ss, sNe_ii, sNe_ss, sIn_ss, sIn_st, sIn_sr, sIs_n, sIsNot_n, isNonP_n, isNonP_t, isNonP_s, isNonP_i, isNonP_r, sNeg_i, sSl_r, mDict0_n, mDict1_n, gTupM_t, gConsM_c, gNilM_n, seqP_t, seqP_o, seqP_r, withL_upd, upd_upd, dec_if, true_and, and_true, List.set_cons_zero, List.set_cons_succ, atI_0, atI_1, atI_2, ixN_30, ixN_31, ixN_32, ixN_s0, Option.some.injEq, exists_eq_left', exists_eq_left, Bool.not_true, Bool.not_false, if_true, if_false, Bool.false_eq_true, reduceCtorEq, List.length_cons, List.length_nil, endsOf, wipeM, List.map_cons, List.map_nil, ite_true, ite_false, eq_self_iff_true, false_and, Nat.reduceAdd, decide_true, decide_false]
      refine ⟨⟨by decide, by decide, by decide⟩, ?_⟩
      split
      · exact ⟨by rw [List.length_map, sz24]; omega, hl _ _ ⟨rfl, hlt, G ++ [y], by simp [pis], by simp; omega⟩⟩
      · exact hl _ _ ⟨rfl, hlt, G, rfl, by omega⟩
  · obtain ⟨rfl, hi, G, rfl, hG⟩ := h
    refine ⟨updM_same, fun g1 n1 => ?_⟩
    have z1 : c0 ≠ g1 := fun z => by rw [← z, updM_same] at n1; cases n1
    simp only [mSeq, mAsg, mOp, mUn, mVar, mC, mCB, mCons, mNil, mTup, mLst_n, mB, mTru, mNot, mAnd, mOr, mAndV, mOrV, mNotV, mIf, mIfS, mRet, mRetN, mDrop, mNext, mBreak, mCont, mBM, mBM0, mCall, mFor, mLc, mYes, iSeq, iRng, iRng2, iRevRng, gNameM, gSubM, mAug, mIsi, mSl, mPart, mNoPart, mRaise, getS_0, getS_s, isB_bl, truP_t, truP_b, sIx_t, sIx_o, sIx_r, sIx_s, sAdd_ii, sAdd_ss, sAdd_tt, sAdd_rr, sIAdd_ii, sIAdd_ss, sMul_ii, sMul_si, sI2_ii, sLen_t, sLen_o, sLen_r, sLen_s, sInt_i, sAbs_i, sMin2_i, sMax2_i, sStrI_i, sTupOf_t, sTupOf_r, sLstOf_t, sLstOf_r, sAppend_r, sPop_r, sPopAt_r, sInsert_r, sSet_r, sEq_ii, sEq_ss, sNe_ii, sNe_ss, sIn_ss, sIn_st, sIn_sr, sIs_n, sIsNot_n, isNonP_n, isNonP_t, isNonP_s, isNonP_i, isNonP_r, sNeg_i, sSl_r, mDict0_n, mDict1_n, gTupM_t, gConsM_c, gNilM_n, seqP_t, seqP_o, seqP_r, withL_upd, upd_upd, dec_if, true_and, and_true, List.set_cons_zero, List.set_cons_succ, atI_0, atI_1, atI_2, ixN_30, ixN_31, ixN_32, ixN_s0, Option.some.injEq, exists_eq_left', exists_eq_left, Bool.not_true, Bool.not_false, if_true, if_false, Bool.false_eq_true, reduceCtorEq, List.length_cons, List.length_nil, endsOf, wipeM, List.map_cons, List.map_nil, ite_true, ite_false, eq_self_iff_true, false_and, Nat.reduceAdd, decide_true, decide_false, withL_ne z1]
    refine ⟨by rw [sz24]; omega, fun t1 n2 => ?_⟩
    have z2 : t1 ≠ g1 := fun z => by rw [z, updM_same] at n2; cases n2
    have z3 : t1 ≠ c0 := fun z => by rw [z, updM_ne z1, updM_same] at n2; cases n2
    simp only [mSeq, mAsg, mOp, mUn, mVar, mC, mCB, mCons, mNil, mTup, mLst_n, mB, mTru, mNot, mAnd, mOr, mAndV, mOrV, mNotV, mIf, mIfS, mRet, mRetN, mDrop, mNext, mBreak, mCont, mBM, mBM0, mCall, mFor, mLc, mYes, iSeq, iRng, iRng2, iRevRng, gNameM, gSubM, mAug, mIsi, mSl, mPart, mNoPart, mRaise, getS_0, getS_s, isB_bl, truP_t, truP_b, sIx_t, sIx_o, sIx_r, sIx_s, sAdd_ii, sAdd_ss, sAdd_tt, sAdd_rr, sIAdd_ii, sIAdd_ss, sMul_ii, sMul_si, sI2_ii, sLen_t, sLen_o, sLen_r, sLen_s, sInt_i, sAbs_i, sMin2_i, sMax2_i, sStrI_i, sTupOf_t, sTupOf_r, sLstOf_t, sLstOf_r, sAppend_r, sPop_r, sPopAt_r, sInsert_r, sSet_r, sEq_ii, sEq_ss, sNe_ii, sNe_ss, sIn_ss, sIn_st, sIn_sr, sIs_n, sIsNot_n, isNonP_n, isNonP_t, isNonP_s, isNonP_i, isNonP_r, sNeg_i, sSl_r, mDict0_n, mDict1_n, gTupM_t, gConsM_c, gNilM_n, seqP_t, seqP_o, seqP_r, withL_upd, upd_upd, dec_if, true_and, and_true, List.set_cons_zero, List.set_cons_succ, atI_0, atI_1, atI_2, ixN_30, ixN_31, ixN_32, ixN_s0, Option.some.injEq, exists_eq_left', exists_eq_left, Bool.not_true, Bool.not_false, if_true, if_false, Bool.false_eq_true, reduceCtorEq, List.length_cons, List.length_nil, endsOf, wipeM, List.map_cons, List.map_nil, ite_true, ite_false, eq_self_iff_true, false_and, Nat.reduceAdd, decide_true, decide_false, withL_upd, withL_ne z1, withL_ne z2.symm, withL_ne z3.symm]
    refine ⟨by rw [List.length_map, sz24]; omega, fun c1 n3 => ⟨by decide, fun st n4 => ?_⟩⟩
    have w1 : c1 ≠ g1 := fun z => by rw [z, updM_ne z2.symm, updM_same] at n3; cases n3
    have w2 : st ≠ c1 := fun z => by rw [z, updM_same] at n4; cases n4
    have w3 : st ≠ g1 := fun z => by rw [z, updM_ne w1.symm, updM_ne z2.symm, updM_same] at n4; cases n4
    refine q st g1 c1 _ ⟨w3, w2, w1.symm, 0, G, C ++ [(C.length : Int)], updM_same, ?_, ?_, by simp⟩
    · rw [updM_ne w3.symm, updM_ne w1.symm, updM_ne z2.symm, updM_same]
    · rw [updM_ne w2.symm, updM_same]; simp
end K01
end PL
end L2
set_option maxRecDepth 100000
set_option maxHeartbeats 2000000
namespace L2
namespace PL
namespace K01
open PySem PySem.Spec PyProof.Rows

/-! ### forests as plain data -/
mutual
def goodT (ns : List Str) : PV → Bool
  | .tup [.str n, .tup b] => decide (n ∈ ns) && goodR ns b
  | _ => false
def goodR (ns : List Str) : List PV → Bool
  | [] => true
  | t :: r => goodT ns t && goodR ns r
end
mutual
def cntT : PV → Nat
  | .tup [.str _, .tup b] => 1 + cntR b
  | _ => 1
def cntR : List PV → Nat
  | [] => 0
  | t :: r => cntT t + cntR r
end
mutual
def depT : PV → Nat
  | .tup [.str _, .tup b] => 1 + depR b
  | _ => 1
def depR : List PV → Nat
  | [] => 0
  | t :: r => max (depT t) (depR r)
end
mutual
def liveP (M : MHp) : PV → Prop
  | .ref a => M a ≠ none
  | .tup l => liveL M l
  | _ => True
def liveL (M : MHp) : List PV → Prop
  | [] => True
  | x :: xs => liveP M x ∧ liveL M xs
end
def okF (ns : List Str) (l : List PV) : Bool := goodR ns l && decide (cntR l ≤ 2000) && decide (depR l ≤ 60)
def isF (ns : List Str) : PV → Bool
  | .tup l => okF ns l
  | _ => false
def pss (ns : List Str) : List PV := ns.map .str
def knownB (ns : List Str) : PV → Bool
  | .str n => decide (n ∈ ns)
  | _ => false
def isTup : PV → Bool
  | .tup _ => true
  | _ => false
def isStr : PV → Bool
  | .str _ => true
  | _ => false
theorem liveL_mem {M : MHp} : ∀ {l : List PV} {x : PV}, liveL M l → x ∈ l → liveP M x
  | y :: l, x, h, m => by
    unfold liveL at h
    rcases List.mem_cons.mp m with e | m
    · subst e; exact h.1
    · exact liveL_mem h.2 m
theorem liveL_of {M : MHp} : ∀ {l : List PV}, (∀ x ∈ l, liveP M x) → liveL M l
  | [], _ => by unfold liveL; trivial
  | y :: l, h => by
    unfold liveL
    exact ⟨h y List.mem_cons_self, liveL_of fun x m => h x (List.mem_cons_of_mem _ m)⟩
mutual
theorem liveP_ext {M M' : MHp} (e : Ext M M') : ∀ {x : PV}, liveP M x → liveP M' x
  | .ref a, h => by
    unfold liveP at h ⊢
    cases z : M a with
    | none => exact absurd z h
    | some o => rw [e a o z]; exact nofun
  | .tup l, h => by
    unfold liveP at h ⊢
    exact liveL_ext e h
  | .rol l, h => by unfold liveP; trivial
  | .non, h => by unfold liveP; trivial
  | .bl _, h => by unfold liveP; trivial
  | .int _, h => by unfold liveP; trivial
  | .str _, h => by unfold liveP; trivial
theorem liveL_ext {M M' : MHp} (e : Ext M M') : ∀ {l : List PV}, liveL M l → liveL M' l
  | [], _ => by unfold liveL; trivial
  | x :: l, h => by
    unfold liveL at h ⊢
    exact ⟨liveP_ext e h.1, liveL_ext e h.2⟩
end
theorem isi_tup {x : PV} {M : MHp} {Q : MQ} (h : liveP M x) : sIsi "tuple" x M Q = Q (.bl (isTup x)) M := by
  cases x with
  | ref a =>
    unfold liveP at h
    unfold sIsi
    cases z : M a with
    | none => exact absurd z h
    | some o => cases o with
      | lst xs => rw [tyP_l z]; rfl
      | dct xs => rw [tyP_d z]; rfl
  | _ => rfl
theorem isi_str {x : PV} {M : MHp} {Q : MQ} (h : liveP M x) : sIsi "str" x M Q = Q (.bl (isStr x)) M := by
  cases x with
  | ref a =>
    unfold liveP at h
    unfold sIsi
    cases z : M a with
    | none => exact absurd z h
    | some o => cases o with
      | lst xs => rw [tyP_l z]; rfl
      | dct xs => rw [tyP_d z]; rfl
  | _ => rfl
theorem inP_strs {n : Str} : ∀ {ns : List Str}, inP (.str n) (pss ns) = decide (n ∈ ns)
  | [] => by simp [inP, pss]
  | m :: ns => by
    have ih := inP_strs (n := n) (ns := ns)
    unfold inP pss at ih ⊢
    rw [List.map_cons, List.any_cons, ih]
    show (m == n || _) = _
    by_cases z : m = n
    · subst z; simp
    · have : (m == n) = false := by simpa using z
      rw [this, Bool.false_or]
      by_cases w : n ∈ ns
      · simp [w]
      · simp [w]; exact fun e => z e.symm
theorem flat_strs {ns : List Str} : (pss ns).all flatP = true := by simp [pss, flatP]
def sp_is_name : MSp := fun _ _ _ _ => False
/-- is_name: slots 0 value, 1 sign -/
def N_is_name : List Str := ["value", "sign"]
def m_is_name : MS :=
    (mSeq (mIfS (mOr (mNot (mTru (mIsi "str" (mVar 0)))) (mOr (mB (mOp sEq (mVar 0) (mC (.str "")))) (mB (mOp (sIn true) (mOp sIx (mVar 0) (mC (.int 0))) (mC (.str "abcdefghijklmnopqrstuvwxyz")))))) (mRet (mC (.bl false))) mNext)
    mNever)

def sp_known_name : MSp := fun xs M Q _ => ∃ v ns, xs = [v, .tup (pss ns)] ∧ liveP M v ∧ Q (.bl (knownB ns v)) M
/-- known_name: slots 0 value, 1 names -/
def N_known_name : List Str := ["value", "names"]
def m_known_name : MS :=
    (mSeq (mIfS (mB (mOp sIs (mVar 1) (mC .non))) (mRet (mCall sp_is_name (mCons (mVar 0) mNil))) mNext)
    (mRet (mAndV (mIsi "str" (mVar 0)) (mOp (sIn false) (mVar 0) (mVar 1)))))

theorem d_known : ∀ xs M Q E, sp_known_name xs M Q E → m_known_name (endsOf Q E) (startM N_known_name xs) M := by
  rintro _ M Q E ⟨v, ns, rfl, lv, q⟩
  show m_known_name (endsOf Q E) [some v, some (.tup (pss ns))] M
  simp only [m_known_name, mSeq, mAsg, mOp, mUn, mVar, mC, mCB, mCons, mNil, mTup, mLst_n, mB, mTru, mNot, mAnd, mOr, mAndV, mOrV, mNotV, mIf, mIfS, mRet, mRetN, mDrop, mNext, mBreak, mCont, mBM, mBM0, mCall, mFor, mLc, mYes, iSeq, iRng, iRng2, iRevRng, gNameM, gSubM, mAug, mIsi, mSl, mPart, mNoPart, mRaise, getS_0, getS_s, isB_bl, truP_t, truP_b, sIx_t, sIx_o, sIx_r, sIx_s, sAdd_ii, sAdd_ss, sAdd_tt, sAdd_rr, sIAdd_ii, sIAdd_ss, sMul_ii, sMul_si, sI2_ii, sLen_t, sLen_o, sLen_r, sLen_s, sInt_i, sAbs_i, sMin2_i, sMax2_i, sStrI_i, sTupOf_t, sTupOf_r, sLstOf_t, sLstOf_r, sAppend_r, sPop_r, sPopAt_r, sInsert_r, sSet_r, sEq_ii, sEq_ss, sNe_ii, sNe_ss, sIn_ss, sIn_st, sIn_sr, sIs_n, sIsNot_n, isNonP_n, isNonP_t, isNonP_s, isNonP_i, isNonP_r, sNeg_i, sSl_r, mDict0_n, mDict1_n, gTupM_t, gConsM_c, gNilM_n, seqP_t, seqP_o, seqP_r, withL_upd, upd_upd, dec_if, true_and, and_true, List.set_cons_zero, List.set_cons_succ, atI_0, atI_1, atI_2, ixN_30, ixN_31, ixN_32, ixN_s0, Option.some.injEq, exists_eq_left', exists_eq_left, Bool.not_true, Bool.not_false, if_true, if_false, Bool.false_eq_true, reduceCtorEq, List.length_cons, List.length_nil, endsOf, wipeM, List.map_cons, List.map_nil, ite_true, ite_false, eq_self_iff_true, false_and, Nat.reduceAdd, decide_true, decide_false, isi_str lv]
  cases v <;> simp only [isStr, mSeq, mAsg, mOp, mUn, mVar, mC, mCB, mCons, mNil, mTup, mLst_n, mB, mTru, mNot, mAnd, mOr, mAndV, mOrV, mNotV, mIf, mIfS, mRet, mRetN, mDrop, mNext, mBreak, mCont, mBM, mBM0, mCall, mFor, mLc, mYes, iSeq, iRng, iRng2, iRevRng, gNameM, gSubM, mAug, mIsi, mSl, mPart, mNoPart, mRaise, getS_0, getS_s, isB_bl, truP_t, truP_b, sIx_t, sIx_o, sIx_r, sIx_s, sAdd_ii, sAdd_ss, sAdd_tt, sAdd_rr, sIAdd_ii, sIAdd_ss, sMul_ii, sMul_si, sI2_ii, sLen_t, sLen_o, sLen_r, sLen_s, sInt_i, sAbs_i, sMin2_i, sMax2_i, sStrI_i, sTupOf_t, sTupOf_r, sLstOf_t, sLstOf_r, sAppend_r, sPop_r, sPopAt_r, sInsert_r, sSet_r, sEq_ii, sEq_ss, sNe_ii, sNe_ss, sIn_ss, sIn_st, sIn_sr, sIs_n, sIsNot_n, isNonP_n, isNonP_t, isNonP_s, isNonP_i, isNonP_r, sNeg_i, sSl_r, mDict0_n, mDict1_n, gTupM_t, gConsM_c, gNilM_n, seqP_t, seqP_o, seqP_r, withL_upd, upd_upd, dec_if, true_and, and_true, List.set_cons_zero, List.set_cons_succ, atI_0, atI_1, atI_2, ixN_30, ixN_31, ixN_32, ixN_s0, Option.some.injEq, exists_eq_left', exists_eq_left, Bool.not_true, Bool.not_false, if_true, if_false, Bool.false_eq_true, reduceCtorEq, List.length_cons, List.length_nil, endsOf, wipeM, List.map_cons, List.map_nil, ite_true, ite_false, eq_self_iff_true, false_and, Nat.reduceAdd, decide_true, decide_false] <;> first
    | exact q
    | (rename_i n
       exact ⟨⟨rfl, flat_strs⟩, by rw [inP_strs]; exact q⟩)
def sp_is_forest : MSp := fun xs M Q _ => ∃ v ns, xs = [v, .tup (pss ns)] ∧ liveP M v ∧ ∀ M', Ext M M' → Q (.bl (isF ns v)) M'
/-- is_forest: slots 0 value, 1 names, 2 trees, 3 stack, 4 row, 5 deep, 6 tree, 7 name, 8 beneath -/
def N_is_forest : List Str := ["value", "names", "trees", "stack", "row", "deep", "tree", "name", "beneath"]
def m_is_forest : MS :=
    (mSeq (mIfS (mNot (mTru (mIsi "tuple" (mVar 0)))) (mRet (mC (.bl false))) mNext)
    (mSeq (mAsg (mC (.int 0)) (gNameM 2))
    (mSeq (mAsg (mLst (mCons (mTup (mCons (mVar 0) (mCons (mC (.int 1)) mNil))) mNil)) (gNameM 3))
    (mSeq (mWhile (mTru (mVar 3))
    (mSeq (mAsg (mBM0 "list" sPop (mVar 3)) (gTupM 2 (gConsM (gNameM 4) (gConsM (gNameM 5) gNilM))))
    (mSeq (mAug 2 sIAdd (mCB sLen (mCons (mVar 4) mNil)))
    (mSeq (mIfS (mOr (mB (mOp sGt (mVar 2) (mC (.int 2000)))) (mAnd (mB (mOp sGt (mVar 5) (mC (.int 60)))) (mTru (mVar 4)))) (mRet (mC (.bl false))) mNext)
    (mFor (iSeq (mVar 4)) (gNameM 6)
    (mSeq (mIfS (mOr (mNot (mTru (mIsi "tuple" (mVar 6)))) (mB (mOp sNe (mCB sLen (mCons (mVar 6) mNil)) (mC (.int 2))))) (mRet (mC (.bl false))) mNext)
    (mSeq (mAsg (mVar 6) (gTupM 2 (gConsM (gNameM 7) (gConsM (gNameM 8) gNilM))))
    (mSeq (mIfS (mOr (mNot (mTru (mCall sp_known_name (mCons (mVar 7) (mCons (mVar 1) mNil))))) (mNot (mTru (mIsi "tuple" (mVar 8))))) (mRet (mC (.bl false))) mNext)
    (mIfS (mTru (mVar 8)) (mDrop (mBM "list" sAppend (mVar 3) (mCons (mTup (mCons (mVar 8) (mCons (mOp sAdd (mVar 5) (mC (.int 1))) mNil))) mNil))) mNext)))))))))
    (mRet (mC (.bl true)))))))


/-! the while of is_forest -/
abbrev SE := List PV × Nat
def enc (e : SE) : PV := .tup [.tup e.1, .int e.2]
def pend (s : List SE) : Nat := (s.map fun e => cntR e.1).sum
def allok (ns : List Str) (s : List SE) : Bool := s.all fun e => goodR ns e.1 && decide (e.1 = [] ∨ depR e.1 + e.2 ≤ 61)
/-- what is pushed for a row -/
def pushT (d : Nat) : PV → List SE
  | .tup [.str _, .tup b] => if b = [] then [] else [(b, d + 1)]
  | _ => []
def topT (ns : List Str) : PV → Bool
  | .tup [.str n, .tup _] => decide (n ∈ ns)
  | _ => false
theorem depR_nil : depR [] = 0 := by unfold depR; rfl
theorem cntR_nil : cntR [] = 0 := by unfold cntR; rfl
theorem goodR_nil {ns : List Str} : goodR ns [] = true := by unfold goodR; rfl
theorem top_shape {ns : List Str} {t : PV} (h : topT ns t = true) : ∃ n b, t = .tup [.str n, .tup b] ∧ n ∈ ns := by
  unfold topT at h
  split at h
  · exact ⟨_, _, rfl, by simpa using h⟩
  · cases h
theorem good_top {ns : List Str} {t : PV} (h : goodT ns t = true) : topT ns t = true := by
  unfold goodT at h
  split at h
  · rename_i n b
    show decide (n ∈ ns) = true
    simp only [Bool.and_eq_true] at h
    exact h.1
  · cases h
theorem cntR_len : ∀ l : List PV, l.length ≤ cntR l
  | [] => by simp
  | t :: r => by
    unfold cntR
    have := cntR_len r
    have h1 : 1 ≤ cntT t := by
      unfold cntT
      split <;> omega
    simp only [List.length_cons]
    omega
theorem depR_pos {l : List PV} (h : l ≠ []) : 1 ≤ depR l := by
  cases l with
  | nil => exact absurd rfl h
  | cons t r =>
    unfold depR
    have h1 : 1 ≤ depT t := by
      unfold depT
      split <;> omega
    exact Nat.le_trans h1 (Nat.le_max_left _ _)
/-- one row done: what was pushed stands for it -/
theorem row_law {ns : List Str} {d : Nat} : ∀ {l : List PV}, (∀ t ∈ l, topT ns t = true) → cntR l = l.length + pend (l.flatMap (pushT d)) ∧ (goodR ns l && decide (l = [] ∨ depR l + d ≤ 61)) = (allok ns (l.flatMap (pushT d)) && decide (l = [] ∨ d ≤ 60))
  | [], _ => by simp [pend, allok, cntR_nil, goodR_nil]
  | t :: r, h => by
    obtain ⟨ih1, ih2⟩ := row_law (d := d) (l := r) fun x m => h x (List.mem_cons_of_mem _ m)
    obtain ⟨n, b, rfl, hn⟩ := top_shape (h t List.mem_cons_self)
    have e1 : cntT (.tup [.str n, .tup b]) = 1 + cntR b := by simp [cntT]
    have e2 : goodT ns (.tup [.str n, .tup b]) = goodR ns b := by simp [goodT, hn]
    have e3 : depT (.tup [.str n, .tup b]) = 1 + depR b := by simp [depT]
    have e4 : pushT d (.tup [.str n, .tup b]) = if b = [] then [] else [(b, d + 1)] := rfl
    have c1 : cntR (.tup [.str n, .tup b] :: r) = 1 + cntR b + cntR r := by rw [cntR, e1]
    have c2 : goodR ns (.tup [.str n, .tup b] :: r) = (goodR ns b && goodR ns r) := by rw [goodR, e2]
    have c3 : depR (.tup [.str n, .tup b] :: r) = max (1 + depR b) (depR r) := by rw [depR, e3]
    rw [List.flatMap_cons, e4, c1, c2, c3]
    have al : ∀ x y : List SE, allok ns (x ++ y) = (allok ns x && allok ns y) := fun x y => by simp [allok]
    have pl : ∀ x y : List SE, pend (x ++ y) = pend x + pend y := fun x y => by simp [pend]
    refine ⟨?_, ?_⟩
    · rw [pl, ih1, List.length_cons]
      by_cases z : b = []
      · subst z; simp [pend, cntR_nil]; omega
      · simp only [if_neg z, pend, List.map_cons, List.map_nil, List.sum_cons, List.sum_nil]; omega
    · rw [al]
      apply Bool.eq_iff_iff.mpr
      have ih2' := Bool.eq_iff_iff.mp ih2
      simp only [Bool.and_eq_true, decide_eq_true_eq] at ih2' ⊢
      by_cases z : b = []
      · subst z
        simp only [goodR_nil, depR_nil, if_true, allok, List.all_nil, true_and, reduceCtorEq, false_or] at ih2' ⊢
        by_cases zr : r = []
        · subst zr
          simp [goodR_nil, depR_nil]; omega
        · have := depR_pos zr
          simp only [zr, false_or] at ih2'
          constructor
          · rintro ⟨g, m⟩
            exact ⟨(ih2'.mp ⟨g, by omega⟩).1, by omega⟩
          · rintro ⟨g, m⟩
            have := ih2'.mpr ⟨g, m⟩
            exact ⟨this.1, by omega⟩
      · have zp := depR_pos z
        have ea : allok ns (if b = [] then [] else [(b, d + 1)]) = (goodR ns b && decide (depR b + (d + 1) ≤ 61)) := by simp [if_neg z, allok, z]
        rw [ea]
        simp only [Bool.and_eq_true, decide_eq_true_eq, reduceCtorEq, false_or]
        by_cases zr : r = []
        · subst zr
          have := depR_nil
          constructor
          · rintro ⟨⟨g1, g2⟩, m⟩
            exact ⟨⟨⟨g1, by omega⟩, rfl⟩, by omega⟩
          · rintro ⟨⟨⟨g1, g2⟩, g3⟩, m⟩
            exact ⟨⟨g1, goodR_nil⟩, by omega⟩
        · simp only [zr, false_or] at ih2'
          constructor
          · rintro ⟨⟨g1, g2⟩, m⟩
            have := ih2'.mp ⟨g2, by omega⟩
            exact ⟨⟨⟨g1, by omega⟩, this.1⟩, by omega⟩
          · rintro ⟨⟨⟨g1, g2⟩, g3⟩, m⟩
            have := ih2'.mpr ⟨g3, m⟩
            exact ⟨⟨g1, this.1⟩, by omega⟩

def wC : MT := mTru (mVar 3)
def wB : MS := (mSeq (mAsg (mBM0 "list" sPop (mVar 3)) (gTupM 2 (gConsM (gNameM 4) (gConsM (gNameM 5) gNilM))))
    (mSeq (mAug 2 sIAdd (mCB sLen (mCons (mVar 4) mNil)))
    (mSeq (mIfS (mOr (mB (mOp sGt (mVar 2) (mC (.int 2000)))) (mAnd (mB (mOp sGt (mVar 5) (mC (.int 60)))) (mTru (mVar 4)))) (mRet (mC (.bl false))) mNext)
    (mFor (iSeq (mVar 4)) (gNameM 6)
    (mSeq (mIfS (mOr (mNot (mTru (mIsi "tuple" (mVar 6)))) (mB (mOp sNe (mCB sLen (mCons (mVar 6) mNil)) (mC (.int 2))))) (mRet (mC (.bl false))) mNext)
    (mSeq (mAsg (mVar 6) (gTupM 2 (gConsM (gNameM 7) (gConsM (gNameM 8) gNilM))))
    (mSeq (mIfS (mOr (mNot (mTru (mCall sp_known_name (mCons (mVar 7) (mCons (mVar 1) mNil))))) (mNot (mTru (mIsi "tuple" (mVar 8))))) (mRet (mC (.bl false))) mNext)
    (mIfS (mTru (mVar 8)) (mDrop (mBM "list" sAppend (mVar 3) (mCons (mTup (mCons (mVar 8) (mCons (mOp sAdd (mVar 5) (mC (.int 1))) mNil))) mNil))) mNext))))))))
theorem allok_app {ns : List Str} {x y : List SE} : allok ns (x ++ y) = (allok ns x && allok ns y) := by simp [allok]
theorem pend_app {x y : List SE} : pend (x ++ y) = pend x + pend y := by simp [pend]
theorem push_len {d : Nat} : ∀ l : List PV, (l.flatMap (pushT d)).length ≤ l.length
  | [] => by simp
  | t :: r => by
    rw [List.flatMap_cons, List.length_append, List.length_cons]
    have := push_len (d := d) r
    have : (pushT d t).length ≤ 1 := by
      unfold pushT
      split
      · split <;> simp
      · simp
    omega
theorem goodR_all {ns : List Str} : ∀ {l : List PV} {t : PV}, t ∈ l → goodT ns t = false → goodR ns l = false
  | x :: l, t, m, h => by
    unfold goodR
    rcases List.mem_cons.mp m with e | m
    · subst e; rw [h]; rfl
    · rw [goodR_all m h, Bool.and_false]
theorem allok_bad {ns : List Str} {s : List SE} {e : SE} (m : e ∈ s) (h : goodR ns e.1 = false ∨ ¬(e.1 = [] ∨ depR e.1 + e.2 ≤ 61)) : allok ns s = false := by
  cases z : allok ns s with
  | false => rfl
  | true =>
    have := List.all_eq_true.mp z e m
    simp only [Bool.and_eq_true, decide_eq_true_eq] at this
    rcases h with h | h
    · rw [h] at this; exact absurd this.1 (by decide)
    · exact absurd this.2 h
theorem nottop {ns : List Str} {t : PV} (h : topT ns t = false) : goodT ns t = false := by
  cases z : goodT ns t with
  | false => rfl
  | true => rw [good_top z] at h; cases h
theorem wh_ok {ns : List Str} {v : PV} {S : Addr} {M : MHp} {D : MEnds} : ∀ (n : Nat) (s : List SE) (T : Nat) (r d t nm b : Option PV), s.length + pend s ≤ n → T ≤ 2000 → s.length ≤ T + 1 → (∀ e ∈ s, liveL M e.1) →
    (D.nx = fun _ M' => D.rt (.bl true) M') → (∀ x, D.rt (.bl (decide (T + pend s ≤ 2000) && allok ns s)) (updM M S (.lst x))) → M S = none →
    whileN wC wB D (n + 1) [some v, some (.tup (pss ns)), some (.int T), some (.ref S), r, d, t, nm, b] (updM M S (.lst (s.map enc))) := by
  intro n
  induction n with
  | zero =>
    intro s T r d t nm b hn hT hs hl hnx hrt hS
    have e : s = [] := List.length_eq_zero_iff.mp (by omega)
    subst e
    unfold whileN wC
    simp only [mSeq, mAsg, mOp, mUn, mVar, mC, mCB, mCons, mNil, mTup, mLst_n, mB, mTru, mNot, mAnd, mOr, mAndV, mOrV, mNotV, mIf, mIfS, mRet, mRetN, mDrop, mNext, mBreak, mCont, mBM, mBM0, mCall, mFor, mLc, mYes, iSeq, iRng, iRng2, iRevRng, gNameM, gSubM, mAug, mIsi, mSl, mPart, mNoPart, mRaise, getS_0, getS_s, isB_bl, truP_t, truP_b, sIx_t, sIx_o, sIx_r, sIx_s, sAdd_ii, sAdd_ss, sAdd_tt, sAdd_rr, sIAdd_ii, sIAdd_ss, sMul_ii, sMul_si, sI2_ii, sLen_t, sLen_o, sLen_r, sLen_s, sInt_i, sAbs_i, sMin2_i, sMax2_i, sStrI_i, sTupOf_t, sTupOf_r, sLstOf_t, sLstOf_r, sAppend_r, sPop_r, sPopAt_r, sInsert_r, sSet_r, sEq_ii, sEq_ss, sNe_ii, sNe_ss, sIn_ss, sIn_st, sIn_sr, sIs_n, sIsNot_n, isNonP_n, isNonP_t, isNonP_s, isNonP_i, isNonP_r, sNeg_i, sSl_r, mDict0_n, mDict1_n, gTupM_t, gConsM_c, gNilM_n, seqP_t, seqP_o, seqP_r, withL_upd, upd_upd, dec_if, true_and, and_true, List.set_cons_zero, List.set_cons_succ, atI_0, atI_1, atI_2, ixN_30, ixN_31, ixN_32, ixN_s0, Option.some.injEq, exists_eq_left', exists_eq_left, Bool.not_true, Bool.not_false, if_true, if_false, Bool.false_eq_true, reduceCtorEq, List.length_cons, List.length_nil, endsOf, wipeM, List.map_cons, List.map_nil, ite_true, ite_false, eq_self_iff_true, false_and, Nat.reduceAdd, decide_true, decide_false, truP_l updM_same, List.isEmpty_nil]
    rw [hnx]
    have := hrt []
    simpa [pend, allok, hT] using this
  | succ n ih =>
    intro s T r d t nm b hn hT hs hl hnx hrt hS
    unfold whileN wC
    rcases List.eq_nil_or_concat s with rfl | ⟨s', ⟨row, deep⟩, rfl⟩
    · simp only [mSeq, mAsg, mOp, mUn, mVar, mC, mCB, mCons, mNil, mTup, mLst_n, mB, mTru, mNot, mAnd, mOr, mAndV, mOrV, mNotV, mIf, mIfS, mRet, mRetN, mDrop, mNext, mBreak, mCont, mBM, mBM0, mCall, mFor, mLc, mYes, iSeq, iRng, iRng2, iRevRng, gNameM, gSubM, mAug, mIsi, mSl, mPart, mNoPart, mRaise, getS_0, getS_s, isB_bl, truP_t, truP_b, sIx_t, sIx_o, sIx_r, sIx_s, sAdd_ii, sAdd_ss, sAdd_tt, sAdd_rr, sIAdd_ii, sIAdd_ss, sMul_ii, sMul_si, sI2_ii, sLen_t, sLen_o, sLen_r, sLen_s, sInt_i, sAbs_i, sMin2_i, sMax2_i, sStrI_i, sTupOf_t, sTupOf_r, sLstOf_t, sLstOf_r, sAppend_r, sPop_r, sPopAt_r, sInsert_r, sSet_r, sEq_ii, sEq_ss, sNe_ii, sNe_ss, sIn_ss, sIn_st, sIn_sr, sIs_n, sIsNot_n, isNonP_n, isNonP_t, isNonP_s, isNonP_i, isNonP_r, sNeg_i, sSl_r, mDict0_n, mDict1_n, gTupM_t, gConsM_c, gNilM_n, seqP_t, seqP_o, seqP_r, withL_upd, upd_upd, dec_if, true_and, and_true, List.set_cons_zero, List.set_cons_succ, atI_0, atI_1, atI_2, ixN_30, ixN_31, ixN_32, ixN_s0, Option.some.injEq, exists_eq_left', exists_eq_left, Bool.not_true, Bool.not_false, if_true, if_false, Bool.false_eq_true, reduceCtorEq, List.length_cons, List.length_nil, endsOf, wipeM, List.map_cons, List.map_nil, ite_true, ite_false, eq_self_iff_true, false_and, Nat.reduceAdd, decide_true, decide_false, truP_l updM_same, List.isEmpty_nil]
      rw [hnx]
      have := hrt []
      simpa [pend, allok, hT] using this
    · rw [List.concat_eq_append] at *
      simp only [mSeq, mAsg, mOp, mUn, mVar, mC, mCB, mCons, mNil, mTup, mLst_n, mB, mTru, mNot, mAnd, mOr, mAndV, mOrV, mNotV, mIf, mIfS, mRet, mRetN, mDrop, mNext, mBreak, mCont, mBM, mBM0, mCall, mFor, mLc, mYes, iSeq, iRng, iRng2, iRevRng, gNameM, gSubM, mAug, mIsi, mSl, mPart, mNoPart, mRaise, getS_0, getS_s, isB_bl, truP_t, truP_b, sIx_t, sIx_o, sIx_r, sIx_s, sAdd_ii, sAdd_ss, sAdd_tt, sAdd_rr, sIAdd_ii, sIAdd_ss, sMul_ii, sMul_si, sI2_ii, sLen_t, sLen_o, sLen_r, sLen_s, sInt_i, sAbs_i, sMin2_i, sMax2_i, sStrI_i, sTupOf_t, sTupOf_r, sLstOf_t, sLstOf_r, sAppend_r, sPop_r, sPopAt_r, sInsert_r, sSet_r, sEq_ii, sEq_ss, sNe_ii, sNe_ss, sIn_ss, sIn_st, sIn_sr, sIs_n, sIsNot_n, isNonP_n, isNonP_t, isNonP_s, isNonP_i, isNonP_r, sNeg_i, sSl_r, mDict0_n, mDict1_n, gTupM_t, gConsM_c, gNilM_n, seqP_t, seqP_o, seqP_r, withL_upd, upd_upd, dec_if, true_and, and_true, List.set_cons_zero, List.set_cons_succ, atI_0, atI_1, atI_2, ixN_30, ixN_31, ixN_32, ixN_s0, Option.some.injEq, exists_eq_left', exists_eq_left, Bool.not_true, Bool.not_false, if_true, if_false, Bool.false_eq_true, reduceCtorEq, List.length_cons, List.length_nil, endsOf, wipeM, List.map_cons, List.map_nil, ite_true, ite_false, eq_self_iff_true, false_and, Nat.reduceAdd, decide_true, decide_false, truP_l updM_same]
      have e : (!((s' ++ [(row, deep)]).map enc).isEmpty) = true := by simp
      rw [if_pos e]
      unfold wB
      simp only [mSeq, mAsg, mOp, mUn, mVar, mC, mCB, mCons, mNil, mTup, mLst_n, mB, mTru, mNot, mAnd, mOr, mAndV, mOrV, mNotV, mIf, mIfS, mRet, mRetN, mDrop, mNext, mBreak, mCont, mBM, mBM0, mCall, mFor, mLc, mYes, iSeq, iRng, iRng2, iRevRng, gNameM, gSubM, mAug, mIsi, mSl, mPart, mNoPart, mRaise, getS_0, getS_s, isB_bl, truP_t, truP_b, sIx_t, sIx_o, sIx_r, sIx_s, sAdd_ii, sAdd_ss, sAdd_tt, sAdd_rr, sIAdd_ii, sIAdd_ss, sMul_ii, sMul_si, sI2_ii, sLen_t, sLen_o, sLen_r, sLen_s, sInt_i, sAbs_i, sMin2_i, sMax2_i, sStrI_i, sTupOf_t, sTupOf_r, sLstOf_t, sLstOf_r, sAppend_r, sPop_r, sPopAt_r, sInsert_r, sSet_r, sEq_ii, sEq_ss, sNe_ii, sNe_ss, sIn_ss, sIn_st, sIn_sr, sIs_n, sIsNot_n, isNonP_n, isNonP_t, isNonP_s, isNonP_i, isNonP_r, sNeg_i, sSl_r, mDict0_n, mDict1_n, gTupM_t, gConsM_c, gNilM_n, seqP_t, seqP_o, seqP_r, withL_upd, upd_upd, dec_if, true_and, and_true, List.set_cons_zero, List.set_cons_succ, atI_0, atI_1, atI_2, ixN_30, ixN_31, ixN_32, ixN_s0, Option.some.injEq, exists_eq_left', exists_eq_left, Bool.not_true, Bool.not_false, if_true, if_false, Bool.false_eq_true, reduceCtorEq, List.length_cons, List.length_nil, endsOf, wipeM, List.map_cons, List.map_nil, ite_true, ite_false, eq_self_iff_true, false_and, Nat.reduceAdd, decide_true, decide_false, tyM_l updM_same, withL_upd]
      refine ⟨enc (row, deep), by simp, ?_⟩
      have ed : ((s' ++ [(row, deep)]).map enc).dropLast = s'.map enc := by simp
      rw [ed]
      have lrow : liveL M row := hl (row, deep) (by simp)
      simp only [enc, mSeq, mAsg, mOp, mUn, mVar, mC, mCB, mCons, mNil, mTup, mLst_n, mB, mTru, mNot, mAnd, mOr, mAndV, mOrV, mNotV, mIf, mIfS, mRet, mRetN, mDrop, mNext, mBreak, mCont, mBM, mBM0, mCall, mFor, mLc, mYes, iSeq, iRng, iRng2, iRevRng, gNameM, gSubM, mAug, mIsi, mSl, mPart, mNoPart, mRaise, getS_0, getS_s, isB_bl, truP_t, truP_b, sIx_t, sIx_o, sIx_r, sIx_s, sAdd_ii, sAdd_ss, sAdd_tt, sAdd_rr, sIAdd_ii, sIAdd_ss, sMul_ii, sMul_si, sI2_ii, sLen_t, sLen_o, sLen_r, sLen_s, sInt_i, sAbs_i, sMin2_i, sMax2_i, sStrI_i, sTupOf_t, sTupOf_r, sLstOf_t, sLstOf_r, sAppend_r, sPop_r, sPopAt_r, sInsert_r, sSet_r, sEq_ii, sEq_ss, sNe_ii, sNe_ss, sIn_ss, sIn_st, sIn_sr, sIs_n, sIsNot_n, isNonP_n, isNonP_t, isNonP_s, isNonP_i, isNonP_r, sNeg_i, sSl_r, mDict0_n, mDict1_n, gTupM_t, gConsM_c, gNilM_n, seqP_t, seqP_o, seqP_r, withL_upd, upd_upd, dec_if, true_and, and_true, List.set_cons_zero, List.set_cons_succ, atI_0, atI_1, atI_2, ixN_30, ixN_31, ixN_32, ixN_s0, Option.some.injEq, exists_eq_left', exists_eq_left, Bool.not_true, Bool.not_false, if_true, if_false, Bool.false_eq_true, reduceCtorEq, List.length_cons, List.length_nil, endsOf, wipeM, List.map_cons, List.map_nil, ite_true, ite_false, eq_self_iff_true, false_and, Nat.reduceAdd, decide_true, decide_false]
      have eT : (T : Int) + (row.length : Int) = ((T + row.length : Nat) : Int) := by omega
      rw [eT]
      have cl := cntR_len row
      have ep : pend (s' ++ [(row, deep)]) = pend s' + cntR row := by rw [pend_app]; simp [pend]
      rw [ep] at hn hrt
      rw [List.length_append, List.length_cons, List.length_nil] at hn hs
      have no : ∀ x, ((decide (T + (pend s' + cntR row) ≤ 2000) && allok ns (s' ++ [(row, deep)])) = false) → D.rt (.bl false) (updM M S (.lst x)) := fun x h => by
        have := hrt x
        rwa [h] at this
      by_cases h1 : (2000 : Int) < ((T + row.length : Nat) : Int)
      · rw [if_pos h1]
        refine no _ ?_
        rw [decide_eq_false (by omega)]; rfl
      · rw [if_neg h1]
        have h1' : T + row.length ≤ 2000 := by omega
        have fin : (60 < (deep : Int) ∧ row ≠ []) ∨ (row = [] ∨ deep ≤ 60) := by
          by_cases z : row = []
          · exact .inr (.inl z)
          · by_cases y : deep ≤ 60
            · exact .inr (.inr y)
            · exact .inl ⟨by omega, z⟩
        rcases fin with ⟨f1, f2⟩ | f
        · have f2' : (!row.isEmpty) = true := by cases row with
            | nil => exact absurd rfl f2
            | cons _ _ => rfl
          rw [if_pos f1, if_pos f2']
          refine no _ ?_
          rw [allok_bad (e := (row, deep)) (by simp) (.inr ?_), Bool.and_false]
          rintro (z | z)
          · exact f2 z
          · have := depR_pos f2
            have z : depR row + deep ≤ 61 := z
            omega
        · have goal : loopG (.fix row) (gNameM 6) (mSeq (mIfS (mOr (mNot (mTru (mIsi "tuple" (mVar 6)))) (mB (mOp sNe (mCB sLen (mCons (mVar 6) mNil)) (mC (.int 2))))) (mRet (mC (.bl false))) mNext)
            (mSeq (mAsg (mVar 6) (gTupM 2 (gConsM (gNameM 7) (gConsM (gNameM 8) gNilM))))
            (mSeq (mIfS (mOr (mNot (mTru (mCall sp_known_name (mCons (mVar 7) (mCons (mVar 1) mNil))))) (mNot (mTru (mIsi "tuple" (mVar 8))))) (mRet (mC (.bl false))) mNext)
            (mIfS (mTru (mVar 8)) (mDrop (mBM "list" sAppend (mVar 3) (mCons (mTup (mCons (mVar 8) (mCons (mOp sAdd (mVar 5) (mC (.int 1))) mNil))) mNil))) mNext))))
              { D with nx := whileN wC wB D (n + 1), ct := whileN wC wB D (n + 1), bk := D.nx } row
              [some v, some (.tup (pss ns)), some (.int ((T + row.length : Nat) : Int)), some (.ref S), some (.tup row), some (.int deep), t, nm, b] (updM M S (.lst (s'.map enc))) := by
            refine for_fix (fun i μ M' => ∃ t nm b, i ≤ row.length ∧ (∀ x ∈ row.take i, topT ns x = true) ∧ μ = [some v, some (.tup (pss ns)), some (.int ((T + row.length : Nat) : Int)), some (.ref S), some (.tup row), some (.int deep), t, nm, b] ∧ M' = updM M S (.lst ((s' ++ (row.take i).flatMap (pushT deep)).map enc)))
              (fun i x μ M' L ex h hl' => ?_) (fun μ M' h => ?_) ⟨t, nm, b, Nat.zero_le _, by simp, rfl, by simp⟩
            · obtain ⟨t, nm, b, hi, top, rfl, rfl⟩ := h
              have mx : x ∈ row := List.mem_iff_getElem?.mpr ⟨i, ex⟩
              have lx0 := liveL_mem lrow mx
              have ext : ∀ o, Ext M (updM M S o) := fun o => Ext.new hS
              have lx := fun o => liveP_ext (ext o) lx0
              have bad : topT ns x = false → ∀ y, D.rt (.bl false) (updM M S (.lst y)) := fun z y => by
                refine no _ ?_
                rw [allok_bad (e := (row, deep)) (by simp) (.inl (goodR_all mx (nottop z))), Bool.and_false]
              have hlt : i < row.length := (List.getElem?_eq_some_iff.mp ex).1
              have tk : row.take (i + 1) = row.take i ++ [x] := by rw [List.take_succ, ex]; rfl
              have go : ∀ nm b, topT ns x = true → L [some v, some (.tup (pss ns)), some (.int ((T + row.length : Nat) : Int)), some (.ref S), some (.tup row), some (.int deep), some x, nm, b] (updM M S (.lst ((s' ++ (row.take (i + 1)).flatMap (pushT deep)).map enc))) := fun nm b z => by
                refine hl' _ _ ⟨some x, nm, b, hlt, fun y my => ?_, rfl, rfl⟩
                rw [tk] at my
                rcases List.mem_append.mp my with my | my
                · exact top y my
                · cases List.mem_singleton.mp my; exact z
              cases x with
              | tup l =>
                simp only [mSeq, mAsg, mOp, mUn, mVar, mC, mCB, mCons, mNil, mTup, mLst_n, mB, mTru, mNot, mAnd, mOr, mAndV, mOrV, mNotV, mIf, mIfS, mRet, mRetN, mDrop, mNext, mBreak, mCont, mBM, mBM0, mCall, mFor, mLc, mYes, iSeq, iRng, iRng2, iRevRng, gNameM, gSubM, mAug, mIsi, mSl, mPart, mNoPart, mRaise, getS_0, getS_s, isB_bl, truP_t, truP_b, sIx_t, sIx_o, sIx_r, sIx_s, sAdd_ii, sAdd_ss, sAdd_tt, sAdd_rr, sIAdd_ii, sIAdd_ss, sMul_ii, sMul_si, sI2_ii, sLen_t, sLen_o, sLen_r, sLen_s, sInt_i, sAbs_i, sMin2_i, sMax2_i, sStrI_i, sTupOf_t, sTupOf_r, sLstOf_t, sLstOf_r, sAppend_r, sPop_r, sPopAt_r, sInsert_r, sSet_r, sEq_ii, sEq_ss, sNe_ii, sNe_ss, sIn_ss, sIn_st, sIn_sr, sIs_n, sIsNot_n, isNonP_n, isNonP_t, isNonP_s, isNonP_i, isNonP_r, sNeg_i, sSl_r, mDict0_n, mDict1_n, gTupM_t, gConsM_c, gNilM_n, seqP_t, seqP_o, seqP_r, withL_upd, upd_upd, dec_if, true_and, and_true, List.set_cons_zero, List.set_cons_succ, atI_0, atI_1, atI_2, ixN_30, ixN_31, ixN_32, ixN_s0, Option.some.injEq, exists_eq_left', exists_eq_left, Bool.not_true, Bool.not_false, if_true, if_false, Bool.false_eq_true, reduceCtorEq, List.length_cons, List.length_nil, endsOf, wipeM, List.map_cons, List.map_nil, ite_true, ite_false, eq_self_iff_true, false_and, Nat.reduceAdd, decide_true, decide_false, isi_tup (lx _), isTup]
                match l, lx, lx0, bad, go with
                | [p, q], lx, lx0, bad, go =>
                  have lp0 : liveP M p ∧ liveP M q := by
                    unfold liveP at lx0
                    exact ⟨liveL_mem lx0 (by simp), liveL_mem lx0 (by simp)⟩
                  have e2 : (!decide ((([p, q] : List PV).length : Int) = 2)) = false := rfl
                  rw [e2]
                  simp only [mSeq, mAsg, mOp, mUn, mVar, mC, mCB, mCons, mNil, mTup, mLst_n, mB, mTru, mNot, mAnd, mOr, mAndV, mOrV, mNotV, mIf, mIfS, mRet, mRetN, mDrop, mNext, mBreak, mCont, mBM, mBM0, mCall, mFor, mLc, mYes, iSeq, iRng, iRng2, iRevRng, gNameM, gSubM, mAug, mIsi, mSl, mPart, mNoPart, mRaise, getS_0, getS_s, isB_bl, truP_t, truP_b, sIx_t, sIx_o, sIx_r, sIx_s, sAdd_ii, sAdd_ss, sAdd_tt, sAdd_rr, sIAdd_ii, sIAdd_ss, sMul_ii, sMul_si, sI2_ii, sLen_t, sLen_o, sLen_r, sLen_s, sInt_i, sAbs_i, sMin2_i, sMax2_i, sStrI_i, sTupOf_t, sTupOf_r, sLstOf_t, sLstOf_r, sAppend_r, sPop_r, sPopAt_r, sInsert_r, sSet_r, sEq_ii, sEq_ss, sNe_ii, sNe_ss, sIn_ss, sIn_st, sIn_sr, sIs_n, sIsNot_n, isNonP_n, isNonP_t, isNonP_s, isNonP_i, isNonP_r, sNeg_i, sSl_r, mDict0_n, mDict1_n, gTupM_t, gConsM_c, gNilM_n, seqP_t, seqP_o, seqP_r, withL_upd, upd_upd, dec_if, true_and, and_true, List.set_cons_zero, List.set_cons_succ, atI_0, atI_1, atI_2, ixN_30, ixN_31, ixN_32, ixN_s0, Option.some.injEq, exists_eq_left', exists_eq_left, Bool.not_true, Bool.not_false, if_true, if_false, Bool.false_eq_true, reduceCtorEq, List.length_cons, List.length_nil, endsOf, wipeM, List.map_cons, List.map_nil, ite_true, ite_false, eq_self_iff_true, false_and, Nat.reduceAdd, decide_true, decide_false]
                  refine ⟨p, ns, rfl, liveP_ext (ext _) lp0.1, ?_⟩
                  by_cases hk : knownB ns p = true
                  · rw [hk]
                    simp only [mSeq, mAsg, mOp, mUn, mVar, mC, mCB, mCons, mNil, mTup, mLst_n, mB, mTru, mNot, mAnd, mOr, mAndV, mOrV, mNotV, mIf, mIfS, mRet, mRetN, mDrop, mNext, mBreak, mCont, mBM, mBM0, mCall, mFor, mLc, mYes, iSeq, iRng, iRng2, iRevRng, gNameM, gSubM, mAug, mIsi, mSl, mPart, mNoPart, mRaise, getS_0, getS_s, isB_bl, truP_t, truP_b, sIx_t, sIx_o, sIx_r, sIx_s, sAdd_ii, sAdd_ss, sAdd_tt, sAdd_rr, sIAdd_ii, sIAdd_ss, sMul_ii, sMul_si, sI2_ii, sLen_t, sLen_o, sLen_r, sLen_s, sInt_i, sAbs_i, sMin2_i, sMax2_i, sStrI_i, sTupOf_t, sTupOf_r, sLstOf_t, sLstOf_r, sAppend_r, sPop_r, sPopAt_r, sInsert_r, sSet_r, sEq_ii, sEq_ss, sNe_ii, sNe_ss, sIn_ss, sIn_st, sIn_sr, sIs_n, sIsNot_n, isNonP_n, isNonP_t, isNonP_s, isNonP_i, isNonP_r, sNeg_i, sSl_r, mDict0_n, mDict1_n, gTupM_t, gConsM_c, gNilM_n, seqP_t, seqP_o, seqP_r, withL_upd, upd_upd, dec_if, true_and, and_true, List.set_cons_zero, List.set_cons_succ, atI_0, atI_1, atI_2, ixN_30, ixN_31, ixN_32, ixN_s0, Option.some.injEq, exists_eq_left', exists_eq_left, Bool.not_true, Bool.not_false, if_true, if_false, Bool.false_eq_true, reduceCtorEq, List.length_cons, List.length_nil, endsOf, wipeM, List.map_cons, List.map_nil, ite_true, ite_false, eq_self_iff_true, false_and, Nat.reduceAdd, decide_true, decide_false, isi_tup (liveP_ext (ext _) lp0.2)]
                    cases q with
                    | tup b =>
                      simp only [mSeq, mAsg, mOp, mUn, mVar, mC, mCB, mCons, mNil, mTup, mLst_n, mB, mTru, mNot, mAnd, mOr, mAndV, mOrV, mNotV, mIf, mIfS, mRet, mRetN, mDrop, mNext, mBreak, mCont, mBM, mBM0, mCall, mFor, mLc, mYes, iSeq, iRng, iRng2, iRevRng, gNameM, gSubM, mAug, mIsi, mSl, mPart, mNoPart, mRaise, getS_0, getS_s, isB_bl, truP_t, truP_b, sIx_t, sIx_o, sIx_r, sIx_s, sAdd_ii, sAdd_ss, sAdd_tt, sAdd_rr, sIAdd_ii, sIAdd_ss, sMul_ii, sMul_si, sI2_ii, sLen_t, sLen_o, sLen_r, sLen_s, sInt_i, sAbs_i, sMin2_i, sMax2_i, sStrI_i, sTupOf_t, sTupOf_r, sLstOf_t, sLstOf_r, sAppend_r, sPop_r, sPopAt_r, sInsert_r, sSet_r, sEq_ii, sEq_ss, sNe_ii, sNe_ss, sIn_ss, sIn_st, sIn_sr, sIs_n, sIsNot_n, isNonP_n, isNonP_t, isNonP_s, isNonP_i, isNonP_r, sNeg_i, sSl_r, mDict0_n, mDict1_n, gTupM_t, gConsM_c, gNilM_n, seqP_t, seqP_o, seqP_r, withL_upd, upd_upd, dec_if, true_and, and_true, List.set_cons_zero, List.set_cons_succ, atI_0, atI_1, atI_2, ixN_30, ixN_31, ixN_32, ixN_s0, Option.some.injEq, exists_eq_left', exists_eq_left, Bool.not_true, Bool.not_false, if_true, if_false, Bool.false_eq_true, reduceCtorEq, List.length_cons, List.length_nil, endsOf, wipeM, List.map_cons, List.map_nil, ite_true, ite_false, eq_self_iff_true, false_and, Nat.reduceAdd, decide_true, decide_false, isTup]
                      have zt : topT ns (.tup [p, .tup b]) = true := by
                        cases p with
                        | str n => exact hk
                        | _ => cases hk
                      have gg := go (some p) (some (.tup b)) zt
                      rw [tk, List.flatMap_append] at gg
                      have e3 : List.flatMap (pushT deep) [.tup [p, .tup b]] = if b = [] then [] else [(b, deep + 1)] := by
                        cases p with
                        | str n => rw [List.flatMap_cons, List.flatMap_nil, List.append_nil]; rfl
                        | _ => cases hk
                      rw [e3] at gg
                      cases b with
                      | nil =>
                        simp only [List.isEmpty_nil, mSeq, mAsg, mOp, mUn, mVar, mC, mCB, mCons, mNil, mTup, mLst_n, mB, mTru, mNot, mAnd, mOr, mAndV, mOrV, mNotV, mIf, mIfS, mRet, mRetN, mDrop, mNext, mBreak, mCont, mBM, mBM0, mCall, mFor, mLc, mYes, iSeq, iRng, iRng2, iRevRng, gNameM, gSubM, mAug, mIsi, mSl, mPart, mNoPart, mRaise, getS_0, getS_s, isB_bl, truP_t, truP_b, sIx_t, sIx_o, sIx_r, sIx_s, sAdd_ii, sAdd_ss, sAdd_tt, sAdd_rr, sIAdd_ii, sIAdd_ss, sMul_ii, sMul_si, sI2_ii, sLen_t, sLen_o, sLen_r, sLen_s, sInt_i, sAbs_i, sMin2_i, sMax2_i, sStrI_i, sTupOf_t, sTupOf_r, sLstOf_t, sLstOf_r, sAppend_r, sPop_r, sPopAt_r, sInsert_r, sSet_r, sEq_ii, sEq_ss, sNe_ii, sNe_ss, sIn_ss, sIn_st, sIn_sr, sIs_n, sIsNot_n, isNonP_n, isNonP_t, isNonP_s, isNonP_i, isNonP_r, sNeg_i, sSl_r, mDict0_n, mDict1_n, gTupM_t, gConsM_c, gNilM_n, seqP_t, seqP_o, seqP_r, withL_upd, upd_upd, dec_if, true_and, and_true, List.set_cons_zero, List.set_cons_succ, atI_0, atI_1, atI_2, ixN_30, ixN_31, ixN_32, ixN_s0, Option.some.injEq, exists_eq_left', exists_eq_left, Bool.not_true, Bool.not_false, if_true, if_false, Bool.false_eq_true, reduceCtorEq, List.length_cons, List.length_nil, endsOf, wipeM, List.map_cons, List.map_nil, ite_true, ite_false, eq_self_iff_true, false_and, Nat.reduceAdd, decide_true, decide_false]
                        simpa using gg
                      | cons b0 bs =>
                        simp only [List.isEmpty_cons, mSeq, mAsg, mOp, mUn, mVar, mC, mCB, mCons, mNil, mTup, mLst_n, mB, mTru, mNot, mAnd, mOr, mAndV, mOrV, mNotV, mIf, mIfS, mRet, mRetN, mDrop, mNext, mBreak, mCont, mBM, mBM0, mCall, mFor, mLc, mYes, iSeq, iRng, iRng2, iRevRng, gNameM, gSubM, mAug, mIsi, mSl, mPart, mNoPart, mRaise, getS_0, getS_s, isB_bl, truP_t, truP_b, sIx_t, sIx_o, sIx_r, sIx_s, sAdd_ii, sAdd_ss, sAdd_tt, sAdd_rr, sIAdd_ii, sIAdd_ss, sMul_ii, sMul_si, sI2_ii, sLen_t, sLen_o, sLen_r, sLen_s, sInt_i, sAbs_i, sMin2_i, sMax2_i, sStrI_i, sTupOf_t, sTupOf_r, sLstOf_t, sLstOf_r, sAppend_r, sPop_r, sPopAt_r, sInsert_r, sSet_r, sEq_ii, sEq_ss, sNe_ii, sNe_ss, sIn_ss, sIn_st, sIn_sr, sIs_n, sIsNot_n, isNonP_n, isNonP_t, isNonP_s, isNonP_i, isNonP_r, sNeg_i, sSl_r, mDict0_n, mDict1_n, gTupM_t, gConsM_c, gNilM_n, seqP_t, seqP_o, seqP_r, withL_upd, upd_upd, dec_if, true_and, and_true, List.set_cons_zero, List.set_cons_succ, atI_0, atI_1, atI_2, ixN_30, ixN_31, ixN_32, ixN_s0, Option.some.injEq, exists_eq_left', exists_eq_left, Bool.not_true, Bool.not_false, if_true, if_false, Bool.false_eq_true, reduceCtorEq, List.length_cons, List.length_nil, endsOf, wipeM, List.map_cons, List.map_nil, ite_true, ite_false, eq_self_iff_true, false_and, Nat.reduceAdd, decide_true, decide_false, tyM_l updM_same]
                        have pl := push_len (d := deep) (row.take i)
                        have tl : (row.take i).length ≤ row.length := by rw [List.length_take]; omega
                        refine ⟨by rw [sz24]; omega, by rw [sz24, List.length_map, List.length_append]; omega, ?_⟩
                        rw [if_neg (by simp)] at gg
                        simpa [enc, List.map_append] using gg
                    | _ =>
                      simp only [mSeq, mAsg, mOp, mUn, mVar, mC, mCB, mCons, mNil, mTup, mLst_n, mB, mTru, mNot, mAnd, mOr, mAndV, mOrV, mNotV, mIf, mIfS, mRet, mRetN, mDrop, mNext, mBreak, mCont, mBM, mBM0, mCall, mFor, mLc, mYes, iSeq, iRng, iRng2, iRevRng, gNameM, gSubM, mAug, mIsi, mSl, mPart, mNoPart, mRaise, getS_0, getS_s, isB_bl, truP_t, truP_b, sIx_t, sIx_o, sIx_r, sIx_s, sAdd_ii, sAdd_ss, sAdd_tt, sAdd_rr, sIAdd_ii, sIAdd_ss, sMul_ii, sMul_si, sI2_ii, sLen_t, sLen_o, sLen_r, sLen_s, sInt_i, sAbs_i, sMin2_i, sMax2_i, sStrI_i, sTupOf_t, sTupOf_r, sLstOf_t, sLstOf_r, sAppend_r, sPop_r, sPopAt_r, sInsert_r, sSet_r, sEq_ii, sEq_ss, sNe_ii, sNe_ss, sIn_ss, sIn_st, sIn_sr, sIs_n, sIsNot_n, isNonP_n, isNonP_t, isNonP_s, isNonP_i, isNonP_r, sNeg_i, sSl_r, mDict0_n, mDict1_n, gTupM_t, gConsM_c, gNilM_n, seqP_t, seqP_o, seqP_r, withL_upd, upd_upd, dec_if, true_and, and_true, List.set_cons_zero, List.set_cons_succ, atI_0, atI_1, atI_2, ixN_30, ixN_31, ixN_32, ixN_s0, Option.some.injEq, exists_eq_left', exists_eq_left, Bool.not_true, Bool.not_false, if_true, if_false, Bool.false_eq_true, reduceCtorEq, List.length_cons, List.length_nil, endsOf, wipeM, List.map_cons, List.map_nil, ite_true, ite_false, eq_self_iff_true, false_and, Nat.reduceAdd, decide_true, decide_false, isTup]
                      exact bad (by cases p <;> rfl) _
                  · have hk : knownB ns p = false := by simpa using hk
                    rw [hk]
                    simp only [mSeq, mAsg, mOp, mUn, mVar, mC, mCB, mCons, mNil, mTup, mLst_n, mB, mTru, mNot, mAnd, mOr, mAndV, mOrV, mNotV, mIf, mIfS, mRet, mRetN, mDrop, mNext, mBreak, mCont, mBM, mBM0, mCall, mFor, mLc, mYes, iSeq, iRng, iRng2, iRevRng, gNameM, gSubM, mAug, mIsi, mSl, mPart, mNoPart, mRaise, getS_0, getS_s, isB_bl, truP_t, truP_b, sIx_t, sIx_o, sIx_r, sIx_s, sAdd_ii, sAdd_ss, sAdd_tt, sAdd_rr, sIAdd_ii, sIAdd_ss, sMul_ii, sMul_si, sI2_ii, sLen_t, sLen_o, sLen_r, sLen_s, sInt_i, sAbs_i, sMin2_i, sMax2_i, sStrI_i, sTupOf_t, sTupOf_r, sLstOf_t, sLstOf_r, sAppend_r, sPop_r, sPopAt_r, sInsert_r, sSet_r, sEq_ii, sEq_ss, sNe_ii, sNe_ss, sIn_ss, sIn_st, sIn_sr, sIs_n, sIsNot_n, isNonP_n, isNonP_t, isNonP_s, isNonP_i, isNonP_r, sNeg_i, sSl_r, mDict0_n, mDict1_n, gTupM_t, gConsM_c, gNilM_n, seqP_t, seqP_o, seqP_r, withL_upd, upd_upd, dec_if, true_and, and_true, List.set_cons_zero, List.set_cons_succ, atI_0, atI_1, atI_2, ixN_30, ixN_31, ixN_32, ixN_s0, Option.some.injEq, exists_eq_left', exists_eq_left, Bool.not_true, Bool.not_false, if_true, if_false, Bool.false_eq_true, reduceCtorEq, List.length_cons, List.length_nil, endsOf, wipeM, List.map_cons, List.map_nil, ite_true, ite_false, eq_self_iff_true, false_and, Nat.reduceAdd, decide_true, decide_false]
                    refine bad ?_ _
                    cases p with
                    | str n => cases q with
                      | tup b => exact hk
                      | _ => rfl
                    | _ => rfl
                | [], lx, lx0, bad, go => exact bad rfl _
                | [p], lx, lx0, bad, go => exact bad (by cases p <;> rfl) _
                | p :: q :: w :: l, lx, lx0, bad, go =>
                  have e2 : (!decide (((p :: q :: w :: l : List PV).length : Int) = 2)) = true := by simp; omega
                  rw [e2]
                  refine bad ?_ _
                  cases p <;> cases q <;> rfl
              | _ =>
                simp only [mSeq, mAsg, mOp, mUn, mVar, mC, mCB, mCons, mNil, mTup, mLst_n, mB, mTru, mNot, mAnd, mOr, mAndV, mOrV, mNotV, mIf, mIfS, mRet, mRetN, mDrop, mNext, mBreak, mCont, mBM, mBM0, mCall, mFor, mLc, mYes, iSeq, iRng, iRng2, iRevRng, gNameM, gSubM, mAug, mIsi, mSl, mPart, mNoPart, mRaise, getS_0, getS_s, isB_bl, truP_t, truP_b, sIx_t, sIx_o, sIx_r, sIx_s, sAdd_ii, sAdd_ss, sAdd_tt, sAdd_rr, sIAdd_ii, sIAdd_ss, sMul_ii, sMul_si, sI2_ii, sLen_t, sLen_o, sLen_r, sLen_s, sInt_i, sAbs_i, sMin2_i, sMax2_i, sStrI_i, sTupOf_t, sTupOf_r, sLstOf_t, sLstOf_r, sAppend_r, sPop_r, sPopAt_r, sInsert_r, sSet_r, sEq_ii, sEq_ss, sNe_ii, sNe_ss, sIn_ss, sIn_st, sIn_sr, sIs_n, sIsNot_n, isNonP_n, isNonP_t, isNonP_s, isNonP_i, isNonP_r, sNeg_i, sSl_r, mDict0_n, mDict1_n, gTupM_t, gConsM_c, gNilM_n, seqP_t, seqP_o, seqP_r, withL_upd, upd_upd, dec_if, true_and, and_true, List.set_cons_zero, List.set_cons_succ, atI_0, atI_1, atI_2, ixN_30, ixN_31, ixN_32, ixN_s0, Option.some.injEq, exists_eq_left', exists_eq_left, Bool.not_true, Bool.not_false, if_true, if_false, Bool.false_eq_true, reduceCtorEq, List.length_cons, List.length_nil, endsOf, wipeM, List.map_cons, List.map_nil, ite_true, ite_false, eq_self_iff_true, false_and, Nat.reduceAdd, decide_true, decide_false, isi_tup (lx _), isTup]
                exact bad rfl _
            · obtain ⟨t, nm, b, _, top, rfl, rfl⟩ := h
              rw [List.take_of_length_le (Nat.le_refl _)] at top ⊢
              obtain ⟨g1, g2⟩ := row_law (d := deep) top
              have pl := push_len (d := deep) row
              refine ih _ _ _ _ _ _ _ ?_ h1' ?_ ?_ hnx ?_ hS
              · rw [List.length_append, pend_app]; omega
              · rw [List.length_append]; omega
              · intro e me
                rcases List.mem_append.mp me with me | me
                · exact hl e (by simp [me])
                · obtain ⟨t, mt, pt⟩ := List.mem_flatMap.mp me
                  obtain ⟨n, b, rfl, _⟩ := top_shape (top t mt)
                  have : pushT deep (.tup [.str n, .tup b]) = if b = [] then [] else [(b, deep + 1)] := rfl
                  rw [this] at pt
                  have lt := liveL_mem lrow mt
                  unfold liveP at lt
                  have lb := liveL_mem lt (x := .tup b) (by simp)
                  unfold liveP at lb
                  split at pt
                  · cases pt
                  · cases List.mem_singleton.mp pt
                    exact lb
              · intro x
                have hx := hrt x
                have e2 : (decide (T + (pend s' + cntR row) ≤ 2000) && allok ns (s' ++ [(row, deep)])) = (decide (T + row.length + pend (s' ++ List.flatMap (pushT deep) row) ≤ 2000) && allok ns (s' ++ List.flatMap (pushT deep) row)) := by
                  rw [allok_app, allok_app, pend_app, g1]
                  have : allok ns [(row, deep)] = (allok ns (row.flatMap (pushT deep)) && decide (row = [] ∨ deep ≤ 60)) := by
                    rw [← g2]; simp [allok]
                  rw [this, decide_eq_true f, Bool.and_true]
                  congr 2
                  apply propext
                  omega
                rwa [← e2]
          by_cases f1 : 60 < (deep : Int)
          · rw [if_pos f1]
            have z : row = [] := f.resolve_right (by omega)
            have f2' : ¬(!row.isEmpty) = true := by subst z; simp
            rw [if_neg f2']
            exact goal
          · rw [if_neg f1]
            exact goal
theorem d_forest : ∀ xs M Q E, sp_is_forest xs M Q E → m_is_forest (endsOf Q E) (startM N_is_forest xs) M := by
  rintro _ M Q E ⟨v, ns, rfl, lv, q⟩
  show m_is_forest (endsOf Q E) [some v, some (.tup (pss ns)), none, none, none, none, none, none, none] M
  cases v with
  | tup l =>
    simp only [m_is_forest, mSeq, mAsg, mOp, mUn, mVar, mC, mCB, mCons, mNil, mTup, mLst_n, mB, mTru, mNot, mAnd, mOr, mAndV, mOrV, mNotV, mIf, mIfS, mRet, mRetN, mDrop, mNext, mBreak, mCont, mBM, mBM0, mCall, mFor, mLc, mYes, iSeq, iRng, iRng2, iRevRng, gNameM, gSubM, mAug, mIsi, mSl, mPart, mNoPart, mRaise, getS_0, getS_s, isB_bl, truP_t, truP_b, sIx_t, sIx_o, sIx_r, sIx_s, sAdd_ii, sAdd_ss, sAdd_tt, sAdd_rr, sIAdd_ii, sIAdd_ss, sMul_ii, sMul_si, sI2_ii, sLen_t, sLen_o, sLen_r, sLen_s, sInt_i, sAbs_i, sMin2_i, sMax2_i, sStrI_i, sTupOf_t, sTupOf_r, sLstOf_t, sLstOf_r, sAppend_r, sPop_r, sPopAt_r, sInsert_r, sSet_r, sEq_ii, sEq_ss, sNe_ii, sNe_ss, sIn_ss, sIn_st, sIn_sr, sIs_n, sIsNot_n, isNonP_n, isNonP_t, isNonP_s, isNonP_i, isNonP_r, sNeg_i, sSl_r, mDict0_n, mDict1_n, gTupM_t, gConsM_c, gNilM_n, seqP_t, seqP_o, seqP_r, withL_upd, upd_upd, dec_if, true_and, and_true, List.set_cons_zero, List.set_cons_succ, atI_0, atI_1, atI_2, ixN_30, ixN_31, ixN_32, ixN_s0, Option.some.injEq, exists_eq_left', exists_eq_left, Bool.not_true, Bool.not_false, if_true, if_false, Bool.false_eq_true, reduceCtorEq, List.length_cons, List.length_nil, endsOf, wipeM, List.map_cons, List.map_nil, ite_true, ite_false, eq_self_iff_true, false_and, Nat.reduceAdd, decide_true, decide_false, isi_tup lv, isTup]
    refine ⟨by decide, by decide, fun S hS => ⟨_, wh_ok (1 + cntR l) [(l, 1)] 0 _ _ _ _ _ ?_ (by decide) (Nat.le_refl 1) ?_ rfl ?_ hS⟩⟩
    · simp [pend]
    · intro e me
      cases List.mem_singleton.mp me
      unfold liveP at lv
      exact lv
    · intro x
      have e : (decide (0 + pend [(l, 1)] ≤ 2000) && allok ns [(l, 1)]) = isF ns (.tup l) := by
        show _ = okF ns l
        unfold okF
        have e1 : pend [(l, 1)] = cntR l := by simp [pend]
        rw [e1]
        apply Bool.eq_iff_iff.mpr
        have : depR ([] : List PV) = 0 := depR_nil
        simp [allok]
        by_cases z : l = []
        · subst z; simp [depR_nil, cntR_nil, goodR_nil]
        · simp [z]
          constructor
          · rintro ⟨a, b, c⟩; exact ⟨⟨b, a⟩, by omega⟩
          · rintro ⟨⟨a, b⟩, c⟩; exact ⟨b, a, by omega⟩
      show Q _ _
      rw [e]
      exact q _ (Ext.new hS)
  | _ =>
    simp only [m_is_forest, mSeq, mAsg, mOp, mUn, mVar, mC, mCB, mCons, mNil, mTup, mLst_n, mB, mTru, mNot, mAnd, mOr, mAndV, mOrV, mNotV, mIf, mIfS, mRet, mRetN, mDrop, mNext, mBreak, mCont, mBM, mBM0, mCall, mFor, mLc, mYes, iSeq, iRng, iRng2, iRevRng, gNameM, gSubM, mAug, mIsi, mSl, mPart, mNoPart, mRaise, getS_0, getS_s, isB_bl, truP_t, truP_b, sIx_t, sIx_o, sIx_r, sIx_s, sAdd_ii, sAdd_ss, sAdd_tt, sAdd_rr, sIAdd_ii, sIAdd_ss, sMul_ii, sMul_si, sI2_ii, sLen_t, sLen_o, sLen_r, sLen_s, sInt_i, sAbs_i, sMin2_i, sMax2_i, sStrI_i, sTupOf_t, sTupOf_r, sLstOf_t, sLstOf_r, sAppend_r, sPop_r, sPopAt_r, sInsert_r, sSet_r, sEq_ii, sEq_ss, sNe_ii, sNe_ss, sIn_ss, sIn_st, sIn_sr, sIs_n, sIsNot_n, isNonP_n, isNonP_t, isNonP_s, isNonP_i, isNonP_r, sNeg_i, sSl_r, mDict0_n, mDict1_n, gTupM_t, gConsM_c, gNilM_n, seqP_t, seqP_o, seqP_r, withL_upd, upd_upd, dec_if, true_and, and_true, List.set_cons_zero, List.set_cons_succ, atI_0, atI_1, atI_2, ixN_30, ixN_31, ixN_32, ixN_s0, Option.some.injEq, exists_eq_left', exists_eq_left, Bool.not_true, Bool.not_false, if_true, if_false, Bool.false_eq_true, reduceCtorEq, List.length_cons, List.length_nil, endsOf, wipeM, List.map_cons, List.map_nil, ite_true, ite_false, eq_self_iff_true, false_and, Nat.reduceAdd, decide_true, decide_false, isi_tup lv, isTup]
    exact q _ Ext.refl
end K01
end PL
end L2
set_option maxRecDepth 100000
set_option maxHeartbeats 2000000
namespace L2
namespace PL
namespace K01
open PySem PySem.Spec PyProof.Rows

abbrev cl (s : Str) : List Nat := s.cps.toList
def wch (c : Nat) : Bool := c == 95 || (decide (48 ≤ c) && decide (c ≤ 57)) || (decide (65 ≤ c) && decide (c ≤ 90)) || (decide (97 ≤ c) && decide (c ≤ 122))
theorem cl_app (a b : Str) : cl (a ++ b) = cl a ++ cl b := by show (a.cps ++ b.cps).toList = _; rw [Array.toList_append]
theorem len_cl (a : Str) : a.length = (cl a).length := by simp [Str.length, cl]
theorem cl_one {c : Nat} : cl ⟨#[c]⟩ = [c] := rfl
structure NP (f : Nat) (s : Str) : Prop where
  hd : ∃ c r, cl s = c :: r ∧ 97 ≤ c ∧ c ≤ 122
  ch : ∀ c ∈ cl s, wch c = true
  lo : f + 1 ≤ (cl s).length
  hi : (cl s).length ≤ 46
  en : (cl s).length ≤ f + 3 ∨ ∃ d, (cl s).getLast? = some d ∧ 48 ≤ d ∧ d ≤ 50
theorem low_wch {c : Nat} (h1 : 97 ≤ c) (h2 : c ≤ 122) : wch c = true := by simp [wch, h1, h2]
def sp__law_names : MSp := fun xs M Q _ => ∃ st g c, xs = [.ref st] ∧ DrawSt M st g c ∧ ∀ nm ns f M', DrawSt M' st g c → Fr st g M M' → Oth st g c nm → M nm = none → M' nm = some (.lst (pss ns)) → ns ≠ [] → ns.length ≤ 3 → (∀ n ∈ ns, NP f n) → Q (.ref nm) M'
/-- _law_names: slots 0 state, 1 letters, 2 signs, 3 front, 4 names, 5 k, 6 name, 7 turn -/
def N__law_names : List Str := ["state", "letters", "signs", "front", "names", "k", "name", "turn"]
def m__law_names : MS :=
    (mSeq (mAsg (mC (.str "abcdefghijklmnopqrstuvwxyz")) (gNameM 1))
    (mSeq (mAsg (mC (.str "_0123456789ABCDEFGHIJKLMNOPQRSTUVWXYZabcdefghijklmnopqrstuvwxyz")) (gNameM 2))
    (mSeq (mAsg (mOp sIx (mLst (mCons (mC (.str "")) (mCons (mC (.str "")) (mCons (mC (.str "kind")) (mCons (mOp sMul (mC (.str "a")) (mC (.int 40))) mNil))))) (mCall sp__law_draw (mCons (mVar 0) (mCons (mC (.int 4)) mNil)))) (gNameM 3))
    (mSeq (mAsg (mLst mNil) (gNameM 4))
    (mSeq (mFor (iRng (mCons (mOp sAdd (mC (.int 1)) (mCall sp__law_draw (mCons (mVar 0) (mCons (mC (.int 3)) mNil)))) mNil)) (gNameM 5)
    (mSeq (mAsg (mOp sAdd (mVar 3) (mOp sIx (mVar 1) (mCall sp__law_draw (mCons (mVar 0) (mCons (mC (.int 26)) mNil))))) (gNameM 6))
    (mSeq (mFor (iRng (mCons (mCall sp__law_draw (mCons (mVar 0) (mCons (mC (.int 3)) mNil))) mNil)) (gNameM 7)
    (mAsg (mOp sAdd (mVar 6) (mOp sIx (mVar 2) (mCall sp__law_draw (mCons (mVar 0) (mCons (mC (.int 63)) mNil))))) (gNameM 6)))
    (mSeq (mIfS (mB (mOp (sIn false) (mVar 6) (mVar 4))) (mAsg (mOp sAdd (mOp sAdd (mVar 6) (mC (.str "_"))) (mCB sStrI (mCons (mVar 5) mNil))) (gNameM 6)) mNext)
    (mDrop (mBM "list" sAppend (mVar 4) (mCons (mVar 6) mNil)))))))
    (mRet (mVar 4)))))))

theorem let_ok : ∀ d : Nat, d < 26 → ∃ c, atI (cl ("abcdefghijklmnopqrstuvwxyz" : Str)) d = some c ∧ 97 ≤ c ∧ c ≤ 122 := by
  intro d h
  have e : cl ("abcdefghijklmnopqrstuvwxyz" : Str) = (List.range 26).map (· + 97) := by decide +kernel
  rw [e]
  exact ⟨d + 97, atI_nat (by simp [h]), by omega, by omega⟩
theorem sig_ok : ∀ d : Nat, d < 63 → ∃ c, atI (cl ("_0123456789ABCDEFGHIJKLMNOPQRSTUVWXYZabcdefghijklmnopqrstuvwxyz" : Str)) d = some c ∧ wch c = true := by
  intro d h
  have e : cl ("_0123456789ABCDEFGHIJKLMNOPQRSTUVWXYZabcdefghijklmnopqrstuvwxyz" : Str) = [95] ++ (List.range 10).map (· + 48) ++ (List.range 26).map (· + 65) ++ (List.range 26).map (· + 97) := by decide +kernel
  have l : (cl ("_0123456789ABCDEFGHIJKLMNOPQRSTUVWXYZabcdefghijklmnopqrstuvwxyz" : Str)).length = 63 := by rw [e]; rfl
  have a : ∀ c ∈ cl ("_0123456789ABCDEFGHIJKLMNOPQRSTUVWXYZabcdefghijklmnopqrstuvwxyz" : Str), wch c = true := by rw [e]; decide
  have hd : d < (cl ("_0123456789ABCDEFGHIJKLMNOPQRSTUVWXYZabcdefghijklmnopqrstuvwxyz" : Str)).length := by rw [l]; exact h
  exact ⟨_, atI_nat (List.getElem?_eq_getElem hd), a _ (List.getElem_mem hd)⟩
theorem a40 : Txt.mul ("a" : Str) 40 = ⟨(List.replicate 40 97).toArray⟩ := by decide +kernel
theorem a40ok : MulOk ("a" : Str) 40 := by unfold MulOk; decide +kernel
def Front (x : Str) : Prop := (cl x).length ≤ 40 ∧ ∀ c ∈ cl x, 97 ≤ c ∧ c ≤ 122
theorem front_ok : ∀ d : Nat, d < 4 → ∃ x, atI [PV.str "", PV.str "", PV.str "kind", PV.str (Txt.mul ("a" : Str) 40)] d = some (.str x) ∧ Front x := by
  intro d h
  match d, h with
  | 0, _ => exact ⟨_, rfl, by unfold Front; decide +kernel⟩
  | 1, _ => exact ⟨_, rfl, by unfold Front; decide +kernel⟩
  | 2, _ => exact ⟨_, rfl, by unfold Front; decide +kernel⟩
  | 3, _ => exact ⟨_, rfl, by rw [a40]; unfold Front; decide +kernel⟩
theorem d_names : ∀ xs M Q E, sp__law_names xs M Q E → m__law_names (endsOf Q E) (startM N__law_names xs) M := by
  rintro _ M Q E ⟨st, g, c, rfl, d, q⟩
  show m__law_names (endsOf Q E) [some (.ref st), none, none, none, none, none, none, none] M
  unfold m__law_names
  simp only [mSeq, mAsg, mOp, mUn, mVar, mC, mCB, mCons, mNil, mTup, mLst_n, mB, mTru, mNot, mAnd, mOr, mAndV, mOrV, mNotV, mIf, mIfS, mRet, mRetN, mDrop, mNext, mBreak, mCont, mBM, mBM0, mCall, mFor, mLc, mYes, iSeq, iRng, iRng2, iRevRng, gNameM, gSubM, mAug, mIsi, mSl, mPart, mNoPart, mRaise, getS_0, getS_s, isB_bl, truP_t, truP_b, sIx_t, sIx_o, sIx_r, sIx_s, sAdd_ii, sAdd_ss, sAdd_tt, sAdd_rr, sIAdd_ii, sIAdd_ss, sMul_ii, sMul_si, sI2_ii, sLen_t, sLen_o, sLen_r, sLen_s, sInt_i, sAbs_i, sMin2_i, sMax2_i, sStrI_i, sTupOf_t, sTupOf_r, sLstOf_t, sLstOf_r, sAppend_r, sPop_r, sPopAt_r, sInsert_r, sSet_r, sEq_ii, sEq_ss, sNe_ii, sNe_ss, sIn_ss, sIn_st, sIn_sr, sIs_n, sIsNot_n, isNonP_n, isNonP_t, isNonP_s, isNonP_i, isNonP_r, sNeg_i, sSl_r, mDict0_n, mDict1_n, gTupM_t, gConsM_c, gNilM_n, seqP_t, seqP_o, seqP_r, withL_upd, upd_upd, dec_if, true_and, and_true, List.set_cons_zero, List.set_cons_succ, atI_0, atI_1, atI_2, ixN_30, ixN_31, ixN_32, ixN_s0, Option.some.injEq, exists_eq_left', exists_eq_left, Bool.not_true, Bool.not_false, if_true, if_false, Bool.false_eq_true, reduceCtorEq, List.length_cons, List.length_nil, endsOf, wipeM, List.map_cons, List.map_nil, ite_true, ite_false, eq_self_iff_true, false_and, Nat.reduceAdd, decide_true, decide_false]
  refine ⟨a40ok, by decide, fun p hp => draw_i (d.new hp) (by decide) (by decide) fun d1 M1 hd1 D1 F1 => ?_⟩
  have hp1 := F1.at (d.oth hp) updM_same
  obtain ⟨fr, e1, hf⟩ := front_ok d1 (by omega)
  simp only [mSeq, mAsg, mOp, mUn, mVar, mC, mCB, mCons, mNil, mTup, mLst_n, mB, mTru, mNot, mAnd, mOr, mAndV, mOrV, mNotV, mIf, mIfS, mRet, mRetN, mDrop, mNext, mBreak, mCont, mBM, mBM0, mCall, mFor, mLc, mYes, iSeq, iRng, iRng2, iRevRng, gNameM, gSubM, mAug, mIsi, mSl, mPart, mNoPart, mRaise, getS_0, getS_s, isB_bl, truP_t, truP_b, sIx_t, sIx_o, sIx_r, sIx_s, sAdd_ii, sAdd_ss, sAdd_tt, sAdd_rr, sIAdd_ii, sIAdd_ss, sMul_ii, sMul_si, sI2_ii, sLen_t, sLen_o, sLen_r, sLen_s, sInt_i, sAbs_i, sMin2_i, sMax2_i, sStrI_i, sTupOf_t, sTupOf_r, sLstOf_t, sLstOf_r, sAppend_r, sPop_r, sPopAt_r, sInsert_r, sSet_r, sEq_ii, sEq_ss, sNe_ii, sNe_ss, sIn_ss, sIn_st, sIn_sr, sIs_n, sIsNot_n, isNonP_n, isNonP_t, isNonP_s, isNonP_i, isNonP_r, sNeg_i, sSl_r, mDict0_n, mDict1_n, gTupM_t, gConsM_c, gNilM_n, seqP_t, seqP_o, seqP_r, withL_upd, upd_upd, dec_if, true_and, and_true, List.set_cons_zero, List.set_cons_succ, atI_0, atI_1, atI_2, ixN_30, ixN_31, ixN_32, ixN_s0, Option.some.injEq, exists_eq_left', exists_eq_left, Bool.not_true, Bool.not_false, if_true, if_false, Bool.false_eq_true, reduceCtorEq, List.length_cons, List.length_nil, endsOf, wipeM, List.map_cons, List.map_nil, ite_true, ite_false, eq_self_iff_true, false_and, Nat.reduceAdd, decide_true, decide_false, withL_eq hp1]
  refine ⟨_, e1, by decide, fun nm hn => draw_i (D1.new hn) (by decide) (by decide) fun d2 M2 hd2 D2 F2 => ?_⟩
  have on := D1.oth hn
  have hn2 := F2.at on updM_same
  have FM : Fr st g M M2 := ((Fr.refl.new hp).trans F1).trans ((Fr.refl.new hn).trans F2)
  have nM : M nm = none := ((Fr.refl.new hp).trans F1).none D1 hn
  simp only [mSeq, mAsg, mOp, mUn, mVar, mC, mCB, mCons, mNil, mTup, mLst_n, mB, mTru, mNot, mAnd, mOr, mAndV, mOrV, mNotV, mIf, mIfS, mRet, mRetN, mDrop, mNext, mBreak, mCont, mBM, mBM0, mCall, mFor, mLc, mYes, iSeq, iRng, iRng2, iRevRng, gNameM, gSubM, mAug, mIsi, mSl, mPart, mNoPart, mRaise, getS_0, getS_s, isB_bl, truP_t, truP_b, sIx_t, sIx_o, sIx_r, sIx_s, sAdd_ii, sAdd_ss, sAdd_tt, sAdd_rr, sIAdd_ii, sIAdd_ss, sMul_ii, sMul_si, sI2_ii, sLen_t, sLen_o, sLen_r, sLen_s, sInt_i, sAbs_i, sMin2_i, sMax2_i, sStrI_i, sTupOf_t, sTupOf_r, sLstOf_t, sLstOf_r, sAppend_r, sPop_r, sPopAt_r, sInsert_r, sSet_r, sEq_ii, sEq_ss, sNe_ii, sNe_ss, sIn_ss, sIn_st, sIn_sr, sIs_n, sIsNot_n, isNonP_n, isNonP_t, isNonP_s, isNonP_i, isNonP_r, sNeg_i, sSl_r, mDict0_n, mDict1_n, gTupM_t, gConsM_c, gNilM_n, seqP_t, seqP_o, seqP_r, withL_upd, upd_upd, dec_if, true_and, and_true, List.set_cons_zero, List.set_cons_succ, atI_0, atI_1, atI_2, ixN_30, ixN_31, ixN_32, ixN_s0, Option.some.injEq, exists_eq_left', exists_eq_left, Bool.not_true, Bool.not_false, if_true, if_false, Bool.false_eq_true, reduceCtorEq, List.length_cons, List.length_nil, endsOf, wipeM, List.map_cons, List.map_nil, ite_true, ite_false, eq_self_iff_true, false_and, Nat.reduceAdd, decide_true, decide_false]
  refine ⟨⟨by omega, by omega⟩, ?_⟩
  have e2 : (1 + (d2 : Int)).toNat = d2 + 1 := by omega
  rw [e2]
  refine for_rng (fun i μ M' => ∃ ns k n t, μ = [some (.ref st), some (.str ("abcdefghijklmnopqrstuvwxyz" : Str)), some (.str ("_0123456789ABCDEFGHIJKLMNOPQRSTUVWXYZabcdefghijklmnopqrstuvwxyz" : Str)), some (.str fr), some (.ref nm), k, n, t] ∧ DrawSt M' st g c ∧ Fr st g M M' ∧ M' nm = some (.lst (pss ns)) ∧ ns.length = i ∧ ∀ n ∈ ns, NP (cl fr).length n)
    (fun i μ M' L hi h hl => ?_) (fun μ M' h => ?_) ⟨[], none, none, none, rfl, D2, FM, hn2, rfl, by simp⟩
  · obtain ⟨ns, k, n, t, rfl, D3, F3, h3, hlen, hall⟩ := h
    have hil : i ≤ 2 := by omega
    simp only [mSeq, mAsg, mOp, mUn, mVar, mC, mCB, mCons, mNil, mTup, mLst_n, mB, mTru, mNot, mAnd, mOr, mAndV, mOrV, mNotV, mIf, mIfS, mRet, mRetN, mDrop, mNext, mBreak, mCont, mBM, mBM0, mCall, mFor, mLc, mYes, iSeq, iRng, iRng2, iRevRng, gNameM, gSubM, mAug, mIsi, mSl, mPart, mNoPart, mRaise, getS_0, getS_s, isB_bl, truP_t, truP_b, sIx_t, sIx_o, sIx_r, sIx_s, sAdd_ii, sAdd_ss, sAdd_tt, sAdd_rr, sIAdd_ii, sIAdd_ss, sMul_ii, sMul_si, sI2_ii, sLen_t, sLen_o, sLen_r, sLen_s, sInt_i, sAbs_i, sMin2_i, sMax2_i, sStrI_i, sTupOf_t, sTupOf_r, sLstOf_t, sLstOf_r, sAppend_r, sPop_r, sPopAt_r, sInsert_r, sSet_r, sEq_ii, sEq_ss, sNe_ii, sNe_ss, sIn_ss, sIn_st, sIn_sr, sIs_n, sIsNot_n, isNonP_n, isNonP_t, isNonP_s, isNonP_i, isNonP_r, sNeg_i, sSl_r, mDict0_n, mDict1_n, gTupM_t, gConsM_c, gNilM_n, seqP_t, seqP_o, seqP_r, withL_upd, upd_upd, dec_if, true_and, and_true, List.set_cons_zero, List.set_cons_succ, atI_0, atI_1, atI_2, ixN_30, ixN_31, ixN_32, ixN_s0, Option.some.injEq, exists_eq_left', exists_eq_left, Bool.not_true, Bool.not_false, if_true, if_false, Bool.false_eq_true, reduceCtorEq, List.length_cons, List.length_nil, endsOf, wipeM, List.map_cons, List.map_nil, ite_true, ite_false, eq_self_iff_true, false_and, Nat.reduceAdd, decide_true, decide_false]
    refine draw_i D3 (by decide) (by decide) fun d4 M4 hd4 D4 F4 => ?_
    obtain ⟨c4, a4, b4, b4'⟩ := let_ok d4 (by omega)
    simp only [mSeq, mAsg, mOp, mUn, mVar, mC, mCB, mCons, mNil, mTup, mLst_n, mB, mTru, mNot, mAnd, mOr, mAndV, mOrV, mNotV, mIf, mIfS, mRet, mRetN, mDrop, mNext, mBreak, mCont, mBM, mBM0, mCall, mFor, mLc, mYes, iSeq, iRng, iRng2, iRevRng, gNameM, gSubM, mAug, mIsi, mSl, mPart, mNoPart, mRaise, getS_0, getS_s, isB_bl, truP_t, truP_b, sIx_t, sIx_o, sIx_r, sIx_s, sAdd_ii, sAdd_ss, sAdd_tt, sAdd_rr, sIAdd_ii, sIAdd_ss, sMul_ii, sMul_si, sI2_ii, sLen_t, sLen_o, sLen_r, sLen_s, sInt_i, sAbs_i, sMin2_i, sMax2_i, sStrI_i, sTupOf_t, sTupOf_r, sLstOf_t, sLstOf_r, sAppend_r, sPop_r, sPopAt_r, sInsert_r, sSet_r, sEq_ii, sEq_ss, sNe_ii, sNe_ss, sIn_ss, sIn_st, sIn_sr, sIs_n, sIsNot_n, isNonP_n, isNonP_t, isNonP_s, isNonP_i, isNonP_r, sNeg_i, sSl_r, mDict0_n, mDict1_n, gTupM_t, gConsM_c, gNilM_n, seqP_t, seqP_o, seqP_r, withL_upd, upd_upd, dec_if, true_and, and_true, List.set_cons_zero, List.set_cons_succ, atI_0, atI_1, atI_2, ixN_30, ixN_31, ixN_32, ixN_s0, Option.some.injEq, exists_eq_left', exists_eq_left, Bool.not_true, Bool.not_false, if_true, if_false, Bool.false_eq_true, reduceCtorEq, List.length_cons, List.length_nil, endsOf, wipeM, List.map_cons, List.map_nil, ite_true, ite_false, eq_self_iff_true, false_and, Nat.reduceAdd, decide_true, decide_false]
    refine ⟨by decide +kernel, c4, a4, ?_, draw_i D4 (by decide) (by decide) fun d5 M5 hd5 D5 F5 => ?_⟩
    · have := hf.1
      rw [len_cl, len_cl, sz24]; simp only [cl_one, List.length_cons, List.length_nil]; omega
    simp only [mSeq, mAsg, mOp, mUn, mVar, mC, mCB, mCons, mNil, mTup, mLst_n, mB, mTru, mNot, mAnd, mOr, mAndV, mOrV, mNotV, mIf, mIfS, mRet, mRetN, mDrop, mNext, mBreak, mCont, mBM, mBM0, mCall, mFor, mLc, mYes, iSeq, iRng, iRng2, iRevRng, gNameM, gSubM, mAug, mIsi, mSl, mPart, mNoPart, mRaise, getS_0, getS_s, isB_bl, truP_t, truP_b, sIx_t, sIx_o, sIx_r, sIx_s, sAdd_ii, sAdd_ss, sAdd_tt, sAdd_rr, sIAdd_ii, sIAdd_ss, sMul_ii, sMul_si, sI2_ii, sLen_t, sLen_o, sLen_r, sLen_s, sInt_i, sAbs_i, sMin2_i, sMax2_i, sStrI_i, sTupOf_t, sTupOf_r, sLstOf_t, sLstOf_r, sAppend_r, sPop_r, sPopAt_r, sInsert_r, sSet_r, sEq_ii, sEq_ss, sNe_ii, sNe_ss, sIn_ss, sIn_st, sIn_sr, sIs_n, sIsNot_n, isNonP_n, isNonP_t, isNonP_s, isNonP_i, isNonP_r, sNeg_i, sSl_r, mDict0_n, mDict1_n, gTupM_t, gConsM_c, gNilM_n, seqP_t, seqP_o, seqP_r, withL_upd, upd_upd, dec_if, true_and, and_true, List.set_cons_zero, List.set_cons_succ, atI_0, atI_1, atI_2, ixN_30, ixN_31, ixN_32, ixN_s0, Option.some.injEq, exists_eq_left', exists_eq_left, Bool.not_true, Bool.not_false, if_true, if_false, Bool.false_eq_true, reduceCtorEq, List.length_cons, List.length_nil, endsOf, wipeM, List.map_cons, List.map_nil, ite_true, ite_false, eq_self_iff_true, false_and, Nat.reduceAdd, decide_true, decide_false]
    refine ⟨⟨by omega, by omega⟩, ?_⟩
    have e5 : ((d5 : Int)).toNat = d5 := by omega
    rw [e5]
    refine for_rng (fun i2 μ M' => ∃ nm2 t, μ = [some (.ref st), some (.str ("abcdefghijklmnopqrstuvwxyz" : Str)), some (.str ("_0123456789ABCDEFGHIJKLMNOPQRSTUVWXYZabcdefghijklmnopqrstuvwxyz" : Str)), some (.str fr), some (.ref nm), some (.int i), some (.str nm2), t] ∧ DrawSt M' st g c ∧ Fr st g M M' ∧ M' nm = some (.lst (pss ns)) ∧ ∃ w, cl nm2 = cl fr ++ c4 :: w ∧ w.length = i2 ∧ ∀ x ∈ w, wch x = true)
      (fun i2 μ M' L2 hi2 h hl2 => ?_) (fun μ M' h => ?_) ⟨_, t, rfl, D5, (F3.trans F4).trans F5, (F4.trans F5).at on h3, [], by rw [cl_app], rfl, by simp⟩
    · obtain ⟨nm2, t, rfl, D6, F6, h6, w, hw, hwl, hwa⟩ := h
      simp only [mSeq, mAsg, mOp, mUn, mVar, mC, mCB, mCons, mNil, mTup, mLst_n, mB, mTru, mNot, mAnd, mOr, mAndV, mOrV, mNotV, mIf, mIfS, mRet, mRetN, mDrop, mNext, mBreak, mCont, mBM, mBM0, mCall, mFor, mLc, mYes, iSeq, iRng, iRng2, iRevRng, gNameM, gSubM, mAug, mIsi, mSl, mPart, mNoPart, mRaise, getS_0, getS_s, isB_bl, truP_t, truP_b, sIx_t, sIx_o, sIx_r, sIx_s, sAdd_ii, sAdd_ss, sAdd_tt, sAdd_rr, sIAdd_ii, sIAdd_ss, sMul_ii, sMul_si, sI2_ii, sLen_t, sLen_o, sLen_r, sLen_s, sInt_i, sAbs_i, sMin2_i, sMax2_i, sStrI_i, sTupOf_t, sTupOf_r, sLstOf_t, sLstOf_r, sAppend_r, sPop_r, sPopAt_r, sInsert_r, sSet_r, sEq_ii, sEq_ss, sNe_ii, sNe_ss, sIn_ss, sIn_st, sIn_sr, sIs_n, sIsNot_n, isNonP_n, isNonP_t, isNonP_s, isNonP_i, isNonP_r, sNeg_i, sSl_r, mDict0_n, mDict1_n, gTupM_t, gConsM_c, gNilM_n, seqP_t, seqP_o, seqP_r, withL_upd, upd_upd, dec_if, true_and, and_true, List.set_cons_zero, List.set_cons_succ, atI_0, atI_1, atI_2, ixN_30, ixN_31, ixN_32, ixN_s0, Option.some.injEq, exists_eq_left', exists_eq_left, Bool.not_true, Bool.not_false, if_true, if_false, Bool.false_eq_true, reduceCtorEq, List.length_cons, List.length_nil, endsOf, wipeM, List.map_cons, List.map_nil, ite_true, ite_false, eq_self_iff_true, false_and, Nat.reduceAdd, decide_true, decide_false]
      refine draw_i D6 (by decide) (by decide) fun d7 M7 hd7 D7 F7 => ?_
      obtain ⟨c7, a7, b7⟩ := sig_ok d7 (by omega)
      simp only [mSeq, mAsg, mOp, mUn, mVar, mC, mCB, mCons, mNil, mTup, mLst_n, mB, mTru, mNot, mAnd, mOr, mAndV, mOrV, mNotV, mIf, mIfS, mRet, mRetN, mDrop, mNext, mBreak, mCont, mBM, mBM0, mCall, mFor, mLc, mYes, iSeq, iRng, iRng2, iRevRng, gNameM, gSubM, mAug, mIsi, mSl, mPart, mNoPart, mRaise, getS_0, getS_s, isB_bl, truP_t, truP_b, sIx_t, sIx_o, sIx_r, sIx_s, sAdd_ii, sAdd_ss, sAdd_tt, sAdd_rr, sIAdd_ii, sIAdd_ss, sMul_ii, sMul_si, sI2_ii, sLen_t, sLen_o, sLen_r, sLen_s, sInt_i, sAbs_i, sMin2_i, sMax2_i, sStrI_i, sTupOf_t, sTupOf_r, sLstOf_t, sLstOf_r, sAppend_r, sPop_r, sPopAt_r, sInsert_r, sSet_r, sEq_ii, sEq_ss, sNe_ii, sNe_ss, sIn_ss, sIn_st, sIn_sr, sIs_n, sIsNot_n, isNonP_n, isNonP_t, isNonP_s, isNonP_i, isNonP_r, sNeg_i, sSl_r, mDict0_n, mDict1_n, gTupM_t, gConsM_c, gNilM_n, seqP_t, seqP_o, seqP_r, withL_upd, upd_upd, dec_if, true_and, and_true, List.set_cons_zero, List.set_cons_succ, atI_0, atI_1, atI_2, ixN_30, ixN_31, ixN_32, ixN_s0, Option.some.injEq, exists_eq_left', exists_eq_left, Bool.not_true, Bool.not_false, if_true, if_false, Bool.false_eq_true, reduceCtorEq, List.length_cons, List.length_nil, endsOf, wipeM, List.map_cons, List.map_nil, ite_true, ite_false, eq_self_iff_true, false_and, Nat.reduceAdd, decide_true, decide_false]
      have := hf.1
      refine ⟨by decide +kernel, c7, a7, ?_, hl2 _ _ ⟨_, _, rfl, D7, F6.trans F7, F7.at on h6, w ++ [c7], ?_, by simp [hwl], fun x hx => ?_⟩⟩
      · rw [len_cl, len_cl, sz24, hw]; simp only [cl_one, List.length_cons, List.length_nil, List.length_append]; omega
      · rw [cl_app, hw]; simp [cl_one]
      · rcases List.mem_append.mp hx with hx | hx
        · exact hwa x hx
        · cases List.mem_singleton.mp hx; exact b7
    · obtain ⟨nm2, t, rfl, D6, F6, h6, w, hw, hwl, hwa⟩ := h
      have f1 := hf.1
      have hd : ∃ c r, cl nm2 = c :: r ∧ 97 ≤ c ∧ c ≤ 122 := by
        rw [hw]
        cases e : cl fr with
        | nil => exact ⟨_, _, rfl, b4, b4'⟩
        | cons a r => exact ⟨_, _, rfl, hf.2 a (by rw [e]; simp)⟩
      have ch : ∀ c ∈ cl nm2, wch c = true := by
        rw [hw]
        intro x hx
        rcases List.mem_append.mp hx with hx | hx
        · exact low_wch (hf.2 x hx).1 (hf.2 x hx).2
        · rcases List.mem_cons.mp hx with hx | hx
          · subst hx; exact low_wch b4 b4'
          · exact hwa x hx
      have hlen2 : (cl nm2).length = (cl fr).length + 1 + w.length := by rw [hw]; simp; omega
      have app : ∀ (nm3 : Str), NP (cl fr).length nm3 → ∀ μ', μ' = [some (.ref st), some (.str ("abcdefghijklmnopqrstuvwxyz" : Str)), some (.str ("_0123456789ABCDEFGHIJKLMNOPQRSTUVWXYZabcdefghijklmnopqrstuvwxyz" : Str)), some (.str fr), some (.ref nm), some (.int i), some (.str nm3), t] → L μ' (updM M' nm (.lst (pss ns ++ [.str nm3]))) := fun nm3 h3 μ' e => by
        refine hl _ _ ⟨ns ++ [nm3], _, _, _, e, D6.mut on, F6.mut nM, by rw [updM_same]; simp [pss], by simp [hlen], fun x hx => ?_⟩
        rcases List.mem_append.mp hx with hx | hx
        · exact hall x hx
        · cases List.mem_singleton.mp hx; exact h3
      have szl : (pss ns).length < sizeLine := by rw [sz24]; simp [pss]; omega
      simp only [mSeq, mAsg, mOp, mUn, mVar, mC, mCB, mCons, mNil, mTup, mLst_n, mB, mTru, mNot, mAnd, mOr, mAndV, mOrV, mNotV, mIf, mIfS, mRet, mRetN, mDrop, mNext, mBreak, mCont, mBM, mBM0, mCall, mFor, mLc, mYes, iSeq, iRng, iRng2, iRevRng, gNameM, gSubM, mAug, mIsi, mSl, mPart, mNoPart, mRaise, getS_0, getS_s, isB_bl, truP_t, truP_b, sIx_t, sIx_o, sIx_r, sIx_s, sAdd_ii, sAdd_ss, sAdd_tt, sAdd_rr, sIAdd_ii, sIAdd_ss, sMul_ii, sMul_si, sI2_ii, sLen_t, sLen_o, sLen_r, sLen_s, sInt_i, sAbs_i, sMin2_i, sMax2_i, sStrI_i, sTupOf_t, sTupOf_r, sLstOf_t, sLstOf_r, sAppend_r, sPop_r, sPopAt_r, sInsert_r, sSet_r, sEq_ii, sEq_ss, sNe_ii, sNe_ss, sIn_ss, sIn_st, sIn_sr, sIs_n, sIsNot_n, isNonP_n, isNonP_t, isNonP_s, isNonP_i, isNonP_r, sNeg_i, sSl_r, mDict0_n, mDict1_n, gTupM_t, gConsM_c, gNilM_n, seqP_t, seqP_o, seqP_r, withL_upd, upd_upd, dec_if, true_and, and_true, List.set_cons_zero, List.set_cons_succ, atI_0, atI_1, atI_2, ixN_30, ixN_31, ixN_32, ixN_s0, Option.some.injEq, exists_eq_left', exists_eq_left, Bool.not_true, Bool.not_false, if_true, if_false, Bool.false_eq_true, reduceCtorEq, List.length_cons, List.length_nil, endsOf, wipeM, List.map_cons, List.map_nil, ite_true, ite_false, eq_self_iff_true, false_and, Nat.reduceAdd, decide_true, decide_false, withL_eq h6, tyM_l h6]
      refine ⟨⟨rfl, flat_strs⟩, ?_⟩
      split
      · have hk : ((i : Int).natAbs).log2 < 1920 := by
          have : i = 0 ∨ i = 1 ∨ i = 2 := by omega
          rcases this with rfl | rfl | rfl <;> decide
        have hs : ∃ dd, cl ((toString (i : Int) : String) : Str) = [dd] ∧ 48 ≤ dd ∧ dd ≤ 50 := by
          have : i = 0 ∨ i = 1 ∨ i = 2 := by omega
          rcases this with rfl | rfl | rfl
          · exact ⟨48, by decide +kernel, by decide, by decide⟩
          · exact ⟨49, by decide +kernel, by decide, by decide⟩
          · exact ⟨50, by decide +kernel, by decide, by decide⟩
        obtain ⟨dd, hdd, k1, k2⟩ := hs
        have hu : cl ("_" : Str) = [95] := by decide +kernel
        refine ⟨?_, hk, ?_, szl, app _ ⟨?_, ?_, ?_, ?_, .inr ⟨dd, ?_, k1, k2⟩⟩ _ rfl⟩
        · rw [len_cl, len_cl, sz24, hlen2, hu]; simp only [List.length_cons, List.length_nil]; omega
        · rw [len_cl, len_cl, cl_app, hu, hdd, sz24]; simp only [List.length_cons, List.length_nil, List.length_append]; omega
        · obtain ⟨c, r, e, b⟩ := hd
          rw [cl_app, cl_app, e]
          exact ⟨c, _, rfl, b⟩
        · rw [cl_app, cl_app, hu, hdd]
          intro x hx
          rcases List.mem_append.mp hx with hx | hx
          · rcases List.mem_append.mp hx with hx | hx
            · exact ch x hx
            · cases List.mem_singleton.mp hx; decide
          · cases List.mem_singleton.mp hx
            simp [wch, k1]; omega
        · rw [cl_app, cl_app, hu, hdd]; simp only [List.length_cons, List.length_nil, List.length_append]; omega
        · rw [cl_app, cl_app, hu, hdd]; simp only [List.length_cons, List.length_nil, List.length_append]; omega
        · rw [cl_app, hdd]; simp
      · exact ⟨szl, app _ ⟨hd, ch, by omega, by omega, .inl (by omega)⟩ _ rfl⟩
  · obtain ⟨ns, k, n, t, rfl, D3, F3, h3, hlen, hall⟩ := h
    simp only [mSeq, mAsg, mOp, mUn, mVar, mC, mCB, mCons, mNil, mTup, mLst_n, mB, mTru, mNot, mAnd, mOr, mAndV, mOrV, mNotV, mIf, mIfS, mRet, mRetN, mDrop, mNext, mBreak, mCont, mBM, mBM0, mCall, mFor, mLc, mYes, iSeq, iRng, iRng2, iRevRng, gNameM, gSubM, mAug, mIsi, mSl, mPart, mNoPart, mRaise, getS_0, getS_s, isB_bl, truP_t, truP_b, sIx_t, sIx_o, sIx_r, sIx_s, sAdd_ii, sAdd_ss, sAdd_tt, sAdd_rr, sIAdd_ii, sIAdd_ss, sMul_ii, sMul_si, sI2_ii, sLen_t, sLen_o, sLen_r, sLen_s, sInt_i, sAbs_i, sMin2_i, sMax2_i, sStrI_i, sTupOf_t, sTupOf_r, sLstOf_t, sLstOf_r, sAppend_r, sPop_r, sPopAt_r, sInsert_r, sSet_r, sEq_ii, sEq_ss, sNe_ii, sNe_ss, sIn_ss, sIn_st, sIn_sr, sIs_n, sIsNot_n, isNonP_n, isNonP_t, isNonP_s, isNonP_i, isNonP_r, sNeg_i, sSl_r, mDict0_n, mDict1_n, gTupM_t, gConsM_c, gNilM_n, seqP_t, seqP_o, seqP_r, withL_upd, upd_upd, dec_if, true_and, and_true, List.set_cons_zero, List.set_cons_succ, atI_0, atI_1, atI_2, ixN_30, ixN_31, ixN_32, ixN_s0, Option.some.injEq, exists_eq_left', exists_eq_left, Bool.not_true, Bool.not_false, if_true, if_false, Bool.false_eq_true, reduceCtorEq, List.length_cons, List.length_nil, endsOf, wipeM, List.map_cons, List.map_nil, ite_true, ite_false, eq_self_iff_true, false_and, Nat.reduceAdd, decide_true, decide_false]
    exact q nm ns _ M' D3 F3 on nM h3 (by intro z; subst z; simp at hlen) (by omega) hall
end K01
end PL
end L2
set_option maxRecDepth 100000
set_option maxHeartbeats 2000000
namespace L2
namespace PL
namespace K01
open PySem PySem.Spec PyProof.Rows

def WC (a s : Str) (ns : List Str) : Prop := s ∉ ns ∧ Txt.upper a ∉ ns ∧ ("" : Str) ∉ ns ∧ a ++ (" " : Str) ∉ ns
def sp__law_wrong : MSp := fun xs M Q _ => ∃ a s, xs = [.str a, .str s] ∧ a.length ≤ 60 ∧ ∀ w l M', Ext M M' → M w = none → M' w = some (.lst l) → l.length = 25 → (∀ x ∈ l, liveP M' x ∧ ∀ ns, WC a s ns → goodT ns x = false) → Q (.ref w) M'
/-- _law_wrong: slots 0 name, 1 strange, 2 trees -/
def N__law_wrong : List Str := ["name", "strange", "trees"]
def m__law_wrong : MS :=
    (mSeq (mAsg (mLst (mCons (mC .non) (mCons (mC (.int 7)) (mCons (mC (.bl true)) (mCons (mVar 0) (mCons (mTup mNil) (mCons (mTup (mCons (mVar 0) mNil)) (mCons (mTup (mCons (mVar 0) (mCons (mTup mNil) (mCons (mTup mNil) mNil)))) (mCons (mLst (mCons (mVar 0) (mCons (mTup mNil) mNil))) (mCons (mTup (mCons (mVar 0) (mCons (mLst mNil) mNil))) (mCons (mTup (mCons (mVar 0) (mCons (mC .non) mNil))) (mCons (mTup (mCons (mVar 0) (mCons (mVar 0) mNil))) (mCons (mTup (mCons (mVar 1) (mCons (mTup mNil) mNil))) mNil))))))))))))) (gNameM 2))
    (mSeq (mAsg (mOp sAdd (mVar 2) (mLst (mCons (mTup (mCons (mC .non) (mCons (mTup mNil) mNil))) (mCons (mTup (mCons (mC (.int 7)) (mCons (mTup mNil) mNil))) (mCons (mTup (mCons (mTup (mCons (mVar 0) mNil)) (mCons (mTup mNil) mNil))) (mCons (mTup (mCons (mTup mNil) (mCons (mVar 0) mNil))) (mCons (mDict1 (mVar 0) (mTup mNil)) (mCons (mTup (mCons (mVar 0) (mCons (mTup (mCons (mTup (mCons (mVar 1) (mCons (mTup mNil) mNil))) mNil)) mNil))) (mCons (mC (.str "ab")) (mCons (mTup (mCons (mVar 0) (mCons mDict0 mNil))) mNil)))))))))) (gNameM 2))
    (mRet (mOp sAdd (mVar 2) (mLst (mCons (mTup (mCons (mVar 0) (mCons (mTup (mCons (mVar 0) (mCons (mTup mNil) mNil))) mNil))) (mCons (mTup (mCons (mVar 0) (mCons (mTup (mCons (mTup mNil) mNil)) mNil))) (mCons (mTup (mCons (mBM0 "str" sUpper (mVar 0)) (mCons (mTup mNil) mNil))) (mCons (mTup (mCons (mC (.str "")) (mCons (mTup mNil) mNil))) (mCons (mTup (mCons (mOp sAdd (mVar 0) (mC (.str " "))) (mCons (mTup mNil) mNil))) mNil))))))))))

theorem d_wrong : ∀ xs M Q E, sp__law_wrong xs M Q E → m__law_wrong (endsOf Q E) (startM N__law_wrong xs) M := by
  rintro _ M Q E ⟨a, s, rfl, ha, q⟩
  show m__law_wrong (endsOf Q E) [some (.str a), some (.str s), none] M
  unfold m__law_wrong
  generalize hab : ("ab" : Str) = sab
  generalize he : ("" : Str) = se
  generalize hsp : (" " : Str) = ssp
  have lsp : ssp.length ≤ 1 := by rw [← hsp]; decide +kernel
  refine seq_i fun N1 hN1 => ?_
  simp only [mSeq, mAsg, mOp, mUn, mVar, mC, mCB, mCons, mNil, mTup, mLst_n, mB, mTru, mNot, mAnd, mOr, mAndV, mOrV, mNotV, mIf, mIfS, mRet, mRetN, mDrop, mNext, mBreak, mCont, mBM, mBM0, mCall, mFor, mLc, mYes, iSeq, iRng, iRng2, iRevRng, gNameM, gSubM, mAug, mIsi, mSl, mPart, mNoPart, mRaise, getS_0, getS_s, isB_bl, truP_t, truP_b, sIx_t, sIx_o, sIx_r, sIx_s, sAdd_ii, sAdd_ss, sAdd_tt, sAdd_rr, sIAdd_ii, sIAdd_ss, sMul_ii, sMul_si, sI2_ii, sLen_t, sLen_o, sLen_r, sLen_s, sInt_i, sAbs_i, sMin2_i, sMax2_i, sStrI_i, sTupOf_t, sTupOf_r, sLstOf_t, sLstOf_r, sAppend_r, sPop_r, sPopAt_r, sInsert_r, sSet_r, sEq_ii, sEq_ss, sNe_ii, sNe_ss, sIn_ss, sIn_st, sIn_sr, sIs_n, sIsNot_n, isNonP_n, isNonP_t, isNonP_s, isNonP_i, isNonP_r, sNeg_i, sSl_r, mDict0_n, mDict1_n, gTupM_t, gConsM_c, gNilM_n, seqP_t, seqP_o, seqP_r, withL_upd, upd_upd, dec_if, true_and, and_true, List.set_cons_zero, List.set_cons_succ, atI_0, atI_1, atI_2, ixN_30, ixN_31, ixN_32, ixN_s0, Option.some.injEq, exists_eq_left', exists_eq_left, Bool.not_true, Bool.not_false, if_true, if_false, Bool.false_eq_true, reduceCtorEq, List.length_cons, List.length_nil, endsOf, wipeM, List.map_cons, List.map_nil, ite_true, ite_false, eq_self_iff_true, false_and, Nat.reduceAdd, decide_true, decide_false]
  refine ⟨by decide, by decide, by decide, by decide, by decide, by decide, by decide, newL_i fun p1 M1 n1 h1 x1 => ?_⟩
  refine ⟨by decide, newL_i fun p2 M2 n2 h2 x2 => ⟨by decide, by decide, by decide, by decide, by decide, by decide, newL_i fun p3 M3 n3 h3 x3 => hN1 _ _ ?_⟩⟩
  clear hN1 N1
  refine seq_i fun N1 hN1 => ?_
  simp only [mSeq, mAsg, mOp, mUn, mVar, mC, mCB, mCons, mNil, mTup, mLst_n, mB, mTru, mNot, mAnd, mOr, mAndV, mOrV, mNotV, mIf, mIfS, mRet, mRetN, mDrop, mNext, mBreak, mCont, mBM, mBM0, mCall, mFor, mLc, mYes, iSeq, iRng, iRng2, iRevRng, gNameM, gSubM, mAug, mIsi, mSl, mPart, mNoPart, mRaise, getS_0, getS_s, isB_bl, truP_t, truP_b, sIx_t, sIx_o, sIx_r, sIx_s, sAdd_ii, sAdd_ss, sAdd_tt, sAdd_rr, sIAdd_ii, sIAdd_ss, sMul_ii, sMul_si, sI2_ii, sLen_t, sLen_o, sLen_r, sLen_s, sInt_i, sAbs_i, sMin2_i, sMax2_i, sStrI_i, sTupOf_t, sTupOf_r, sLstOf_t, sLstOf_r, sAppend_r, sPop_r, sPopAt_r, sInsert_r, sSet_r, sEq_ii, sEq_ss, sNe_ii, sNe_ss, sIn_ss, sIn_st, sIn_sr, sIs_n, sIsNot_n, isNonP_n, isNonP_t, isNonP_s, isNonP_i, isNonP_r, sNeg_i, sSl_r, mDict0_n, mDict1_n, gTupM_t, gConsM_c, gNilM_n, seqP_t, seqP_o, seqP_r, withL_upd, upd_upd, dec_if, true_and, and_true, List.set_cons_zero, List.set_cons_succ, atI_0, atI_1, atI_2, ixN_30, ixN_31, ixN_32, ixN_s0, Option.some.injEq, exists_eq_left', exists_eq_left, Bool.not_true, Bool.not_false, if_true, if_false, Bool.false_eq_true, reduceCtorEq, List.length_cons, List.length_nil, endsOf, wipeM, List.map_cons, List.map_nil, ite_true, ite_false, eq_self_iff_true, false_and, Nat.reduceAdd, decide_true, decide_false]
  refine ⟨by decide, by decide, by decide, by decide, by decide, by decide, by decide, by decide, by decide, by decide, newD_i fun p4 M4 n4 h4 x4 => ?_⟩
  refine ⟨by decide, by decide, by decide, by decide, newD_i fun p5 M5 n5 h5 x5 => ⟨by decide, by decide, newL_i fun p6 M6 n6 h6 x6 => ?_⟩⟩
  refine withL_of (x6 _ _ (x5 _ _ (x4 _ _ h3))) (withL_of h6 ⟨by simp [sz24], newL_i fun p7 M7 n7 h7 x7 => hN1 _ _ ?_⟩)
  clear hN1 N1
  simp only [mSeq, mAsg, mOp, mUn, mVar, mC, mCB, mCons, mNil, mTup, mLst_n, mB, mTru, mNot, mAnd, mOr, mAndV, mOrV, mNotV, mIf, mIfS, mRet, mRetN, mDrop, mNext, mBreak, mCont, mBM, mBM0, mCall, mFor, mLc, mYes, iSeq, iRng, iRng2, iRevRng, gNameM, gSubM, mAug, mIsi, mSl, mPart, mNoPart, mRaise, getS_0, getS_s, isB_bl, truP_t, truP_b, sIx_t, sIx_o, sIx_r, sIx_s, sAdd_ii, sAdd_ss, sAdd_tt, sAdd_rr, sIAdd_ii, sIAdd_ss, sMul_ii, sMul_si, sI2_ii, sLen_t, sLen_o, sLen_r, sLen_s, sInt_i, sAbs_i, sMin2_i, sMax2_i, sStrI_i, sTupOf_t, sTupOf_r, sLstOf_t, sLstOf_r, sAppend_r, sPop_r, sPopAt_r, sInsert_r, sSet_r, sEq_ii, sEq_ss, sNe_ii, sNe_ss, sIn_ss, sIn_st, sIn_sr, sIs_n, sIsNot_n, isNonP_n, isNonP_t, isNonP_s, isNonP_i, isNonP_r, sNeg_i, sSl_r, mDict0_n, mDict1_n, gTupM_t, gConsM_c, gNilM_n, seqP_t, seqP_o, seqP_r, withL_upd, upd_upd, dec_if, true_and, and_true, List.set_cons_zero, List.set_cons_succ, atI_0, atI_1, atI_2, ixN_30, ixN_31, ixN_32, ixN_s0, Option.some.injEq, exists_eq_left', exists_eq_left, Bool.not_true, Bool.not_false, if_true, if_false, Bool.false_eq_true, reduceCtorEq, List.length_cons, List.length_nil, endsOf, wipeM, List.map_cons, List.map_nil, ite_true, ite_false, eq_self_iff_true, false_and, Nat.reduceAdd, decide_true, decide_false]
  repeat (refine ⟨by decide, ?_⟩)
  refine ⟨rfl, sUpper_s.mpr ⟨by omega, fun up hup => ?_⟩⟩
  repeat (refine ⟨by decide, ?_⟩)
  refine ⟨?_, ?_⟩
  · rw [sz24]; omega
  repeat (refine ⟨by decide, ?_⟩)
  refine newL_i fun p8 M8 n8 h8 x8 => ?_
  refine withL_of (x8 _ _ h7) (withL_of h8 ⟨by simp [sz24], newL_i fun w M' n9 h9 x9 => ?_⟩)
  have xx := x1.trans (x2.trans (x3.trans (x4.trans (x5.trans (x6.trans (x7.trans (x8.trans x9)))))))
  have r1 : M' p1 ≠ none := by rw [x9 _ _ (x8 _ _ (x7 _ _ (x6 _ _ (x5 _ _ (x4 _ _ (x3 _ _ (x2 _ _ h1)))))))]; exact nofun
  have r2 : M' p2 ≠ none := by rw [x9 _ _ (x8 _ _ (x7 _ _ (x6 _ _ (x5 _ _ (x4 _ _ (x3 _ _ h2))))))]; exact nofun
  have r4 : M' p4 ≠ none := by rw [x9 _ _ (x8 _ _ (x7 _ _ (x6 _ _ (x5 _ _ h4))))]; exact nofun
  have r5 : M' p5 ≠ none := by rw [x9 _ _ (x8 _ _ (x7 _ _ (x6 _ _ h5)))]; exact nofun
  refine q w _ M' xx ((x1.trans (x2.trans (x3.trans (x4.trans (x5.trans (x6.trans (x7.trans x8))))))).none n9) h9 rfl ?_
  intro x hx
  simp only [List.append_assoc, List.cons_append, List.nil_append, List.mem_cons, List.not_mem_nil, or_false] at hx
  refine ⟨?_, fun ns ⟨c1, c2, c3, c4⟩ => ?_⟩
  · rcases hx with rfl | rfl | rfl | rfl | rfl | rfl | rfl | rfl | rfl | rfl | rfl | rfl | rfl | rfl | rfl | rfl | rfl | rfl | rfl | rfl | rfl | rfl | rfl | rfl | rfl <;> simp [liveP, liveL, r1, r2, r4, r5]
  · rw [hup] at c2
    rw [he] at c3
    rw [hsp] at c4
    rcases hx with rfl | rfl | rfl | rfl | rfl | rfl | rfl | rfl | rfl | rfl | rfl | rfl | rfl | rfl | rfl | rfl | rfl | rfl | rfl | rfl | rfl | rfl | rfl | rfl | rfl <;> simp [goodT, goodR, c1, c2, c3, c4]
def sp_check_forest (xe : XEnv) : MSp := fun xs M Q E => ∃ v ns, xs = [v, .tup (pss ns)] ∧ liveP M v ∧ ∀ M', Ext M M' → if isF ns v = true then Q .non M' else E ⟨xe.cl "BadForest", none⟩ M'
/-- check_forest: slots 0 forest, 1 names -/
def N_check_forest : List Str := ["forest", "names"]
def m_check_forest (xe : XEnv) : MS :=
    (mIfS (mNot (mTru (mCall sp_is_forest (mCons (mVar 0) (mCons (mVar 1) mNil))))) (mRaise (xe.cl "BadForest")) mNext)

theorem d_check (xe : XEnv) : ∀ xs M Q E, sp_check_forest xe xs M Q E → m_check_forest xe (endsOf Q E) (startM N_check_forest xs) M := by
  rintro _ M Q E ⟨v, ns, rfl, lv, q⟩
  show m_check_forest xe (endsOf Q E) [some v, some (.tup (pss ns))] M
  simp only [m_check_forest, mSeq, mAsg, mOp, mUn, mVar, mC, mCB, mCons, mNil, mTup, mLst_n, mB, mTru, mNot, mAnd, mOr, mAndV, mOrV, mNotV, mIf, mIfS, mRet, mRetN, mDrop, mNext, mBreak, mCont, mBM, mBM0, mCall, mFor, mLc, mYes, iSeq, iRng, iRng2, iRevRng, gNameM, gSubM, mAug, mIsi, mSl, mPart, mNoPart, mRaise, getS_0, getS_s, isB_bl, truP_t, truP_b, sIx_t, sIx_o, sIx_r, sIx_s, sAdd_ii, sAdd_ss, sAdd_tt, sAdd_rr, sIAdd_ii, sIAdd_ss, sMul_ii, sMul_si, sI2_ii, sLen_t, sLen_o, sLen_r, sLen_s, sInt_i, sAbs_i, sMin2_i, sMax2_i, sStrI_i, sTupOf_t, sTupOf_r, sLstOf_t, sLstOf_r, sAppend_r, sPop_r, sPopAt_r, sInsert_r, sSet_r, sEq_ii, sEq_ss, sNe_ii, sNe_ss, sIn_ss, sIn_st, sIn_sr, sIs_n, sIsNot_n, isNonP_n, isNonP_t, isNonP_s, isNonP_i, isNonP_r, sNeg_i, sSl_r, mDict0_n, mDict1_n, gTupM_t, gConsM_c, gNilM_n, seqP_t, seqP_o, seqP_r, withL_upd, upd_upd, dec_if, true_and, and_true, List.set_cons_zero, List.set_cons_succ, atI_0, atI_1, atI_2, ixN_30, ixN_31, ixN_32, ixN_s0, Option.some.injEq, exists_eq_left', exists_eq_left, Bool.not_true, Bool.not_false, if_true, if_false, Bool.false_eq_true, reduceCtorEq, List.length_cons, List.length_nil, endsOf, wipeM, List.map_cons, List.map_nil, ite_true, ite_false, eq_self_iff_true, false_and, Nat.reduceAdd, decide_true, decide_false]
  refine ⟨v, ns, rfl, lv, fun M' e => ?_⟩
  have := q M' e
  simp only [mSeq, mAsg, mOp, mUn, mVar, mC, mCB, mCons, mNil, mTup, mLst_n, mB, mTru, mNot, mAnd, mOr, mAndV, mOrV, mNotV, mIf, mIfS, mRet, mRetN, mDrop, mNext, mBreak, mCont, mBM, mBM0, mCall, mFor, mLc, mYes, iSeq, iRng, iRng2, iRevRng, gNameM, gSubM, mAug, mIsi, mSl, mPart, mNoPart, mRaise, getS_0, getS_s, isB_bl, truP_t, truP_b, sIx_t, sIx_o, sIx_r, sIx_s, sAdd_ii, sAdd_ss, sAdd_tt, sAdd_rr, sIAdd_ii, sIAdd_ss, sMul_ii, sMul_si, sI2_ii, sLen_t, sLen_o, sLen_r, sLen_s, sInt_i, sAbs_i, sMin2_i, sMax2_i, sStrI_i, sTupOf_t, sTupOf_r, sLstOf_t, sLstOf_r, sAppend_r, sPop_r, sPopAt_r, sInsert_r, sSet_r, sEq_ii, sEq_ss, sNe_ii, sNe_ss, sIn_ss, sIn_st, sIn_sr, sIs_n, sIsNot_n, isNonP_n, isNonP_t, isNonP_s, isNonP_i, isNonP_r, sNeg_i, sSl_r, mDict0_n, mDict1_n, gTupM_t, gConsM_c, gNilM_n, seqP_t, seqP_o, seqP_r, withL_upd, upd_upd, dec_if, true_and, and_true, List.set_cons_zero, List.set_cons_succ, atI_0, atI_1, atI_2, ixN_30, ixN_31, ixN_32, ixN_s0, Option.some.injEq, exists_eq_left', exists_eq_left, Bool.not_true, Bool.not_false, if_true, if_false, Bool.false_eq_true, reduceCtorEq, List.length_cons, List.length_nil, endsOf, wipeM, List.map_cons, List.map_nil, ite_true, ite_false, eq_self_iff_true, false_and, Nat.reduceAdd, decide_true, decide_false]
  cases z : isF ns v <;> rw [z] at this <;> simpa using this
/-- what is under what, of the exceptions that this law names -/
structure XF (xe : XEnv) : Prop where
  isa : xe.isa "BadForest" (xe.cl "BadForest") true
  k1 : xe.kit "BadText" (xe.cl "BadForest") false
  k2 : xe.kit "TooMany" (xe.cl "BadForest") false
def sp__law_refused (xe : XEnv) : MSp := fun xs M Q E => ∃ v ns, xs = [v, .tup (pss ns)] ∧ liveP M v ∧ XF xe ∧ ∀ M', Ext M M' → Q (.bl (!isF ns v)) M'
/-- _law_refused: slots 0 forest, 1 names, 2 e -/
def N__law_refused : List Str := ["forest", "names", "e"]
def m__law_refused (xe : XEnv) : MS :=
    (mSeq (mTryAs (xe.isa "BadForest") 2 (mDrop (mCall (sp_check_forest xe) (mCons (mVar 0) (mCons (mVar 1) mNil)))) (fun a e => (mRet (mAndV (mNotV (mExcIs xe a e 2 "BadText")) (mNotV (mExcIs xe a e 2 "TooMany"))))))
    (mRet (mC (.bl false))))

theorem d_refused (xe : XEnv) : ∀ xs M Q E, sp__law_refused xe xs M Q E → m__law_refused xe (endsOf Q E) (startM N__law_refused xs) M := by
  rintro _ M Q E ⟨v, ns, rfl, lv, xf, q⟩
  show m__law_refused xe (endsOf Q E) [some v, some (.tup (pss ns)), none] M
  simp only [m__law_refused, mSeq, mAsg, mOp, mUn, mVar, mC, mCB, mCons, mNil, mTup, mLst_n, mB, mTru, mNot, mAnd, mOr, mAndV, mOrV, mNotV, mIf, mIfS, mRet, mRetN, mDrop, mNext, mBreak, mCont, mBM, mBM0, mCall, mFor, mLc, mYes, iSeq, iRng, iRng2, iRevRng, gNameM, gSubM, mAug, mIsi, mSl, mPart, mNoPart, mRaise, getS_0, getS_s, isB_bl, truP_t, truP_b, sIx_t, sIx_o, sIx_r, sIx_s, sAdd_ii, sAdd_ss, sAdd_tt, sAdd_rr, sIAdd_ii, sIAdd_ss, sMul_ii, sMul_si, sI2_ii, sLen_t, sLen_o, sLen_r, sLen_s, sInt_i, sAbs_i, sMin2_i, sMax2_i, sStrI_i, sTupOf_t, sTupOf_r, sLstOf_t, sLstOf_r, sAppend_r, sPop_r, sPopAt_r, sInsert_r, sSet_r, sEq_ii, sEq_ss, sNe_ii, sNe_ss, sIn_ss, sIn_st, sIn_sr, sIs_n, sIsNot_n, isNonP_n, isNonP_t, isNonP_s, isNonP_i, isNonP_r, sNeg_i, sSl_r, mDict0_n, mDict1_n, gTupM_t, gConsM_c, gNilM_n, seqP_t, seqP_o, seqP_r, withL_upd, upd_upd, dec_if, true_and, and_true, List.set_cons_zero, List.set_cons_succ, atI_0, atI_1, atI_2, ixN_30, ixN_31, ixN_32, ixN_s0, Option.some.injEq, exists_eq_left', exists_eq_left, Bool.not_true, Bool.not_false, if_true, if_false, Bool.false_eq_true, reduceCtorEq, List.length_cons, List.length_nil, endsOf, wipeM, List.map_cons, List.map_nil, ite_true, ite_false, eq_self_iff_true, false_and, Nat.reduceAdd, decide_true, decide_false, mTryAs]
  refine ⟨v, ns, rfl, lv, fun M' e => ?_⟩
  have := q M' e
  cases z : isF ns v with
  | true =>
    rw [z] at this
    simpa using this
  | false =>
    rw [z] at this
    rw [if_neg (by simp)]
    refine ⟨true, xf.isa, fun _ a => ?_, fun h => absurd h (by decide)⟩
    simp only [mSeq, mAsg, mOp, mUn, mVar, mC, mCB, mCons, mNil, mTup, mLst_n, mB, mTru, mNot, mAnd, mOr, mAndV, mOrV, mNotV, mIf, mIfS, mRet, mRetN, mDrop, mNext, mBreak, mCont, mBM, mBM0, mCall, mFor, mLc, mYes, iSeq, iRng, iRng2, iRevRng, gNameM, gSubM, mAug, mIsi, mSl, mPart, mNoPart, mRaise, getS_0, getS_s, isB_bl, truP_t, truP_b, sIx_t, sIx_o, sIx_r, sIx_s, sAdd_ii, sAdd_ss, sAdd_tt, sAdd_rr, sIAdd_ii, sIAdd_ss, sMul_ii, sMul_si, sI2_ii, sLen_t, sLen_o, sLen_r, sLen_s, sInt_i, sAbs_i, sMin2_i, sMax2_i, sStrI_i, sTupOf_t, sTupOf_r, sLstOf_t, sLstOf_r, sAppend_r, sPop_r, sPopAt_r, sInsert_r, sSet_r, sEq_ii, sEq_ss, sNe_ii, sNe_ss, sIn_ss, sIn_st, sIn_sr, sIs_n, sIsNot_n, isNonP_n, isNonP_t, isNonP_s, isNonP_i, isNonP_r, sNeg_i, sSl_r, mDict0_n, mDict1_n, gTupM_t, gConsM_c, gNilM_n, seqP_t, seqP_o, seqP_r, withL_upd, upd_upd, dec_if, true_and, and_true, List.set_cons_zero, List.set_cons_succ, atI_0, atI_1, atI_2, ixN_30, ixN_31, ixN_32, ixN_s0, Option.some.injEq, exists_eq_left', exists_eq_left, Bool.not_true, Bool.not_false, if_true, if_false, Bool.false_eq_true, reduceCtorEq, List.length_cons, List.length_nil, endsOf, wipeM, List.map_cons, List.map_nil, ite_true, ite_false, eq_self_iff_true, false_and, Nat.reduceAdd, decide_true, decide_false, mExcIs]
    exact ⟨false, xf.k1, false, xf.k2, this⟩
def dbl (n : Str) : Nat → PV
  | 0 => .tup []
  | k + 1 => .tup [.tup [.str n, dbl n k], .tup [.str n, dbl n k]]
def sp__law_doubled : MSp := fun xs M Q E => ∃ n d, xs = [.str n, .int (d : Nat)] ∧ d ≤ 20 ∧ Q (dbl n d) M
/-- _law_doubled: slots 0 name, 1 deep, 2 forest, 3 k -/
def N__law_doubled : List Str := ["name", "deep", "forest", "k"]
def m__law_doubled : MS :=
    (mSeq (mAsg (mTup mNil) (gNameM 2))
    (mSeq (mFor (iRng (mCons (mVar 1) mNil)) (gNameM 3)
    (mAsg (mTup (mCons (mTup (mCons (mVar 0) (mCons (mVar 2) mNil))) (mCons (mTup (mCons (mVar 0) (mCons (mVar 2) mNil))) mNil))) (gNameM 2)))
    (mRet (mVar 2))))

theorem d_doubled : ∀ xs M Q E, sp__law_doubled xs M Q E → m__law_doubled (endsOf Q E) (startM N__law_doubled xs) M := by
  rintro _ M Q E ⟨n, d, rfl, hd, q⟩
  show m__law_doubled (endsOf Q E) [some (.str n), some (.int d), none, none] M
  simp only [m__law_doubled, mSeq, mAsg, mOp, mUn, mVar, mC, mCB, mCons, mNil, mTup, mLst_n, mB, mTru, mNot, mAnd, mOr, mAndV, mOrV, mNotV, mIf, mIfS, mRet, mRetN, mDrop, mNext, mBreak, mCont, mBM, mBM0, mCall, mFor, mLc, mYes, iSeq, iRng, iRng2, iRevRng, gNameM, gSubM, mAug, mIsi, mSl, mPart, mNoPart, mRaise, getS_0, getS_s, isB_bl, truP_t, truP_b, sIx_t, sIx_o, sIx_r, sIx_s, sAdd_ii, sAdd_ss, sAdd_tt, sAdd_rr, sIAdd_ii, sIAdd_ss, sMul_ii, sMul_si, sI2_ii, sLen_t, sLen_o, sLen_r, sLen_s, sInt_i, sAbs_i, sMin2_i, sMax2_i, sStrI_i, sTupOf_t, sTupOf_r, sLstOf_t, sLstOf_r, sAppend_r, sPop_r, sPopAt_r, sInsert_r, sSet_r, sEq_ii, sEq_ss, sNe_ii, sNe_ss, sIn_ss, sIn_st, sIn_sr, sIs_n, sIsNot_n, isNonP_n, isNonP_t, isNonP_s, isNonP_i, isNonP_r, sNeg_i, sSl_r, mDict0_n, mDict1_n, gTupM_t, gConsM_c, gNilM_n, seqP_t, seqP_o, seqP_r, withL_upd, upd_upd, dec_if, true_and, and_true, List.set_cons_zero, List.set_cons_succ, atI_0, atI_1, atI_2, ixN_30, ixN_31, ixN_32, ixN_s0, Option.some.injEq, exists_eq_left', exists_eq_left, Bool.not_true, Bool.not_false, if_true, if_false, Bool.false_eq_true, reduceCtorEq, List.length_cons, List.length_nil, endsOf, wipeM, List.map_cons, List.map_nil, ite_true, ite_false, eq_self_iff_true, false_and, Nat.reduceAdd, decide_true, decide_false]
  refine ⟨by decide, ⟨by omega, by omega⟩, ?_⟩
  have e : ((d : Int)).toNat = d := by omega
  rw [e]
  refine for_rng (fun i μ M' => ∃ k, μ = [some (.str n), some (.int d), some (dbl n i), k] ∧ M' = M) (fun i μ M' L hi h hl => ?_) (fun μ M' h => ?_) ⟨none, rfl, rfl⟩
  · obtain ⟨k, rfl, rfl⟩ := h
    simp only [mSeq, mAsg, mOp, mUn, mVar, mC, mCB, mCons, mNil, mTup, mLst_n, mB, mTru, mNot, mAnd, mOr, mAndV, mOrV, mNotV, mIf, mIfS, mRet, mRetN, mDrop, mNext, mBreak, mCont, mBM, mBM0, mCall, mFor, mLc, mYes, iSeq, iRng, iRng2, iRevRng, gNameM, gSubM, mAug, mIsi, mSl, mPart, mNoPart, mRaise, getS_0, getS_s, isB_bl, truP_t, truP_b, sIx_t, sIx_o, sIx_r, sIx_s, sAdd_ii, sAdd_ss, sAdd_tt, sAdd_rr, sIAdd_ii, sIAdd_ss, sMul_ii, sMul_si, sI2_ii, sLen_t, sLen_o, sLen_r, sLen_s, sInt_i, sAbs_i, sMin2_i, sMax2_i, sStrI_i, sTupOf_t, sTupOf_r, sLstOf_t, sLstOf_r, sAppend_r, sPop_r, sPopAt_r, sInsert_r, sSet_r, sEq_ii, sEq_ss, sNe_ii, sNe_ss, sIn_ss, sIn_st, sIn_sr, sIs_n, sIsNot_n, isNonP_n, isNonP_t, isNonP_s, isNonP_i, isNonP_r, sNeg_i, sSl_r, mDict0_n, mDict1_n, gTupM_t, gConsM_c, gNilM_n, seqP_t, seqP_o, seqP_r, withL_upd, upd_upd, dec_if, true_and, and_true, List.set_cons_zero, List.set_cons_succ, atI_0, atI_1, atI_2, ixN_30, ixN_31, ixN_32, ixN_s0, Option.some.injEq, exists_eq_left', exists_eq_left, Bool.not_true, Bool.not_false, if_true, if_false, Bool.false_eq_true, reduceCtorEq, List.length_cons, List.length_nil, endsOf, wipeM, List.map_cons, List.map_nil, ite_true, ite_false, eq_self_iff_true, false_and, Nat.reduceAdd, decide_true, decide_false]
    exact ⟨by decide, by decide, by decide, hl _ _ ⟨_, rfl, rfl⟩⟩
  · obtain ⟨k, rfl, rfl⟩ := h
    simp only [mSeq, mAsg, mOp, mUn, mVar, mC, mCB, mCons, mNil, mTup, mLst_n, mB, mTru, mNot, mAnd, mOr, mAndV, mOrV, mNotV, mIf, mIfS, mRet, mRetN, mDrop, mNext, mBreak, mCont, mBM, mBM0, mCall, mFor, mLc, mYes, iSeq, iRng, iRng2, iRevRng, gNameM, gSubM, mAug, mIsi, mSl, mPart, mNoPart, mRaise, getS_0, getS_s, isB_bl, truP_t, truP_b, sIx_t, sIx_o, sIx_r, sIx_s, sAdd_ii, sAdd_ss, sAdd_tt, sAdd_rr, sIAdd_ii, sIAdd_ss, sMul_ii, sMul_si, sI2_ii, sLen_t, sLen_o, sLen_r, sLen_s, sInt_i, sAbs_i, sMin2_i, sMax2_i, sStrI_i, sTupOf_t, sTupOf_r, sLstOf_t, sLstOf_r, sAppend_r, sPop_r, sPopAt_r, sInsert_r, sSet_r, sEq_ii, sEq_ss, sNe_ii, sNe_ss, sIn_ss, sIn_st, sIn_sr, sIs_n, sIsNot_n, isNonP_n, isNonP_t, isNonP_s, isNonP_i, isNonP_r, sNeg_i, sSl_r, mDict0_n, mDict1_n, gTupM_t, gConsM_c, gNilM_n, seqP_t, seqP_o, seqP_r, withL_upd, upd_upd, dec_if, true_and, and_true, List.set_cons_zero, List.set_cons_succ, atI_0, atI_1, atI_2, ixN_30, ixN_31, ixN_32, ixN_s0, Option.some.injEq, exists_eq_left', exists_eq_left, Bool.not_true, Bool.not_false, if_true, if_false, Bool.false_eq_true, reduceCtorEq, List.length_cons, List.length_nil, endsOf, wipeM, List.map_cons, List.map_nil, ite_true, ite_false, eq_self_iff_true, false_and, Nat.reduceAdd, decide_true, decide_false]
    exact q
theorem dbl_tup (n : Str) (d : Nat) : ∃ l, dbl n d = .tup l ∧ (∀ ns, n ∈ ns → goodR ns l = true) ∧ cntR l + 2 = 2 ^ (d + 1) ∧ depR l = d := by
  induction d with
  | zero => exact ⟨[], rfl, fun ns h => goodR_nil, by rw [cntR_nil], depR_nil⟩
  | succ d ih =>
    obtain ⟨l, e, g, c, p⟩ := ih
    refine ⟨_, rfl, fun ns h => ?_, ?_, ?_⟩
    · rw [e]; simp [goodR, goodT, h, g ns h]
    · rw [e]; simp [cntR, cntT]; omega
    · rw [e]; simp [depR, depT]; omega
theorem isF_dbl {n : Str} {ns : List Str} {d : Nat} (h : n ∈ ns) : isF ns (dbl n d) = decide (2 ^ (d + 1) ≤ 2002 ∧ d ≤ 60) := by
  obtain ⟨l, e, g, c, p⟩ := dbl_tup n d
  rw [e]
  show okF ns l = _
  unfold okF
  rw [g ns h, Bool.true_and, p]
  apply Bool.eq_iff_iff.mpr
  simp
  omega
theorem live_dbl {n : Str} {M : MHp} : ∀ d, liveP M (dbl n d)
  | 0 => by unfold dbl liveP liveL; trivial
  | d + 1 => by
    have := live_dbl (n := n) (M := M) d
    simp [dbl, liveP, liveL, this]
end K01
end PL
end L2
set_option maxRecDepth 100000
set_option maxHeartbeats 2000000
namespace L2
namespace PL
namespace K01
open PySem PySem.Spec PyProof.Rows

theorem goodR_app {ns : List Str} : ∀ {a b : List PV}, goodR ns (a ++ b) = (goodR ns a && goodR ns b)
  | [], b => by rw [goodR_nil, Bool.true_and]; rfl
  | t :: a, b => by rw [List.cons_append, goodR, goodR, goodR_app, Bool.and_assoc]
theorem cntR_app : ∀ {a b : List PV}, cntR (a ++ b) = cntR a + cntR b
  | [], b => by rw [cntR_nil, Nat.zero_add]; rfl
  | t :: a, b => by rw [List.cons_append, cntR, cntR, cntR_app, Nat.add_assoc]
theorem depR_app : ∀ {a b : List PV}, depR (a ++ b) = max (depR a) (depR b)
  | [], b => by rw [depR_nil, Nat.zero_max]; rfl
  | t :: a, b => by rw [List.cons_append, depR, depR, depR_app, Nat.max_assoc]
theorem cntR_one {t : PV} : cntR [t] = cntT t := by rw [cntR, cntR_nil]; rfl
theorem depR_one {t : PV} : depR [t] = depT t := by rw [depR, depR_nil, Nat.max_zero]
theorem goodR_one {ns : List Str} {t : PV} : goodR ns [t] = goodT ns t := by rw [goodR, goodR_nil, Bool.and_true]
theorem good_shape {ns : List Str} {t : PV} (h : goodT ns t = true) : ∃ n b, t = .tup [.str n, .tup b] ∧ n ∈ ns ∧ goodR ns b = true := by
  obtain ⟨n, b, rfl, hn⟩ := top_shape (good_top h)
  rw [goodT, Bool.and_eq_true] at h
  exact ⟨n, b, rfl, hn, h.2⟩
mutual
theorem good_live {ns : List Str} {M : MHp} : ∀ {t : PV}, goodT ns t = true → liveP M t
  | .tup [.str n, .tup b], h => by
    rw [goodT, Bool.and_eq_true] at h
    have := goodR_live (M := M) h.2
    simp [liveP, liveL, this]
  | .non, h => by unfold liveP; trivial
  | .bl _, h => by unfold liveP; trivial
  | .int _, h => by unfold liveP; trivial
  | .str _, h => by unfold liveP; trivial
  | .rol _, h => by unfold liveP; trivial
  | .ref _, h => by cases h
  | .tup [], h => by cases h
  | .tup [x], h => by cases x <;> cases h
  | .tup (x :: y :: z :: r), h => by cases x <;> cases y <;> cases h
  | .tup [.non, _], h => by cases h
  | .tup [.bl _, _], h => by cases h
  | .tup [.int _, _], h => by cases h
  | .tup [.tup _, _], h => by cases h
  | .tup [.rol _, _], h => by cases h
  | .tup [.ref _, _], h => by cases h
  | .tup [.str _, .non], h => by cases h
  | .tup [.str _, .bl _], h => by cases h
  | .tup [.str _, .int _], h => by cases h
  | .tup [.str _, .str _], h => by cases h
  | .tup [.str _, .rol _], h => by cases h
  | .tup [.str _, .ref _], h => by cases h
theorem goodR_live {ns : List Str} {M : MHp} : ∀ {l : List PV}, goodR ns l = true → liveL M l
  | [], _ => by unfold liveL; trivial
  | t :: r, h => by
    rw [goodR, Bool.and_eq_true] at h
    unfold liveL
    exact ⟨good_live h.1, goodR_live h.2⟩
end
theorem goodR_get {ns : List Str} : ∀ {l : List PV} {t : PV}, goodR ns l = true → t ∈ l → goodT ns t = true
  | x :: l, t, h, m => by
    rw [goodR, Bool.and_eq_true] at h
    rcases List.mem_cons.mp m with e | m
    · subst e; exact h.1
    · exact goodR_get h.2 m
theorem goodR_of {ns : List Str} : ∀ {l : List PV}, (∀ t ∈ l, goodT ns t = true) → goodR ns l = true
  | [], _ => goodR_nil
  | x :: l, h => by rw [goodR, h x List.mem_cons_self, goodR_of fun t m => h t (List.mem_cons_of_mem _ m)]; rfl
theorem depR_get {l : List PV} {t : PV} (m : t ∈ l) : depT t ≤ depR l := by
  induction l with
  | nil => cases m
  | cons x l ih =>
    rw [depR]
    rcases List.mem_cons.mp m with e | m
    · subst e; exact Nat.le_max_left _ _
    · exact Nat.le_trans (ih m) (Nat.le_max_right _ _)
theorem cntR_get {l : List PV} {t : PV} (m : t ∈ l) : cntT t ≤ cntR l := by
  induction l with
  | nil => cases m
  | cons x l ih =>
    rw [cntR]
    rcases List.mem_cons.mp m with e | m
    · subst e; omega
    · have := ih m; omega
mutual
theorem good_sub {ns ms : List Str} (s : ∀ n ∈ ns, n ∈ ms) : ∀ {t : PV}, goodT ns t = true → goodT ms t = true
  | .tup [.str n, .tup b], h => by
    rw [goodT, Bool.and_eq_true] at h ⊢
    exact ⟨by simpa using s n (by simpa using h.1), goodR_sub s h.2⟩
  | .non, h => by cases h
  | .bl _, h => by cases h
  | .int _, h => by cases h
  | .str _, h => by cases h
  | .rol _, h => by cases h
  | .ref _, h => by cases h
  | .tup [], h => by cases h
  | .tup [x], h => by cases x <;> cases h
  | .tup (x :: y :: z :: r), h => by cases x <;> cases y <;> cases h
  | .tup [.non, _], h => by cases h
  | .tup [.bl _, _], h => by cases h
  | .tup [.int _, _], h => by cases h
  | .tup [.tup _, _], h => by cases h
  | .tup [.rol _, _], h => by cases h
  | .tup [.ref _, _], h => by cases h
  | .tup [.str _, .non], h => by cases h
  | .tup [.str _, .bl _], h => by cases h
  | .tup [.str _, .int _], h => by cases h
  | .tup [.str _, .str _], h => by cases h
  | .tup [.str _, .rol _], h => by cases h
  | .tup [.str _, .ref _], h => by cases h
theorem goodR_sub {ns ms : List Str} (s : ∀ n ∈ ns, n ∈ ms) : ∀ {l : List PV}, goodR ns l = true → goodR ms l = true
  | [], _ => goodR_nil
  | t :: r, h => by
    rw [goodR, Bool.and_eq_true] at h
    rw [goodR, good_sub s h.1, goodR_sub s h.2]; rfl
end

/-! ### _law_put -/
def BadIn (v : PV) (l : List PV) : Prop := ∀ ns, goodT ns v = false → goodR ns l = false
structure PutR (l : List PV) (at_ : Int) (v : PV) (l' : List PV) (at' : Int) : Prop where
  neg : at_ < 0 → l' = l ∧ at' < 0
  out : (cntR l : Int) ≤ at_ → l' = l ∧ at' = at_ - cntR l
  hit : 0 ≤ at_ → at_ < cntR l → at' < 0 ∧ BadIn v l'
  live : ∀ M, liveP M v → liveL M l'
def sp_put (d : Nat) : MSp := fun xs M Q _ => ∃ l at_ v ns, xs = [.tup l, .int at_, v] ∧ goodR ns l = true ∧ depR l < d ∧ cntR l ≤ 3000 ∧ liveP M v ∧ ∀ l' at' M', Ext M M' → PutR l at_ v l' at' → Q (.tup [.tup l', .int at']) M'
def sp__law_put : MSp := sp_put 61
/-- _law_put: slots 0 forest, 1 at, 2 value, 3 row, 4 tree, 5 told -/
def N__law_put : List Str := ["forest", "at", "value", "row", "tree", "told"]
def m__law_put (self : MSp) : MS :=
    (mSeq (mAsg (mLst mNil) (gNameM 3))
    (mSeq (mFor (iSeq (mVar 0)) (gNameM 4)
    (mSeq (mIfS (mB (mOp sEq (mVar 1) (mC (.int 0)))) (mDrop (mBM "list" sAppend (mVar 3) (mCons (mVar 2) mNil))) (mIfS (mB (mOp sGt (mVar 1) (mC (.int 0)))) (mSeq (mAsg (mCall self (mCons (mOp sIx (mVar 4) (mC (.int 1))) (mCons (mOp sSub (mVar 1) (mC (.int 1))) (mCons (mVar 2) mNil)))) (gNameM 5))
    (mSeq (mDrop (mBM "list" sAppend (mVar 3) (mCons (mTup (mCons (mOp sIx (mVar 4) (mC (.int 0))) (mCons (mOp sIx (mVar 5) (mC (.int 0))) mNil))) mNil)))
    (mAsg (mOp sAdd (mOp sIx (mVar 5) (mC (.int 1))) (mC (.int 1))) (gNameM 1)))) (mDrop (mBM "list" sAppend (mVar 3) (mCons (mVar 4) mNil)))))
    (mAsg (mOp sSub (mVar 1) (mC (.int 1))) (gNameM 1))))
    (mRet (mTup (mCons (mCB sTupOf (mCons (mVar 3) mNil)) (mCons (mVar 1) mNil))))))

theorem liveL_app {M : MHp} {a b : List PV} (h : liveL M a) (g : liveL M b) : liveL M (a ++ b) := liveL_of fun x m => (List.mem_append.mp m).elim (liveL_mem h) (liveL_mem g)
theorem bad_app1 {v : PV} {a b : List PV} (h : BadIn v a) : BadIn v (a ++ b) := fun ns z => by rw [goodR_app, h ns z, Bool.false_and]
theorem bad_app2 {v : PV} {a b : List PV} (h : BadIn v b) : BadIn v (a ++ b) := fun ns z => by rw [goodR_app, h ns z, Bool.and_false]
theorem d_put (d : Nat) : ∀ xs M Q E, sp_put (d + 1) xs M Q E → m__law_put (sp_put d) (endsOf Q E) (startM N__law_put xs) M := by
  rintro _ M Q E ⟨l, a0, v, ns, rfl, hg, hd, hc, lv, q⟩
  show m__law_put (sp_put d) (endsOf Q E) [some (.tup l), some (.int a0), some v, none, none, none] M
  have hlen := cntR_len l
  unfold m__law_put
  refine seq_i fun N1 hN1 => ?_
  simp only [mSeq, mAsg, mOp, mUn, mVar, mC, mCB, mCons, mNil, mTup, mLst_n, mB, mTru, mNot, mAnd, mOr, mAndV, mOrV, mNotV, mIf, mIfS, mRet, mRetN, mDrop, mNext, mBreak, mCont, mBM, mBM0, mCall, mFor, mLc, mYes, iSeq, iRng, iRng2, iRevRng, gNameM, gSubM, mAug, mIsi, mSl, mPart, mNoPart, mRaise, getS_0, getS_s, isB_bl, truP_t, truP_b, sIx_t, sIx_o, sIx_r, sIx_s, sAdd_ii, sAdd_ss, sAdd_tt, sAdd_rr, sIAdd_ii, sIAdd_ss, sMul_ii, sMul_si, sI2_ii, sLen_t, sLen_o, sLen_r, sLen_s, sInt_i, sAbs_i, sMin2_i, sMax2_i, sStrI_i, sTupOf_t, sTupOf_r, sLstOf_t, sLstOf_r, sAppend_r, sPop_r, sPopAt_r, sInsert_r, sSet_r, sEq_ii, sEq_ss, sNe_ii, sNe_ss, sIn_ss, sIn_st, sIn_sr, sIs_n, sIsNot_n, isNonP_n, isNonP_t, isNonP_s, isNonP_i, isNonP_r, sNeg_i, sSl_r, mDict0_n, mDict1_n, gTupM_t, gConsM_c, gNilM_n, seqP_t, seqP_o, seqP_r, withL_upd, upd_upd, dec_if, true_and, and_true, List.set_cons_zero, List.set_cons_succ, atI_0, atI_1, atI_2, ixN_30, ixN_31, ixN_32, ixN_s0, Option.some.injEq, exists_eq_left', exists_eq_left, Bool.not_true, Bool.not_false, if_true, if_false, Bool.false_eq_true, reduceCtorEq, List.length_cons, List.length_nil, endsOf, wipeM, List.map_cons, List.map_nil, ite_true, ite_false, eq_self_iff_true, false_and, Nat.reduceAdd, decide_true, decide_false]
  refine ⟨by decide, newL_i fun p M1 n1 h1 x1 => hN1 _ _ ?_⟩
  clear hN1 N1
  refine seq_i fun N1 hN1 => ?_
  simp only [mSeq, mAsg, mOp, mUn, mVar, mC, mCB, mCons, mNil, mTup, mLst_n, mB, mTru, mNot, mAnd, mOr, mAndV, mOrV, mNotV, mIf, mIfS, mRet, mRetN, mDrop, mNext, mBreak, mCont, mBM, mBM0, mCall, mFor, mLc, mYes, iSeq, iRng, iRng2, iRevRng, gNameM, gSubM, mAug, mIsi, mSl, mPart, mNoPart, mRaise, getS_0, getS_s, isB_bl, truP_t, truP_b, sIx_t, sIx_o, sIx_r, sIx_s, sAdd_ii, sAdd_ss, sAdd_tt, sAdd_rr, sIAdd_ii, sIAdd_ss, sMul_ii, sMul_si, sI2_ii, sLen_t, sLen_o, sLen_r, sLen_s, sInt_i, sAbs_i, sMin2_i, sMax2_i, sStrI_i, sTupOf_t, sTupOf_r, sLstOf_t, sLstOf_r, sAppend_r, sPop_r, sPopAt_r, sInsert_r, sSet_r, sEq_ii, sEq_ss, sNe_ii, sNe_ss, sIn_ss, sIn_st, sIn_sr, sIs_n, sIsNot_n, isNonP_n, isNonP_t, isNonP_s, isNonP_i, isNonP_r, sNeg_i, sSl_r, mDict0_n, mDict1_n, gTupM_t, gConsM_c, gNilM_n, seqP_t, seqP_o, seqP_r, withL_upd, upd_upd, dec_if, true_and, and_true, List.set_cons_zero, List.set_cons_succ, atI_0, atI_1, atI_2, ixN_30, ixN_31, ixN_32, ixN_s0, Option.some.injEq, exists_eq_left', exists_eq_left, Bool.not_true, Bool.not_false, if_true, if_false, Bool.false_eq_true, reduceCtorEq, List.length_cons, List.length_nil, endsOf, wipeM, List.map_cons, List.map_nil, ite_true, ite_false, eq_self_iff_true, false_and, Nat.reduceAdd, decide_true, decide_false]
  refine for_fix (xs := l) (fun i μ M' => ∃ acc a t td, μ = [some (.tup l), some (.int a), some v, some (.ref p), t, td] ∧ Ext M M' ∧ M' p = some (.lst acc) ∧ acc.length = i ∧ PutR (l.take i) a0 v acc a)
    (fun i x μ M' L ex h hl => ?_) (fun μ M' h => ?_) ⟨[], a0, none, none, rfl, x1, h1, rfl, ⟨fun h => ⟨rfl, h⟩, fun h => ⟨rfl, by simp [cntR_nil]⟩, fun h1 h2 => by simp [cntR_nil] at h2; omega, fun M _ => by unfold liveL; trivial⟩⟩
  · obtain ⟨acc, a, t, td, rfl, xM, hp, hal, R⟩ := h
    have mx : x ∈ l := List.mem_iff_getElem?.mpr ⟨i, ex⟩
    have hlt : i < l.length := (List.getElem?_eq_some_iff.mp ex).1
    have tk : l.take (i + 1) = l.take i ++ [x] := by rw [List.take_succ, ex]; rfl
    have gx := goodR_get hg mx
    have szl : acc.length < sizeLine := by rw [sz24]; omega
    have go : ∀ y a1 a' t td M2, a' = a1 - 1 → Ext M M2 → M2 p = some (.lst acc) → PutR (l.take (i + 1)) a0 v (acc ++ [y]) a' → L [some (.tup l), some (.int a'), some v, some (.ref p), t, td] (updM M2 p (.lst (acc ++ [y]))) := fun y a1 a' t td M2 e x2 h2 R2 =>
      hl _ _ ⟨acc ++ [y], a', t, td, rfl, x2.mut n1, updM_same, by simp [hal], R2⟩
    have c1 : cntR (l.take (i + 1)) = cntR (l.take i) + cntT x := by rw [tk, cntR_app, cntR_one]
    have lx : ∀ M, liveP M x := fun M => good_live gx
    have ct1 : 1 ≤ cntT x := by have := cntR_len [x]; rw [cntR_one] at this; exact this
    refine seq_i fun N2 hN2 => ?_
    simp only [mSeq, mAsg, mOp, mUn, mVar, mC, mCB, mCons, mNil, mTup, mLst_n, mB, mTru, mNot, mAnd, mOr, mAndV, mOrV, mNotV, mIf, mIfS, mRet, mRetN, mDrop, mNext, mBreak, mCont, mBM, mBM0, mCall, mFor, mLc, mYes, iSeq, iRng, iRng2, iRevRng, gNameM, gSubM, mAug, mIsi, mSl, mPart, mNoPart, mRaise, getS_0, getS_s, isB_bl, truP_t, truP_b, sIx_t, sIx_o, sIx_r, sIx_s, sAdd_ii, sAdd_ss, sAdd_tt, sAdd_rr, sIAdd_ii, sIAdd_ss, sMul_ii, sMul_si, sI2_ii, sLen_t, sLen_o, sLen_r, sLen_s, sInt_i, sAbs_i, sMin2_i, sMax2_i, sStrI_i, sTupOf_t, sTupOf_r, sLstOf_t, sLstOf_r, sAppend_r, sPop_r, sPopAt_r, sInsert_r, sSet_r, sEq_ii, sEq_ss, sNe_ii, sNe_ss, sIn_ss, sIn_st, sIn_sr, sIs_n, sIsNot_n, isNonP_n, isNonP_t, isNonP_s, isNonP_i, isNonP_r, sNeg_i, sSl_r, mDict0_n, mDict1_n, gTupM_t, gConsM_c, gNilM_n, seqP_t, seqP_o, seqP_r, withL_upd, upd_upd, dec_if, true_and, and_true, List.set_cons_zero, List.set_cons_succ, atI_0, atI_1, atI_2, ixN_30, ixN_31, ixN_32, ixN_s0, Option.some.injEq, exists_eq_left', exists_eq_left, Bool.not_true, Bool.not_false, if_true, if_false, Bool.false_eq_true, reduceCtorEq, List.length_cons, List.length_nil, endsOf, wipeM, List.map_cons, List.map_nil, ite_true, ite_false, eq_self_iff_true, false_and, Nat.reduceAdd, decide_true, decide_false, withL_eq hp, tyM_l hp]
    by_cases z : a = 0
    · rw [if_pos z]
      refine ⟨szl, hN2 _ _ ?_⟩
      simp only [mSeq, mAsg, mOp, mUn, mVar, mC, mCB, mCons, mNil, mTup, mLst_n, mB, mTru, mNot, mAnd, mOr, mAndV, mOrV, mNotV, mIf, mIfS, mRet, mRetN, mDrop, mNext, mBreak, mCont, mBM, mBM0, mCall, mFor, mLc, mYes, iSeq, iRng, iRng2, iRevRng, gNameM, gSubM, mAug, mIsi, mSl, mPart, mNoPart, mRaise, getS_0, getS_s, isB_bl, truP_t, truP_b, sIx_t, sIx_o, sIx_r, sIx_s, sAdd_ii, sAdd_ss, sAdd_tt, sAdd_rr, sIAdd_ii, sIAdd_ss, sMul_ii, sMul_si, sI2_ii, sLen_t, sLen_o, sLen_r, sLen_s, sInt_i, sAbs_i, sMin2_i, sMax2_i, sStrI_i, sTupOf_t, sTupOf_r, sLstOf_t, sLstOf_r, sAppend_r, sPop_r, sPopAt_r, sInsert_r, sSet_r, sEq_ii, sEq_ss, sNe_ii, sNe_ss, sIn_ss, sIn_st, sIn_sr, sIs_n, sIsNot_n, isNonP_n, isNonP_t, isNonP_s, isNonP_i, isNonP_r, sNeg_i, sSl_r, mDict0_n, mDict1_n, gTupM_t, gConsM_c, gNilM_n, seqP_t, seqP_o, seqP_r, withL_upd, upd_upd, dec_if, true_and, and_true, List.set_cons_zero, List.set_cons_succ, atI_0, atI_1, atI_2, ixN_30, ixN_31, ixN_32, ixN_s0, Option.some.injEq, exists_eq_left', exists_eq_left, Bool.not_true, Bool.not_false, if_true, if_false, Bool.false_eq_true, reduceCtorEq, List.length_cons, List.length_nil, endsOf, wipeM, List.map_cons, List.map_nil, ite_true, ite_false, eq_self_iff_true, false_and, Nat.reduceAdd, decide_true, decide_false]
      refine go v a (a - 1) _ _ _ rfl xM hp ⟨fun h => ?_, fun h => ?_, fun h1 h2 => ?_, fun M3 h3 => liveL_app (R.live M3 h3) (by unfold liveL; exact ⟨h3, by unfold liveL; trivial⟩)⟩
      · have := (R.neg h).2; omega
      · have := (R.out (by omega)).2; omega
      · by_cases y : a0 < cntR (l.take i)
        · have := (R.hit h1 y).1; omega
        · refine ⟨by omega, bad_app2 fun ms hm => by rw [goodR_one]; exact hm⟩
    · rw [if_neg z]
      by_cases z2 : 0 < a
      · rw [if_pos z2]
        obtain ⟨n, b, rfl, hn, gb⟩ := good_shape gx
        have db := depR_get mx
        have cb := cntR_get mx
        rw [depT] at db
        rw [cntT] at cb
        have ct : cntT (.tup [.str n, .tup b]) = 1 + cntR b := by rw [cntT]
        have a1 : ∀ {α : Type} (x y : α), atI [x, y] 1 = some y := fun x y => atI_1
        simp only [mSeq, mAsg, mOp, mUn, mVar, mC, mCB, mCons, mNil, mTup, mLst_n, mB, mTru, mNot, mAnd, mOr, mAndV, mOrV, mNotV, mIf, mIfS, mRet, mRetN, mDrop, mNext, mBreak, mCont, mBM, mBM0, mCall, mFor, mLc, mYes, iSeq, iRng, iRng2, iRevRng, gNameM, gSubM, mAug, mIsi, mSl, mPart, mNoPart, mRaise, getS_0, getS_s, isB_bl, truP_t, truP_b, sIx_t, sIx_o, sIx_r, sIx_s, sAdd_ii, sAdd_ss, sAdd_tt, sAdd_rr, sIAdd_ii, sIAdd_ss, sMul_ii, sMul_si, sI2_ii, sLen_t, sLen_o, sLen_r, sLen_s, sInt_i, sAbs_i, sMin2_i, sMax2_i, sStrI_i, sTupOf_t, sTupOf_r, sLstOf_t, sLstOf_r, sAppend_r, sPop_r, sPopAt_r, sInsert_r, sSet_r, sEq_ii, sEq_ss, sNe_ii, sNe_ss, sIn_ss, sIn_st, sIn_sr, sIs_n, sIsNot_n, isNonP_n, isNonP_t, isNonP_s, isNonP_i, isNonP_r, sNeg_i, sSl_r, mDict0_n, mDict1_n, gTupM_t, gConsM_c, gNilM_n, seqP_t, seqP_o, seqP_r, withL_upd, upd_upd, dec_if, true_and, and_true, List.set_cons_zero, List.set_cons_succ, atI_0, atI_1, atI_2, ixN_30, ixN_31, ixN_32, ixN_s0, Option.some.injEq, exists_eq_left', exists_eq_left, Bool.not_true, Bool.not_false, if_true, if_false, Bool.false_eq_true, reduceCtorEq, List.length_cons, List.length_nil, endsOf, wipeM, List.map_cons, List.map_nil, ite_true, ite_false, eq_self_iff_true, false_and, Nat.reduceAdd, decide_true, decide_false]
        refine ⟨b, a - 1, v, ns, rfl, gb, by omega, by omega, liveP_ext xM lv, fun b' a1 M2 x2 R2 => ?_⟩
        have hp2 := x2 _ _ hp
        simp only [mSeq, mAsg, mOp, mUn, mVar, mC, mCB, mCons, mNil, mTup, mLst_n, mB, mTru, mNot, mAnd, mOr, mAndV, mOrV, mNotV, mIf, mIfS, mRet, mRetN, mDrop, mNext, mBreak, mCont, mBM, mBM0, mCall, mFor, mLc, mYes, iSeq, iRng, iRng2, iRevRng, gNameM, gSubM, mAug, mIsi, mSl, mPart, mNoPart, mRaise, getS_0, getS_s, isB_bl, truP_t, truP_b, sIx_t, sIx_o, sIx_r, sIx_s, sAdd_ii, sAdd_ss, sAdd_tt, sAdd_rr, sIAdd_ii, sIAdd_ss, sMul_ii, sMul_si, sI2_ii, sLen_t, sLen_o, sLen_r, sLen_s, sInt_i, sAbs_i, sMin2_i, sMax2_i, sStrI_i, sTupOf_t, sTupOf_r, sLstOf_t, sLstOf_r, sAppend_r, sPop_r, sPopAt_r, sInsert_r, sSet_r, sEq_ii, sEq_ss, sNe_ii, sNe_ss, sIn_ss, sIn_st, sIn_sr, sIs_n, sIsNot_n, isNonP_n, isNonP_t, isNonP_s, isNonP_i, isNonP_r, sNeg_i, sSl_r, mDict0_n, mDict1_n, gTupM_t, gConsM_c, gNilM_n, seqP_t, seqP_o, seqP_r, withL_upd, upd_upd, dec_if, true_and, and_true, List.set_cons_zero, List.set_cons_succ, atI_0, atI_1, atI_2, ixN_30, ixN_31, ixN_32, ixN_s0, Option.some.injEq, exists_eq_left', exists_eq_left, Bool.not_true, Bool.not_false, if_true, if_false, Bool.false_eq_true, reduceCtorEq, List.length_cons, List.length_nil, endsOf, wipeM, List.map_cons, List.map_nil, ite_true, ite_false, eq_self_iff_true, false_and, Nat.reduceAdd, decide_true, decide_false, tyM_l hp2, withL_eq hp2]
        refine ⟨by decide, szl, hN2 _ _ ?_⟩
        simp only [mSeq, mAsg, mOp, mUn, mVar, mC, mCB, mCons, mNil, mTup, mLst_n, mB, mTru, mNot, mAnd, mOr, mAndV, mOrV, mNotV, mIf, mIfS, mRet, mRetN, mDrop, mNext, mBreak, mCont, mBM, mBM0, mCall, mFor, mLc, mYes, iSeq, iRng, iRng2, iRevRng, gNameM, gSubM, mAug, mIsi, mSl, mPart, mNoPart, mRaise, getS_0, getS_s, isB_bl, truP_t, truP_b, sIx_t, sIx_o, sIx_r, sIx_s, sAdd_ii, sAdd_ss, sAdd_tt, sAdd_rr, sIAdd_ii, sIAdd_ss, sMul_ii, sMul_si, sI2_ii, sLen_t, sLen_o, sLen_r, sLen_s, sInt_i, sAbs_i, sMin2_i, sMax2_i, sStrI_i, sTupOf_t, sTupOf_r, sLstOf_t, sLstOf_r, sAppend_r, sPop_r, sPopAt_r, sInsert_r, sSet_r, sEq_ii, sEq_ss, sNe_ii, sNe_ss, sIn_ss, sIn_st, sIn_sr, sIs_n, sIsNot_n, isNonP_n, isNonP_t, isNonP_s, isNonP_i, isNonP_r, sNeg_i, sSl_r, mDict0_n, mDict1_n, gTupM_t, gConsM_c, gNilM_n, seqP_t, seqP_o, seqP_r, withL_upd, upd_upd, dec_if, true_and, and_true, List.set_cons_zero, List.set_cons_succ, atI_0, atI_1, atI_2, ixN_30, ixN_31, ixN_32, ixN_s0, Option.some.injEq, exists_eq_left', exists_eq_left, Bool.not_true, Bool.not_false, if_true, if_false, Bool.false_eq_true, reduceCtorEq, List.length_cons, List.length_nil, endsOf, wipeM, List.map_cons, List.map_nil, ite_true, ite_false, eq_self_iff_true, false_and, Nat.reduceAdd, decide_true, decide_false]
        refine go (.tup [.str n, .tup b']) (a1 + 1) (a1 + 1 - 1) _ _ _ rfl (xM.trans x2) hp2 ⟨fun h => ?_, fun h => ?_, fun h1 h2 => ?_, fun M3 h3 => liveL_app (R.live M3 h3) ?_⟩
        · have := (R.neg h).2; omega
        · obtain ⟨e1, e2⟩ := R.out (by omega)
          obtain ⟨e3, e4⟩ := R2.out (by omega)
          subst e3
          exact ⟨by rw [e1, tk], by omega⟩
        · by_cases y : a0 < cntR (l.take i)
          · have := (R.hit h1 y).1; omega
          · obtain ⟨e1, e2⟩ := R.out (by omega)
            obtain ⟨e3, e4⟩ := R2.hit (by omega) (by omega)
            refine ⟨by omega, bad_app2 fun ms hm => ?_⟩
            rw [goodR_one, goodT, e4 ms hm, Bool.and_false]
        · have := R2.live M3 h3
          simp [liveL, liveP, this]
      · rw [if_neg z2]
        refine ⟨szl, hN2 _ _ ?_⟩
        simp only [mSeq, mAsg, mOp, mUn, mVar, mC, mCB, mCons, mNil, mTup, mLst_n, mB, mTru, mNot, mAnd, mOr, mAndV, mOrV, mNotV, mIf, mIfS, mRet, mRetN, mDrop, mNext, mBreak, mCont, mBM, mBM0, mCall, mFor, mLc, mYes, iSeq, iRng, iRng2, iRevRng, gNameM, gSubM, mAug, mIsi, mSl, mPart, mNoPart, mRaise, getS_0, getS_s, isB_bl, truP_t, truP_b, sIx_t, sIx_o, sIx_r, sIx_s, sAdd_ii, sAdd_ss, sAdd_tt, sAdd_rr, sIAdd_ii, sIAdd_ss, sMul_ii, sMul_si, sI2_ii, sLen_t, sLen_o, sLen_r, sLen_s, sInt_i, sAbs_i, sMin2_i, sMax2_i, sStrI_i, sTupOf_t, sTupOf_r, sLstOf_t, sLstOf_r, sAppend_r, sPop_r, sPopAt_r, sInsert_r, sSet_r, sEq_ii, sEq_ss, sNe_ii, sNe_ss, sIn_ss, sIn_st, sIn_sr, sIs_n, sIsNot_n, isNonP_n, isNonP_t, isNonP_s, isNonP_i, isNonP_r, sNeg_i, sSl_r, mDict0_n, mDict1_n, gTupM_t, gConsM_c, gNilM_n, seqP_t, seqP_o, seqP_r, withL_upd, upd_upd, dec_if, true_and, and_true, List.set_cons_zero, List.set_cons_succ, atI_0, atI_1, atI_2, ixN_30, ixN_31, ixN_32, ixN_s0, Option.some.injEq, exists_eq_left', exists_eq_left, Bool.not_true, Bool.not_false, if_true, if_false, Bool.false_eq_true, reduceCtorEq, List.length_cons, List.length_nil, endsOf, wipeM, List.map_cons, List.map_nil, ite_true, ite_false, eq_self_iff_true, false_and, Nat.reduceAdd, decide_true, decide_false]
        refine go x a (a - 1) _ _ _ rfl xM hp ⟨fun h => ?_, fun h => ?_, fun h1 h2 => ?_, fun M3 h3 => liveL_app (R.live M3 h3) (by unfold liveL; exact ⟨lx M3, by unfold liveL; trivial⟩)⟩
        · obtain ⟨e1, e2⟩ := R.neg h
          exact ⟨by rw [e1, tk], by omega⟩
        · have := (R.out (by omega)).2; omega
        · by_cases y : a0 < cntR (l.take i)
          · obtain ⟨e1, e2⟩ := R.hit h1 y
            exact ⟨by omega, bad_app1 e2⟩
          · have := (R.out (by omega)).2; omega
  · obtain ⟨acc, a, t, td, rfl, xM, hp, hal, R⟩ := h
    rw [List.take_of_length_le (Nat.le_refl _)] at R
    refine hN1 _ _ ?_
    simp only [mSeq, mAsg, mOp, mUn, mVar, mC, mCB, mCons, mNil, mTup, mLst_n, mB, mTru, mNot, mAnd, mOr, mAndV, mOrV, mNotV, mIf, mIfS, mRet, mRetN, mDrop, mNext, mBreak, mCont, mBM, mBM0, mCall, mFor, mLc, mYes, iSeq, iRng, iRng2, iRevRng, gNameM, gSubM, mAug, mIsi, mSl, mPart, mNoPart, mRaise, getS_0, getS_s, isB_bl, truP_t, truP_b, sIx_t, sIx_o, sIx_r, sIx_s, sAdd_ii, sAdd_ss, sAdd_tt, sAdd_rr, sIAdd_ii, sIAdd_ss, sMul_ii, sMul_si, sI2_ii, sLen_t, sLen_o, sLen_r, sLen_s, sInt_i, sAbs_i, sMin2_i, sMax2_i, sStrI_i, sTupOf_t, sTupOf_r, sLstOf_t, sLstOf_r, sAppend_r, sPop_r, sPopAt_r, sInsert_r, sSet_r, sEq_ii, sEq_ss, sNe_ii, sNe_ss, sIn_ss, sIn_st, sIn_sr, sIs_n, sIsNot_n, isNonP_n, isNonP_t, isNonP_s, isNonP_i, isNonP_r, sNeg_i, sSl_r, mDict0_n, mDict1_n, gTupM_t, gConsM_c, gNilM_n, seqP_t, seqP_o, seqP_r, withL_upd, upd_upd, dec_if, true_and, and_true, List.set_cons_zero, List.set_cons_succ, atI_0, atI_1, atI_2, ixN_30, ixN_31, ixN_32, ixN_s0, Option.some.injEq, exists_eq_left', exists_eq_left, Bool.not_true, Bool.not_false, if_true, if_false, Bool.false_eq_true, reduceCtorEq, List.length_cons, List.length_nil, endsOf, wipeM, List.map_cons, List.map_nil, ite_true, ite_false, eq_self_iff_true, false_and, Nat.reduceAdd, decide_true, decide_false, withL_eq hp]
    exact ⟨by decide, q _ _ _ xM R⟩
end K01
end PL
end L2
set_option maxRecDepth 100000
set_option maxHeartbeats 2000000
namespace L2
namespace PL
namespace K01
open PySem PySem.Spec PyProof.Rows

structure GreatP (ns : List Str) (size deep : Nat) (l : List PV) : Prop where
  good : goodR ns l = true
  ne : l ≠ []
  cnt : size ≤ deep + 2000 → cntR l = size
  cnt2 : deep + 2000 ≤ cntR l ∨ cntR l = size
  le : cntR l ≤ 3000
  dep : depR l ≤ max deep 2
  dep2 : deep ≤ depR l
def sp__law_great : MSp := fun xs M Q _ => ∃ (st g c nm : Addr) (size deep : Nat) (ns : List Str), xs = [.ref st, .ref nm, .int size, .int deep] ∧ DrawSt M st g c ∧ Oth st g c nm ∧ M nm = some (.lst (pss ns)) ∧ ns ≠ [] ∧ ns.length ≤ 3 ∧ 1 ≤ deep ∧ deep ≤ size ∧ size ≤ 3000 ∧
  ∀ l M', DrawSt M' st g c → Fr st g M M' → GreatP ns size deep l → Q (.tup l) M'
/-- _law_great: slots 0 state, 1 names, 2 size, 3 deep, 4 forest, 5 k, 6 row, 7 left, 8 turn, 9 part, 10 name, 11 at -/
def N__law_great : List Str := ["state", "names", "size", "deep", "forest", "k", "row", "left", "turn", "part", "name", "at"]
def m__law_great : MS :=
    (mSeq (mAsg (mTup mNil) (gNameM 4))
    (mSeq (mFor (iRng (mCons (mVar 3) mNil)) (gNameM 5)
    (mAsg (mTup (mCons (mTup (mCons (mOp sIx (mVar 1) (mOp sMod (mCB sInt (mCons (mVar 5) mNil)) (mCB sLen (mCons (mVar 1) mNil)))) (mCons (mVar 4) mNil))) mNil)) (gNameM 4)))
    (mSeq (mAsg (mLst mNil) (gNameM 6))
    (mSeq (mAsg (mOp sSub (mVar 2) (mVar 3)) (gNameM 7))
    (mSeq (mFor (iRng (mCons (mC (.int 2000)) mNil)) (gNameM 8)
    (mSeq (mIfS (mB (mOp sEq (mVar 7) (mC (.int 0)))) mBreak mNext)
    (mSeq (mAsg (mCB sMin2 (mCons (mVar 7) (mCons (mOp sAdd (mC (.int 1)) (mCall sp__law_draw (mCons (mVar 0) (mCons (mC (.int 300)) mNil)))) mNil))) (gNameM 9))
    (mSeq (mAsg (mOp sIx (mVar 1) (mCall sp__law_draw (mCons (mVar 0) (mCons (mCB sLen (mCons (mVar 1) mNil)) mNil)))) (gNameM 10))
    (mSeq (mDrop (mBM "list" sAppend (mVar 6) (mCons (mTup (mCons (mVar 10) (mCons (mCB sTupOf (mCons (mLc (iRng (mCons (mOp sSub (mVar 9) (mC (.int 1))) mNil)) (gNameM 5) mYes (mTup (mCons (mOp sIx (mVar 1) (mOp sMod (mCB sInt (mCons (mVar 5) mNil)) (mCB sLen (mCons (mVar 1) mNil)))) (mCons (mTup mNil) mNil))) [5]) mNil)) mNil))) mNil)))
    (mAsg (mOp sSub (mVar 7) (mVar 9)) (gNameM 7)))))))
    (mSeq (mAsg (mCall sp__law_draw (mCons (mVar 0) (mCons (mOp sAdd (mCB sLen (mCons (mVar 6) mNil)) (mC (.int 1))) mNil))) (gNameM 11))
    (mRet (mOp sAdd (mOp sAdd (mCB sTupOf (mCons (mSl (mVar 6) mNoPart (mPart (mVar 11))) mNil)) (mVar 4)) (mCB sTupOf (mCons (mSl (mVar 6) (mPart (mVar 11)) mNoPart) mNil))))))))))

theorem nm_at {ns : List Str} (hne : ns ≠ []) (k : Nat) : 0 < ((pss ns).length : Int) ∧ ∃ n, n ∈ ns ∧ atI (pss ns) ((k : Int) % ((pss ns).length : Int)) = some (.str n) := by
  have hl : 0 < ns.length := List.length_pos_iff.mpr hne
  have e : (pss ns).length = ns.length := by simp [pss]
  rw [e]
  refine ⟨by omega, ?_⟩
  obtain ⟨x, h1, h2⟩ := atI_in (l := ns) (i := (k : Int) % (ns.length : Int)) (Int.emod_nonneg _ (by omega)) (Int.emod_lt_of_pos _ (by omega))
  exact ⟨x, List.mem_iff_getElem?.mpr ⟨_, h2⟩, by rw [pss, atI_map, h1]; rfl⟩
theorem nm_dr {ns : List Str} {d : Nat} (h : (d : Int) < ((pss ns).length : Int)) : ∃ n, n ∈ ns ∧ atI (pss ns) (d : Int) = some (.str n) := by
  have e : (pss ns).length = ns.length := by simp [pss]
  rw [e] at h
  have hd : d < ns.length := by omega
  exact ⟨ns[d], List.getElem_mem hd, by rw [pss, atI_map, atI_nat (List.getElem?_eq_getElem hd)]; rfl⟩
/-- the leaves of one tree -/
def leaf (ns : List Str) (x : PV) : PV := match x with
  | .int i => .tup [((pss ns)[(i % (ns.length : Int)).toNat]?).getD .non, .tup []]
  | x => x
theorem d_great : ∀ xs M Q E, sp__law_great xs M Q E → m__law_great (endsOf Q E) (startM N__law_great xs) M := by
  rintro _ M Q E ⟨st, g, c, nm, size, deep, ns, rfl, D, on, hnm, hne, hn3, hd1, hds, hs, q⟩
  show m__law_great (endsOf Q E) [some (.ref st), some (.ref nm), some (.int size), some (.int deep), none, none, none, none, none, none, none, none] M
  have lns : (pss ns).length = ns.length := by simp [pss]
  have pns : 0 < ns.length := List.length_pos_iff.mpr hne
  unfold m__law_great
  refine seq_i fun N1 hN1 => ?_
  simp only [mSeq, mAsg, mOp, mUn, mVar, mC, mCB, mCons, mNil, mTup, mLst_n, mB, mTru, mNot, mAnd, mOr, mAndV, mOrV, mNotV, mIf, mIfS, mRet, mRetN, mDrop, mNext, mBreak, mCont, mBM, mBM0, mCall, mFor, mLc, mYes, iSeq, iRng, iRng2, iRevRng, gNameM, gSubM, mAug, mIsi, mSl, mPart, mNoPart, mRaise, getS_0, getS_s, isB_bl, truP_t, truP_b, sIx_t, sIx_o, sIx_r, sIx_s, sAdd_ii, sAdd_ss, sAdd_tt, sAdd_rr, sIAdd_ii, sIAdd_ss, sMul_ii, sMul_si, sI2_ii, sLen_t, sLen_o, sLen_r, sLen_s, sInt_i, sAbs_i, sMin2_i, sMax2_i, sStrI_i, sTupOf_t, sTupOf_r, sLstOf_t, sLstOf_r, sAppend_r, sPop_r, sPopAt_r, sInsert_r, sSet_r, sEq_ii, sEq_ss, sNe_ii, sNe_ss, sIn_ss, sIn_st, sIn_sr, sIs_n, sIsNot_n, isNonP_n, isNonP_t, isNonP_s, isNonP_i, isNonP_r, sNeg_i, sSl_r, mDict0_n, mDict1_n, gTupM_t, gConsM_c, gNilM_n, seqP_t, seqP_o, seqP_r, withL_upd, upd_upd, dec_if, true_and, and_true, List.set_cons_zero, List.set_cons_succ, atI_0, atI_1, atI_2, ixN_30, ixN_31, ixN_32, ixN_s0, Option.some.injEq, exists_eq_left', exists_eq_left, Bool.not_true, Bool.not_false, if_true, if_false, Bool.false_eq_true, reduceCtorEq, List.length_cons, List.length_nil, endsOf, wipeM, List.map_cons, List.map_nil, ite_true, ite_false, eq_self_iff_true, false_and, Nat.reduceAdd, decide_true, decide_false]
  refine ⟨by decide, hN1 _ _ ?_⟩
  clear hN1 N1
  refine seq_i fun N1 hN1 => ?_
  simp only [mSeq, mAsg, mOp, mUn, mVar, mC, mCB, mCons, mNil, mTup, mLst_n, mB, mTru, mNot, mAnd, mOr, mAndV, mOrV, mNotV, mIf, mIfS, mRet, mRetN, mDrop, mNext, mBreak, mCont, mBM, mBM0, mCall, mFor, mLc, mYes, iSeq, iRng, iRng2, iRevRng, gNameM, gSubM, mAug, mIsi, mSl, mPart, mNoPart, mRaise, getS_0, getS_s, isB_bl, truP_t, truP_b, sIx_t, sIx_o, sIx_r, sIx_s, sAdd_ii, sAdd_ss, sAdd_tt, sAdd_rr, sIAdd_ii, sIAdd_ss, sMul_ii, sMul_si, sI2_ii, sLen_t, sLen_o, sLen_r, sLen_s, sInt_i, sAbs_i, sMin2_i, sMax2_i, sStrI_i, sTupOf_t, sTupOf_r, sLstOf_t, sLstOf_r, sAppend_r, sPop_r, sPopAt_r, sInsert_r, sSet_r, sEq_ii, sEq_ss, sNe_ii, sNe_ss, sIn_ss, sIn_st, sIn_sr, sIs_n, sIsNot_n, isNonP_n, isNonP_t, isNonP_s, isNonP_i, isNonP_r, sNeg_i, sSl_r, mDict0_n, mDict1_n, gTupM_t, gConsM_c, gNilM_n, seqP_t, seqP_o, seqP_r, withL_upd, upd_upd, dec_if, true_and, and_true, List.set_cons_zero, List.set_cons_succ, atI_0, atI_1, atI_2, ixN_30, ixN_31, ixN_32, ixN_s0, Option.some.injEq, exists_eq_left', exists_eq_left, Bool.not_true, Bool.not_false, if_true, if_false, Bool.false_eq_true, reduceCtorEq, List.length_cons, List.length_nil, endsOf, wipeM, List.map_cons, List.map_nil, ite_true, ite_false, eq_self_iff_true, false_and, Nat.reduceAdd, decide_true, decide_false]
  refine ⟨⟨by omega, by omega⟩, ?_⟩
  have e1 : ((deep : Nat) : Int).toNat = deep := by omega
  rw [e1]
  refine for_rng (fun i μ M' => ∃ ch k, μ = [some (.ref st), some (.ref nm), some (.int size), some (.int deep), some (.tup ch), k, none, none, none, none, none, none] ∧ M = M' ∧ goodR ns ch = true ∧ cntR ch = i ∧ depR ch = i)
    (fun i μ M' L hi h hl => ?_) (fun μ M' h => ?_) ⟨[], none, rfl, rfl, goodR_nil, cntR_nil, depR_nil⟩
  · obtain ⟨ch, k, rfl, rfl, hg, hc, hdp⟩ := h
    obtain ⟨z, n, hn, ha⟩ := nm_at hne i
    simp only [mSeq, mAsg, mOp, mUn, mVar, mC, mCB, mCons, mNil, mTup, mLst_n, mB, mTru, mNot, mAnd, mOr, mAndV, mOrV, mNotV, mIf, mIfS, mRet, mRetN, mDrop, mNext, mBreak, mCont, mBM, mBM0, mCall, mFor, mLc, mYes, iSeq, iRng, iRng2, iRevRng, gNameM, gSubM, mAug, mIsi, mSl, mPart, mNoPart, mRaise, getS_0, getS_s, isB_bl, truP_t, truP_b, sIx_t, sIx_o, sIx_r, sIx_s, sAdd_ii, sAdd_ss, sAdd_tt, sAdd_rr, sIAdd_ii, sIAdd_ss, sMul_ii, sMul_si, sI2_ii, sLen_t, sLen_o, sLen_r, sLen_s, sInt_i, sAbs_i, sMin2_i, sMax2_i, sStrI_i, sTupOf_t, sTupOf_r, sLstOf_t, sLstOf_r, sAppend_r, sPop_r, sPopAt_r, sInsert_r, sSet_r, sEq_ii, sEq_ss, sNe_ii, sNe_ss, sIn_ss, sIn_st, sIn_sr, sIs_n, sIsNot_n, isNonP_n, isNonP_t, isNonP_s, isNonP_i, isNonP_r, sNeg_i, sSl_r, mDict0_n, mDict1_n, gTupM_t, gConsM_c, gNilM_n, seqP_t, seqP_o, seqP_r, withL_upd, upd_upd, dec_if, true_and, and_true, List.set_cons_zero, List.set_cons_succ, atI_0, atI_1, atI_2, ixN_30, ixN_31, ixN_32, ixN_s0, Option.some.injEq, exists_eq_left', exists_eq_left, Bool.not_true, Bool.not_false, if_true, if_false, Bool.false_eq_true, reduceCtorEq, List.length_cons, List.length_nil, endsOf, wipeM, List.map_cons, List.map_nil, ite_true, ite_false, eq_self_iff_true, false_and, Nat.reduceAdd, decide_true, decide_false, withL_eq hnm]
    refine ⟨z, .str n, ha, by decide, by decide, hl _ _ ⟨_, _, rfl, rfl, ?_, ?_, ?_⟩⟩
    · rw [goodR_one, goodT, hg]; simpa using hn
    · rw [cntR_one, cntT, hc]; omega
    · rw [depR_one, depT, hdp]; omega
  · obtain ⟨ch, k, rfl, rfl, hg, hc, hdp⟩ := h
    refine hN1 _ _ ?_
    clear hN1 N1
    refine seq_i fun N1 hN1 => ?_
    simp only [mSeq, mAsg, mOp, mUn, mVar, mC, mCB, mCons, mNil, mTup, mLst_n, mB, mTru, mNot, mAnd, mOr, mAndV, mOrV, mNotV, mIf, mIfS, mRet, mRetN, mDrop, mNext, mBreak, mCont, mBM, mBM0, mCall, mFor, mLc, mYes, iSeq, iRng, iRng2, iRevRng, gNameM, gSubM, mAug, mIsi, mSl, mPart, mNoPart, mRaise, getS_0, getS_s, isB_bl, truP_t, truP_b, sIx_t, sIx_o, sIx_r, sIx_s, sAdd_ii, sAdd_ss, sAdd_tt, sAdd_rr, sIAdd_ii, sIAdd_ss, sMul_ii, sMul_si, sI2_ii, sLen_t, sLen_o, sLen_r, sLen_s, sInt_i, sAbs_i, sMin2_i, sMax2_i, sStrI_i, sTupOf_t, sTupOf_r, sLstOf_t, sLstOf_r, sAppend_r, sPop_r, sPopAt_r, sInsert_r, sSet_r, sEq_ii, sEq_ss, sNe_ii, sNe_ss, sIn_ss, sIn_st, sIn_sr, sIs_n, sIsNot_n, isNonP_n, isNonP_t, isNonP_s, isNonP_i, isNonP_r, sNeg_i, sSl_r, mDict0_n, mDict1_n, gTupM_t, gConsM_c, gNilM_n, seqP_t, seqP_o, seqP_r, withL_upd, upd_upd, dec_if, true_and, and_true, List.set_cons_zero, List.set_cons_succ, atI_0, atI_1, atI_2, ixN_30, ixN_31, ixN_32, ixN_s0, Option.some.injEq, exists_eq_left', exists_eq_left, Bool.not_true, Bool.not_false, if_true, if_false, Bool.false_eq_true, reduceCtorEq, List.length_cons, List.length_nil, endsOf, wipeM, List.map_cons, List.map_nil, ite_true, ite_false, eq_self_iff_true, false_and, Nat.reduceAdd, decide_true, decide_false]
    refine ⟨by decide, newL_i fun p M1 n1 h1 x1 => hN1 _ _ ?_⟩
    clear hN1 N1
    refine seq_i fun N1 hN1 => ?_
    simp only [mSeq, mAsg, mOp, mUn, mVar, mC, mCB, mCons, mNil, mTup, mLst_n, mB, mTru, mNot, mAnd, mOr, mAndV, mOrV, mNotV, mIf, mIfS, mRet, mRetN, mDrop, mNext, mBreak, mCont, mBM, mBM0, mCall, mFor, mLc, mYes, iSeq, iRng, iRng2, iRevRng, gNameM, gSubM, mAug, mIsi, mSl, mPart, mNoPart, mRaise, getS_0, getS_s, isB_bl, truP_t, truP_b, sIx_t, sIx_o, sIx_r, sIx_s, sAdd_ii, sAdd_ss, sAdd_tt, sAdd_rr, sIAdd_ii, sIAdd_ss, sMul_ii, sMul_si, sI2_ii, sLen_t, sLen_o, sLen_r, sLen_s, sInt_i, sAbs_i, sMin2_i, sMax2_i, sStrI_i, sTupOf_t, sTupOf_r, sLstOf_t, sLstOf_r, sAppend_r, sPop_r, sPopAt_r, sInsert_r, sSet_r, sEq_ii, sEq_ss, sNe_ii, sNe_ss, sIn_ss, sIn_st, sIn_sr, sIs_n, sIsNot_n, isNonP_n, isNonP_t, isNonP_s, isNonP_i, isNonP_r, sNeg_i, sSl_r, mDict0_n, mDict1_n, gTupM_t, gConsM_c, gNilM_n, seqP_t, seqP_o, seqP_r, withL_upd, upd_upd, dec_if, true_and, and_true, List.set_cons_zero, List.set_cons_succ, atI_0, atI_1, atI_2, ixN_30, ixN_31, ixN_32, ixN_s0, Option.some.injEq, exists_eq_left', exists_eq_left, Bool.not_true, Bool.not_false, if_true, if_false, Bool.false_eq_true, reduceCtorEq, List.length_cons, List.length_nil, endsOf, wipeM, List.map_cons, List.map_nil, ite_true, ite_false, eq_self_iff_true, false_and, Nat.reduceAdd, decide_true, decide_false]
    refine hN1 _ _ ?_
    clear hN1 N1
    have op := D.oth n1
    refine seq_i fun N1 hN1 => ?_
    have ls : ((size : Nat) : Int) - (deep : Nat) = ((size - deep : Nat) : Int) := by omega
    have fin : ∀ left ro k t pa na M', DrawSt M' st g c → Fr st g M' M' → M' p = some (.lst ro) → ro.length ≤ 2000 → goodR ns ro = true → cntR ro + left = size - deep → depR ro ≤ 2 → (left = 0 ∨ 2000 ≤ cntR ro) → Fr st g M M' → 
        N1 [some (.ref st), some (.ref nm), some (.int size), some (.int deep), some (.tup ch), k, some (.ref p), some (.int (left : Nat)), t, pa, na, none] M' := by
      intro left ro k t pa na M' D' _ hp hrl hrg hrc hrd hend F'
      refine hN1 _ _ ?_
      refine seq_i fun N2 hN2 => ?_
      simp only [mSeq, mAsg, mOp, mUn, mVar, mC, mCB, mCons, mNil, mTup, mLst_n, mB, mTru, mNot, mAnd, mOr, mAndV, mOrV, mNotV, mIf, mIfS, mRet, mRetN, mDrop, mNext, mBreak, mCont, mBM, mBM0, mCall, mFor, mLc, mYes, iSeq, iRng, iRng2, iRevRng, gNameM, gSubM, mAug, mIsi, mSl, mPart, mNoPart, mRaise, getS_0, getS_s, isB_bl, truP_t, truP_b, sIx_t, sIx_o, sIx_r, sIx_s, sAdd_ii, sAdd_ss, sAdd_tt, sAdd_rr, sIAdd_ii, sIAdd_ss, sMul_ii, sMul_si, sI2_ii, sLen_t, sLen_o, sLen_r, sLen_s, sInt_i, sAbs_i, sMin2_i, sMax2_i, sStrI_i, sTupOf_t, sTupOf_r, sLstOf_t, sLstOf_r, sAppend_r, sPop_r, sPopAt_r, sInsert_r, sSet_r, sEq_ii, sEq_ss, sNe_ii, sNe_ss, sIn_ss, sIn_st, sIn_sr, sIs_n, sIsNot_n, isNonP_n, isNonP_t, isNonP_s, isNonP_i, isNonP_r, sNeg_i, sSl_r, mDict0_n, mDict1_n, gTupM_t, gConsM_c, gNilM_n, seqP_t, seqP_o, seqP_r, withL_upd, upd_upd, dec_if, true_and, and_true, List.set_cons_zero, List.set_cons_succ, atI_0, atI_1, atI_2, ixN_30, ixN_31, ixN_32, ixN_s0, Option.some.injEq, exists_eq_left', exists_eq_left, Bool.not_true, Bool.not_false, if_true, if_false, Bool.false_eq_true, reduceCtorEq, List.length_cons, List.length_nil, endsOf, wipeM, List.map_cons, List.map_nil, ite_true, ite_false, eq_self_iff_true, false_and, Nat.reduceAdd, decide_true, decide_false, withL_eq hp]
      refine draw_i D' (by omega) (by omega) fun dd M2 hdd D2 F2 => hN2 _ _ ?_
      have hp2 := F2.at op hp
      have hdd' : dd ≤ ro.length := by omega
      simp only [mSeq, mAsg, mOp, mUn, mVar, mC, mCB, mCons, mNil, mTup, mLst_n, mB, mTru, mNot, mAnd, mOr, mAndV, mOrV, mNotV, mIf, mIfS, mRet, mRetN, mDrop, mNext, mBreak, mCont, mBM, mBM0, mCall, mFor, mLc, mYes, iSeq, iRng, iRng2, iRevRng, gNameM, gSubM, mAug, mIsi, mSl, mPart, mNoPart, mRaise, getS_0, getS_s, isB_bl, truP_t, truP_b, sIx_t, sIx_o, sIx_r, sIx_s, sAdd_ii, sAdd_ss, sAdd_tt, sAdd_rr, sIAdd_ii, sIAdd_ss, sMul_ii, sMul_si, sI2_ii, sLen_t, sLen_o, sLen_r, sLen_s, sInt_i, sAbs_i, sMin2_i, sMax2_i, sStrI_i, sTupOf_t, sTupOf_r, sLstOf_t, sLstOf_r, sAppend_r, sPop_r, sPopAt_r, sInsert_r, sSet_r, sEq_ii, sEq_ss, sNe_ii, sNe_ss, sIn_ss, sIn_st, sIn_sr, sIs_n, sIsNot_n, isNonP_n, isNonP_t, isNonP_s, isNonP_i, isNonP_r, sNeg_i, sSl_r, mDict0_n, mDict1_n, gTupM_t, gConsM_c, gNilM_n, seqP_t, seqP_o, seqP_r, withL_upd, upd_upd, dec_if, true_and, and_true, List.set_cons_zero, List.set_cons_succ, atI_0, atI_1, atI_2, ixN_30, ixN_31, ixN_32, ixN_s0, Option.some.injEq, exists_eq_left', exists_eq_left, Bool.not_true, Bool.not_false, if_true, if_false, Bool.false_eq_true, reduceCtorEq, List.length_cons, List.length_nil, endsOf, wipeM, List.map_cons, List.map_nil, ite_true, ite_false, eq_self_iff_true, false_and, Nat.reduceAdd, decide_true, decide_false, withL_eq hp2]
      rw [cutP_take hdd']
      refine newL_i fun p3 M3 n3 h3 x3 => ?_
      simp only [mSeq, mAsg, mOp, mUn, mVar, mC, mCB, mCons, mNil, mTup, mLst_n, mB, mTru, mNot, mAnd, mOr, mAndV, mOrV, mNotV, mIf, mIfS, mRet, mRetN, mDrop, mNext, mBreak, mCont, mBM, mBM0, mCall, mFor, mLc, mYes, iSeq, iRng, iRng2, iRevRng, gNameM, gSubM, mAug, mIsi, mSl, mPart, mNoPart, mRaise, getS_0, getS_s, isB_bl, truP_t, truP_b, sIx_t, sIx_o, sIx_r, sIx_s, sAdd_ii, sAdd_ss, sAdd_tt, sAdd_rr, sIAdd_ii, sIAdd_ss, sMul_ii, sMul_si, sI2_ii, sLen_t, sLen_o, sLen_r, sLen_s, sInt_i, sAbs_i, sMin2_i, sMax2_i, sStrI_i, sTupOf_t, sTupOf_r, sLstOf_t, sLstOf_r, sAppend_r, sPop_r, sPopAt_r, sInsert_r, sSet_r, sEq_ii, sEq_ss, sNe_ii, sNe_ss, sIn_ss, sIn_st, sIn_sr, sIs_n, sIsNot_n, isNonP_n, isNonP_t, isNonP_s, isNonP_i, isNonP_r, sNeg_i, sSl_r, mDict0_n, mDict1_n, gTupM_t, gConsM_c, gNilM_n, seqP_t, seqP_o, seqP_r, withL_upd, upd_upd, dec_if, true_and, and_true, List.set_cons_zero, List.set_cons_succ, atI_0, atI_1, atI_2, ixN_30, ixN_31, ixN_32, ixN_s0, Option.some.injEq, exists_eq_left', exists_eq_left, Bool.not_true, Bool.not_false, if_true, if_false, Bool.false_eq_true, reduceCtorEq, List.length_cons, List.length_nil, endsOf, wipeM, List.map_cons, List.map_nil, ite_true, ite_false, eq_self_iff_true, false_and, Nat.reduceAdd, decide_true, decide_false, withL_eq h3, withL_eq (x3 _ _ hp2)]
      have cl1 := cntR_len ch
      rw [cutP_drop hdd']
      refine ⟨by rw [sz24, List.length_take]; omega, newL_i fun p4 M4 n4 h4 x4 => ?_⟩
      simp only [mSeq, mAsg, mOp, mUn, mVar, mC, mCB, mCons, mNil, mTup, mLst_n, mB, mTru, mNot, mAnd, mOr, mAndV, mOrV, mNotV, mIf, mIfS, mRet, mRetN, mDrop, mNext, mBreak, mCont, mBM, mBM0, mCall, mFor, mLc, mYes, iSeq, iRng, iRng2, iRevRng, gNameM, gSubM, mAug, mIsi, mSl, mPart, mNoPart, mRaise, getS_0, getS_s, isB_bl, truP_t, truP_b, sIx_t, sIx_o, sIx_r, sIx_s, sAdd_ii, sAdd_ss, sAdd_tt, sAdd_rr, sIAdd_ii, sIAdd_ss, sMul_ii, sMul_si, sI2_ii, sLen_t, sLen_o, sLen_r, sLen_s, sInt_i, sAbs_i, sMin2_i, sMax2_i, sStrI_i, sTupOf_t, sTupOf_r, sLstOf_t, sLstOf_r, sAppend_r, sPop_r, sPopAt_r, sInsert_r, sSet_r, sEq_ii, sEq_ss, sNe_ii, sNe_ss, sIn_ss, sIn_st, sIn_sr, sIs_n, sIsNot_n, isNonP_n, isNonP_t, isNonP_s, isNonP_i, isNonP_r, sNeg_i, sSl_r, mDict0_n, mDict1_n, gTupM_t, gConsM_c, gNilM_n, seqP_t, seqP_o, seqP_r, withL_upd, upd_upd, dec_if, true_and, and_true, List.set_cons_zero, List.set_cons_succ, atI_0, atI_1, atI_2, ixN_30, ixN_31, ixN_32, ixN_s0, Option.some.injEq, exists_eq_left', exists_eq_left, Bool.not_true, Bool.not_false, if_true, if_false, Bool.false_eq_true, reduceCtorEq, List.length_cons, List.length_nil, endsOf, wipeM, List.map_cons, List.map_nil, ite_true, ite_false, eq_self_iff_true, false_and, Nat.reduceAdd, decide_true, decide_false, withL_eq h4]
      refine ⟨by rw [sz24, List.length_append, List.length_take, List.length_drop]; omega, ?_⟩
      have et : ro = ro.take dd ++ ro.drop dd := (List.take_append_drop dd ro).symm
      have c2 : cntR ro = cntR (ro.take dd) + cntR (ro.drop dd) := by conv => lhs; rw [et, cntR_app]
      have d2 : depR ro = max (depR (ro.take dd)) (depR (ro.drop dd)) := by conv => lhs; rw [et, depR_app]
      have g2 : goodR ns ro = (goodR ns (ro.take dd) && goodR ns (ro.drop dd)) := by conv => lhs; rw [et, goodR_app]
      have ct : cntR (ro.take dd ++ ch ++ ro.drop dd) = cntR ro + deep := by rw [cntR_app, cntR_app, c2, hc]; omega
      have dt : depR (ro.take dd ++ ch ++ ro.drop dd) = max (depR ro) deep := by rw [depR_app, depR_app, d2, hdp]; omega
      refine q _ _ ((D2.ext x3).ext x4) (((F'.trans F2).trans x3.fr).trans x4.fr) ⟨?_, ?_, ?_, ?_, ?_, ?_, ?_⟩
      · rw [goodR_app, goodR_app, hg]
        rw [hrg] at g2
        have g3 := (Bool.and_eq_true _ _).mp g2.symm
        rw [g3.1, g3.2]; rfl
      · intro z
        have : cntR (ro.take dd ++ ch ++ ro.drop dd) = 0 := by rw [z, cntR_nil]
        omega
      · intro h; omega
      · omega
      · omega
      · omega
      · omega
    simp only [mSeq, mAsg, mOp, mUn, mVar, mC, mCB, mCons, mNil, mTup, mLst_n, mB, mTru, mNot, mAnd, mOr, mAndV, mOrV, mNotV, mIf, mIfS, mRet, mRetN, mDrop, mNext, mBreak, mCont, mBM, mBM0, mCall, mFor, mLc, mYes, iSeq, iRng, iRng2, iRevRng, gNameM, gSubM, mAug, mIsi, mSl, mPart, mNoPart, mRaise, getS_0, getS_s, isB_bl, truP_t, truP_b, sIx_t, sIx_o, sIx_r, sIx_s, sAdd_ii, sAdd_ss, sAdd_tt, sAdd_rr, sIAdd_ii, sIAdd_ss, sMul_ii, sMul_si, sI2_ii, sLen_t, sLen_o, sLen_r, sLen_s, sInt_i, sAbs_i, sMin2_i, sMax2_i, sStrI_i, sTupOf_t, sTupOf_r, sLstOf_t, sLstOf_r, sAppend_r, sPop_r, sPopAt_r, sInsert_r, sSet_r, sEq_ii, sEq_ss, sNe_ii, sNe_ss, sIn_ss, sIn_st, sIn_sr, sIs_n, sIsNot_n, isNonP_n, isNonP_t, isNonP_s, isNonP_i, isNonP_r, sNeg_i, sSl_r, mDict0_n, mDict1_n, gTupM_t, gConsM_c, gNilM_n, seqP_t, seqP_o, seqP_r, withL_upd, upd_upd, dec_if, true_and, and_true, List.set_cons_zero, List.set_cons_succ, atI_0, atI_1, atI_2, ixN_30, ixN_31, ixN_32, ixN_s0, Option.some.injEq, exists_eq_left', exists_eq_left, Bool.not_true, Bool.not_false, if_true, if_false, Bool.false_eq_true, reduceCtorEq, List.length_cons, List.length_nil, endsOf, wipeM, List.map_cons, List.map_nil, ite_true, ite_false, eq_self_iff_true, false_and, Nat.reduceAdd, decide_true, decide_false]
    refine ⟨⟨by decide, by decide⟩, ?_⟩
    rw [ls]
    have e2 : ((2000 : Int)).toNat = 2000 := rfl
    rw [e2]
    refine for_rng (fun i μ M' => ∃ (left : Nat) (ro : List PV) (k t pa na : Option PV), μ = [some (.ref st), some (.ref nm), some (.int size), some (.int deep), some (.tup ch), k, some (.ref p), some (.int (left : Nat)), t, pa, na, none] ∧ DrawSt M' st g c ∧ Fr st g M M' ∧ M' p = some (.lst ro) ∧ ro.length = i ∧ goodR ns ro = true ∧ cntR ro + left = size - deep ∧ depR ro ≤ 2)
      (fun i μ M' L hi h hl => ?_) (fun μ M' h => ?_) ⟨size - deep, [], k, none, none, none, rfl, D.ext x1, x1.fr, h1, rfl, goodR_nil, by rw [cntR_nil]; omega, by rw [depR_nil]; omega⟩
    · obtain ⟨left, ro, k, t, pa, na, rfl, D', F', hp, hrl, hrg, hrc, hrd⟩ := h
      refine seq_i fun N2 hN2 => ?_
      simp only [mSeq, mAsg, mOp, mUn, mVar, mC, mCB, mCons, mNil, mTup, mLst_n, mB, mTru, mNot, mAnd, mOr, mAndV, mOrV, mNotV, mIf, mIfS, mRet, mRetN, mDrop, mNext, mBreak, mCont, mBM, mBM0, mCall, mFor, mLc, mYes, iSeq, iRng, iRng2, iRevRng, gNameM, gSubM, mAug, mIsi, mSl, mPart, mNoPart, mRaise, getS_0, getS_s, isB_bl, truP_t, truP_b, sIx_t, sIx_o, sIx_r, sIx_s, sAdd_ii, sAdd_ss, sAdd_tt, sAdd_rr, sIAdd_ii, sIAdd_ss, sMul_ii, sMul_si, sI2_ii, sLen_t, sLen_o, sLen_r, sLen_s, sInt_i, sAbs_i, sMin2_i, sMax2_i, sStrI_i, sTupOf_t, sTupOf_r, sLstOf_t, sLstOf_r, sAppend_r, sPop_r, sPopAt_r, sInsert_r, sSet_r, sEq_ii, sEq_ss, sNe_ii, sNe_ss, sIn_ss, sIn_st, sIn_sr, sIs_n, sIsNot_n, isNonP_n, isNonP_t, isNonP_s, isNonP_i, isNonP_r, sNeg_i, sSl_r, mDict0_n, mDict1_n, gTupM_t, gConsM_c, gNilM_n, seqP_t, seqP_o, seqP_r, withL_upd, upd_upd, dec_if, true_and, and_true, List.set_cons_zero, List.set_cons_succ, atI_0, atI_1, atI_2, ixN_30, ixN_31, ixN_32, ixN_s0, Option.some.injEq, exists_eq_left', exists_eq_left, Bool.not_true, Bool.not_false, if_true, if_false, Bool.false_eq_true, reduceCtorEq, List.length_cons, List.length_nil, endsOf, wipeM, List.map_cons, List.map_nil, ite_true, ite_false, eq_self_iff_true, false_and, Nat.reduceAdd, decide_true, decide_false]
      by_cases z : (left : Int) = 0
      · rw [if_pos z]
        exact fin left ro k _ pa na M' D' Fr.refl hp (by omega) hrg hrc hrd (.inl (by omega)) F'
      rw [if_neg z]
      refine hN2 _ _ ?_
      clear hN2 N2
      refine seq_i fun N2 hN2 => ?_
      simp only [mSeq, mAsg, mOp, mUn, mVar, mC, mCB, mCons, mNil, mTup, mLst_n, mB, mTru, mNot, mAnd, mOr, mAndV, mOrV, mNotV, mIf, mIfS, mRet, mRetN, mDrop, mNext, mBreak, mCont, mBM, mBM0, mCall, mFor, mLc, mYes, iSeq, iRng, iRng2, iRevRng, gNameM, gSubM, mAug, mIsi, mSl, mPart, mNoPart, mRaise, getS_0, getS_s, isB_bl, truP_t, truP_b, sIx_t, sIx_o, sIx_r, sIx_s, sAdd_ii, sAdd_ss, sAdd_tt, sAdd_rr, sIAdd_ii, sIAdd_ss, sMul_ii, sMul_si, sI2_ii, sLen_t, sLen_o, sLen_r, sLen_s, sInt_i, sAbs_i, sMin2_i, sMax2_i, sStrI_i, sTupOf_t, sTupOf_r, sLstOf_t, sLstOf_r, sAppend_r, sPop_r, sPopAt_r, sInsert_r, sSet_r, sEq_ii, sEq_ss, sNe_ii, sNe_ss, sIn_ss, sIn_st, sIn_sr, sIs_n, sIsNot_n, isNonP_n, isNonP_t, isNonP_s, isNonP_i, isNonP_r, sNeg_i, sSl_r, mDict0_n, mDict1_n, gTupM_t, gConsM_c, gNilM_n, seqP_t, seqP_o, seqP_r, withL_upd, upd_upd, dec_if, true_and, and_true, List.set_cons_zero, List.set_cons_succ, atI_0, atI_1, atI_2, ixN_30, ixN_31, ixN_32, ixN_s0, Option.some.injEq, exists_eq_left', exists_eq_left, Bool.not_true, Bool.not_false, if_true, if_false, Bool.false_eq_true, reduceCtorEq, List.length_cons, List.length_nil, endsOf, wipeM, List.map_cons, List.map_nil, ite_true, ite_false, eq_self_iff_true, false_and, Nat.reduceAdd, decide_true, decide_false]
      refine draw_i D' (by decide) (by decide) fun d1 M2 hd1 D2 F2 => ?_
      simp only [mSeq, mAsg, mOp, mUn, mVar, mC, mCB, mCons, mNil, mTup, mLst_n, mB, mTru, mNot, mAnd, mOr, mAndV, mOrV, mNotV, mIf, mIfS, mRet, mRetN, mDrop, mNext, mBreak, mCont, mBM, mBM0, mCall, mFor, mLc, mYes, iSeq, iRng, iRng2, iRevRng, gNameM, gSubM, mAug, mIsi, mSl, mPart, mNoPart, mRaise, getS_0, getS_s, isB_bl, truP_t, truP_b, sIx_t, sIx_o, sIx_r, sIx_s, sAdd_ii, sAdd_ss, sAdd_tt, sAdd_rr, sIAdd_ii, sIAdd_ss, sMul_ii, sMul_si, sI2_ii, sLen_t, sLen_o, sLen_r, sLen_s, sInt_i, sAbs_i, sMin2_i, sMax2_i, sStrI_i, sTupOf_t, sTupOf_r, sLstOf_t, sLstOf_r, sAppend_r, sPop_r, sPopAt_r, sInsert_r, sSet_r, sEq_ii, sEq_ss, sNe_ii, sNe_ss, sIn_ss, sIn_st, sIn_sr, sIs_n, sIsNot_n, isNonP_n, isNonP_t, isNonP_s, isNonP_i, isNonP_r, sNeg_i, sSl_r, mDict0_n, mDict1_n, gTupM_t, gConsM_c, gNilM_n, seqP_t, seqP_o, seqP_r, withL_upd, upd_upd, dec_if, true_and, and_true, List.set_cons_zero, List.set_cons_succ, atI_0, atI_1, atI_2, ixN_30, ixN_31, ixN_32, ixN_s0, Option.some.injEq, exists_eq_left', exists_eq_left, Bool.not_true, Bool.not_false, if_true, if_false, Bool.false_eq_true, reduceCtorEq, List.length_cons, List.length_nil, endsOf, wipeM, List.map_cons, List.map_nil, ite_true, ite_false, eq_self_iff_true, false_and, Nat.reduceAdd, decide_true, decide_false]
      have ep : ∃ pq : Nat, (if (1 + (d1 : Int)) < (left : Int) then 1 + (d1 : Int) else (left : Int)) = (pq : Nat) ∧ 1 ≤ pq ∧ pq ≤ left ∧ pq ≤ 300 := by
        by_cases y : (1 + (d1 : Int)) < (left : Int)
        · exact ⟨1 + d1, by rw [if_pos y]; omega, by omega, by omega, by omega⟩
        · exact ⟨left, by rw [if_neg y], by omega, by omega, by omega⟩
      obtain ⟨pq, ep, p1, p2, p3⟩ := ep
      rw [ep]
      refine hN2 _ _ ?_
      clear hN2 N2
      have nm2 := F2.at on (F'.at on hnm)
      refine seq_i fun N2 hN2 => ?_
      simp only [mSeq, mAsg, mOp, mUn, mVar, mC, mCB, mCons, mNil, mTup, mLst_n, mB, mTru, mNot, mAnd, mOr, mAndV, mOrV, mNotV, mIf, mIfS, mRet, mRetN, mDrop, mNext, mBreak, mCont, mBM, mBM0, mCall, mFor, mLc, mYes, iSeq, iRng, iRng2, iRevRng, gNameM, gSubM, mAug, mIsi, mSl, mPart, mNoPart, mRaise, getS_0, getS_s, isB_bl, truP_t, truP_b, sIx_t, sIx_o, sIx_r, sIx_s, sAdd_ii, sAdd_ss, sAdd_tt, sAdd_rr, sIAdd_ii, sIAdd_ss, sMul_ii, sMul_si, sI2_ii, sLen_t, sLen_o, sLen_r, sLen_s, sInt_i, sAbs_i, sMin2_i, sMax2_i, sStrI_i, sTupOf_t, sTupOf_r, sLstOf_t, sLstOf_r, sAppend_r, sPop_r, sPopAt_r, sInsert_r, sSet_r, sEq_ii, sEq_ss, sNe_ii, sNe_ss, sIn_ss, sIn_st, sIn_sr, sIs_n, sIsNot_n, isNonP_n, isNonP_t, isNonP_s, isNonP_i, isNonP_r, sNeg_i, sSl_r, mDict0_n, mDict1_n, gTupM_t, gConsM_c, gNilM_n, seqP_t, seqP_o, seqP_r, withL_upd, upd_upd, dec_if, true_and, and_true, List.set_cons_zero, List.set_cons_succ, atI_0, atI_1, atI_2, ixN_30, ixN_31, ixN_32, ixN_s0, Option.some.injEq, exists_eq_left', exists_eq_left, Bool.not_true, Bool.not_false, if_true, if_false, Bool.false_eq_true, reduceCtorEq, List.length_cons, List.length_nil, endsOf, wipeM, List.map_cons, List.map_nil, ite_true, ite_false, eq_self_iff_true, false_and, Nat.reduceAdd, decide_true, decide_false, withL_eq nm2]
      refine draw_i D2 (by omega) (by omega) fun d2 M3 hd2 D3 F3 => ?_
      have nm3 := F3.at on nm2
      have hp3 := F3.at op (F2.at op hp)
      obtain ⟨n, hn, ha⟩ := nm_dr hd2
      simp only [mSeq, mAsg, mOp, mUn, mVar, mC, mCB, mCons, mNil, mTup, mLst_n, mB, mTru, mNot, mAnd, mOr, mAndV, mOrV, mNotV, mIf, mIfS, mRet, mRetN, mDrop, mNext, mBreak, mCont, mBM, mBM0, mCall, mFor, mLc, mYes, iSeq, iRng, iRng2, iRevRng, gNameM, gSubM, mAug, mIsi, mSl, mPart, mNoPart, mRaise, getS_0, getS_s, isB_bl, truP_t, truP_b, sIx_t, sIx_o, sIx_r, sIx_s, sAdd_ii, sAdd_ss, sAdd_tt, sAdd_rr, sIAdd_ii, sIAdd_ss, sMul_ii, sMul_si, sI2_ii, sLen_t, sLen_o, sLen_r, sLen_s, sInt_i, sAbs_i, sMin2_i, sMax2_i, sStrI_i, sTupOf_t, sTupOf_r, sLstOf_t, sLstOf_r, sAppend_r, sPop_r, sPopAt_r, sInsert_r, sSet_r, sEq_ii, sEq_ss, sNe_ii, sNe_ss, sIn_ss, sIn_st, sIn_sr, sIs_n, sIsNot_n, isNonP_n, isNonP_t, isNonP_s, isNonP_i, isNonP_r, sNeg_i, sSl_r, mDict0_n, mDict1_n, gTupM_t, gConsM_c, gNilM_n, seqP_t, seqP_o, seqP_r, withL_upd, upd_upd, dec_if, true_and, and_true, List.set_cons_zero, List.set_cons_succ, atI_0, atI_1, atI_2, ixN_30, ixN_31, ixN_32, ixN_s0, Option.some.injEq, exists_eq_left', exists_eq_left, Bool.not_true, Bool.not_false, if_true, if_false, Bool.false_eq_true, reduceCtorEq, List.length_cons, List.length_nil, endsOf, wipeM, List.map_cons, List.map_nil, ite_true, ite_false, eq_self_iff_true, false_and, Nat.reduceAdd, decide_true, decide_false, withL_eq nm3]
      refine ⟨.str n, ha, hN2 _ _ ?_⟩
      clear hN2 N2
      refine seq_i fun N2 hN2 => ?_
      simp only [mSeq, mAsg, mOp, mUn, mVar, mC, mCB, mCons, mNil, mTup, mLst_n, mB, mTru, mNot, mAnd, mOr, mAndV, mOrV, mNotV, mIf, mIfS, mRet, mRetN, mDrop, mNext, mBreak, mCont, mBM, mBM0, mCall, mFor, mLc, mYes, iSeq, iRng, iRng2, iRevRng, gNameM, gSubM, mAug, mIsi, mSl, mPart, mNoPart, mRaise, getS_0, getS_s, isB_bl, truP_t, truP_b, sIx_t, sIx_o, sIx_r, sIx_s, sAdd_ii, sAdd_ss, sAdd_tt, sAdd_rr, sIAdd_ii, sIAdd_ss, sMul_ii, sMul_si, sI2_ii, sLen_t, sLen_o, sLen_r, sLen_s, sInt_i, sAbs_i, sMin2_i, sMax2_i, sStrI_i, sTupOf_t, sTupOf_r, sLstOf_t, sLstOf_r, sAppend_r, sPop_r, sPopAt_r, sInsert_r, sSet_r, sEq_ii, sEq_ss, sNe_ii, sNe_ss, sIn_ss, sIn_st, sIn_sr, sIs_n, sIsNot_n, isNonP_n, isNonP_t, isNonP_s, isNonP_i, isNonP_r, sNeg_i, sSl_r, mDict0_n, mDict1_n, gTupM_t, gConsM_c, gNilM_n, seqP_t, seqP_o, seqP_r, withL_upd, upd_upd, dec_if, true_and, and_true, List.set_cons_zero, List.set_cons_succ, atI_0, atI_1, atI_2, ixN_30, ixN_31, ixN_32, ixN_s0, Option.some.injEq, exists_eq_left', exists_eq_left, Bool.not_true, Bool.not_false, if_true, if_false, Bool.false_eq_true, reduceCtorEq, List.length_cons, List.length_nil, endsOf, wipeM, List.map_cons, List.map_nil, ite_true, ite_false, eq_self_iff_true, false_and, Nat.reduceAdd, decide_true, decide_false]
      rw [tyM_l hp3]
      refine ⟨trivial, ⟨by omega, by omega⟩, ?_⟩
      have e3 : ((pq : Nat) : Int) - 1 = ((pq - 1 : Nat) : Int) := by omega
      have e4 : (((pq - 1 : Nat) : Int)).toNat = pq - 1 := by omega
      rw [e3, e4]
      have lf : ∀ k : Nat, ∃ n, n ∈ ns ∧ leaf ns (.int k) = .tup [.str n, .tup []] ∧ atI (pss ns) ((k : Int) % ((pss ns).length : Int)) = some (.str n) := by
        intro k
        have h0 := Int.emod_nonneg (k : Int) (show (ns.length : Int) ≠ 0 by omega)
        have h1 := Int.emod_lt_of_pos (k : Int) (show (0 : Int) < (ns.length : Int) by omega)
        obtain ⟨x, a1, a2⟩ := atI_in (l := ns) h0 h1
        refine ⟨x, List.mem_iff_getElem?.mpr ⟨_, a2⟩, ?_, by rw [lns, pss, atI_map, a1]; rfl⟩
        show PV.tup [((pss ns)[((k : Int) % (ns.length : Int)).toNat]?).getD .non, .tup []] = _
        rw [pss, List.getElem?_map, a2]; rfl
      refine lc_pure (it := .fix (rangeP 0 1 (pq - 1))) (leaf ns) (fun P h => h) (by show (rangeP 0 1 (pq - 1)).length ≤ _; rw [rangeP_len, sz24]; omega) (fun x hx R r => ?_) ?_
      · obtain ⟨kk, hk, rfl⟩ := List.mem_map.mp hx
        have hk2 : (0 : Int) + ((kk : Nat) : Int) * 1 = (kk : Int) := by omega
        rw [hk2] at r ⊢
        obtain ⟨n2, hn2, l1, l2⟩ := lf kk
        simp only [mSeq, mAsg, mOp, mUn, mVar, mC, mCB, mCons, mNil, mTup, mLst_n, mB, mTru, mNot, mAnd, mOr, mAndV, mOrV, mNotV, mIf, mIfS, mRet, mRetN, mDrop, mNext, mBreak, mCont, mBM, mBM0, mCall, mFor, mLc, mYes, iSeq, iRng, iRng2, iRevRng, gNameM, gSubM, mAug, mIsi, mSl, mPart, mNoPart, mRaise, getS_0, getS_s, isB_bl, truP_t, truP_b, sIx_t, sIx_o, sIx_r, sIx_s, sAdd_ii, sAdd_ss, sAdd_tt, sAdd_rr, sIAdd_ii, sIAdd_ss, sMul_ii, sMul_si, sI2_ii, sLen_t, sLen_o, sLen_r, sLen_s, sInt_i, sAbs_i, sMin2_i, sMax2_i, sStrI_i, sTupOf_t, sTupOf_r, sLstOf_t, sLstOf_r, sAppend_r, sPop_r, sPopAt_r, sInsert_r, sSet_r, sEq_ii, sEq_ss, sNe_ii, sNe_ss, sIn_ss, sIn_st, sIn_sr, sIs_n, sIsNot_n, isNonP_n, isNonP_t, isNonP_s, isNonP_i, isNonP_r, sNeg_i, sSl_r, mDict0_n, mDict1_n, gTupM_t, gConsM_c, gNilM_n, seqP_t, seqP_o, seqP_r, withL_upd, upd_upd, dec_if, true_and, and_true, List.set_cons_zero, List.set_cons_succ, atI_0, atI_1, atI_2, ixN_30, ixN_31, ixN_32, ixN_s0, Option.some.injEq, exists_eq_left', exists_eq_left, Bool.not_true, Bool.not_false, if_true, if_false, Bool.false_eq_true, reduceCtorEq, List.length_cons, List.length_nil, endsOf, wipeM, List.map_cons, List.map_nil, ite_true, ite_false, eq_self_iff_true, false_and, Nat.reduceAdd, decide_true, decide_false, withL_eq nm3]
        rw [l1] at r
        exact ⟨(nm_at hne kk).1, .str n2, l2, by decide, by decide, r⟩
      refine newL_i fun p4 M4 n4 h4 x4 => ?_
      have hp4 := x4 _ _ hp3
      have lvs : ∀ t ∈ (rangeP 0 1 (pq - 1)).map (leaf ns), ∃ n, n ∈ ns ∧ t = .tup [.str n, .tup []] := by
        intro t ht
        obtain ⟨y, hy, rfl⟩ := List.mem_map.mp ht
        obtain ⟨kk, hk, rfl⟩ := List.mem_map.mp hy
        have hk2 : (0 : Int) + ((kk : Nat) : Int) * 1 = (kk : Int) := by omega
        rw [hk2]
        obtain ⟨n2, hn2, l1, l2⟩ := lf kk
        exact ⟨n2, hn2, l1⟩
      have lvl : ((rangeP 0 1 (pq - 1)).map (leaf ns)).length = pq - 1 := by rw [List.length_map, rangeP_len]
      have h4 : M4 p4 = some (.lst ((rangeP 0 1 (pq - 1)).map (leaf ns))) := h4
      generalize (rangeP 0 1 (pq - 1)).map (leaf ns) = lv at lvs lvl h4
      have lvc : cntR lv = pq - 1 ∧ goodR ns lv = true ∧ depR lv ≤ 1 := by
        rw [← lvl]
        clear lvl h4
        induction lv with
        | nil => exact ⟨cntR_nil, goodR_nil, by rw [depR_nil]; omega⟩
        | cons x r ih =>
          obtain ⟨i1, i2, i3⟩ := ih fun t m => lvs t (List.mem_cons_of_mem _ m)
          obtain ⟨n, hn, rfl⟩ := lvs x List.mem_cons_self
          refine ⟨?_, ?_, ?_⟩
          · rw [cntR, cntT, i1, cntR_nil, List.length_cons]; omega
          · rw [goodR, goodT, i2, goodR_nil]; simpa using hn
          · rw [depR, depT, depR_nil]; omega
      obtain ⟨c1, c2, c3⟩ := lvc
      simp only [mSeq, mAsg, mOp, mUn, mVar, mC, mCB, mCons, mNil, mTup, mLst_n, mB, mTru, mNot, mAnd, mOr, mAndV, mOrV, mNotV, mIf, mIfS, mRet, mRetN, mDrop, mNext, mBreak, mCont, mBM, mBM0, mCall, mFor, mLc, mYes, iSeq, iRng, iRng2, iRevRng, gNameM, gSubM, mAug, mIsi, mSl, mPart, mNoPart, mRaise, getS_0, getS_s, isB_bl, truP_t, truP_b, sIx_t, sIx_o, sIx_r, sIx_s, sAdd_ii, sAdd_ss, sAdd_tt, sAdd_rr, sIAdd_ii, sIAdd_ss, sMul_ii, sMul_si, sI2_ii, sLen_t, sLen_o, sLen_r, sLen_s, sInt_i, sAbs_i, sMin2_i, sMax2_i, sStrI_i, sTupOf_t, sTupOf_r, sLstOf_t, sLstOf_r, sAppend_r, sPop_r, sPopAt_r, sInsert_r, sSet_r, sEq_ii, sEq_ss, sNe_ii, sNe_ss, sIn_ss, sIn_st, sIn_sr, sIs_n, sIsNot_n, isNonP_n, isNonP_t, isNonP_s, isNonP_i, isNonP_r, sNeg_i, sSl_r, mDict0_n, mDict1_n, gTupM_t, gConsM_c, gNilM_n, seqP_t, seqP_o, seqP_r, withL_upd, upd_upd, dec_if, true_and, and_true, List.set_cons_zero, List.set_cons_succ, atI_0, atI_1, atI_2, ixN_30, ixN_31, ixN_32, ixN_s0, Option.some.injEq, exists_eq_left', exists_eq_left, Bool.not_true, Bool.not_false, if_true, if_false, Bool.false_eq_true, reduceCtorEq, List.length_cons, List.length_nil, endsOf, wipeM, List.map_cons, List.map_nil, ite_true, ite_false, eq_self_iff_true, false_and, Nat.reduceAdd, decide_true, decide_false, withL_eq h4, withL_eq hp4]
      refine ⟨by decide, by rw [sz24]; omega, hN2 _ _ ?_⟩
      simp only [mSeq, mAsg, mOp, mUn, mVar, mC, mCB, mCons, mNil, mTup, mLst_n, mB, mTru, mNot, mAnd, mOr, mAndV, mOrV, mNotV, mIf, mIfS, mRet, mRetN, mDrop, mNext, mBreak, mCont, mBM, mBM0, mCall, mFor, mLc, mYes, iSeq, iRng, iRng2, iRevRng, gNameM, gSubM, mAug, mIsi, mSl, mPart, mNoPart, mRaise, getS_0, getS_s, isB_bl, truP_t, truP_b, sIx_t, sIx_o, sIx_r, sIx_s, sAdd_ii, sAdd_ss, sAdd_tt, sAdd_rr, sIAdd_ii, sIAdd_ss, sMul_ii, sMul_si, sI2_ii, sLen_t, sLen_o, sLen_r, sLen_s, sInt_i, sAbs_i, sMin2_i, sMax2_i, sStrI_i, sTupOf_t, sTupOf_r, sLstOf_t, sLstOf_r, sAppend_r, sPop_r, sPopAt_r, sInsert_r, sSet_r, sEq_ii, sEq_ss, sNe_ii, sNe_ss, sIn_ss, sIn_st, sIn_sr, sIs_n, sIsNot_n, isNonP_n, isNonP_t, isNonP_s, isNonP_i, isNonP_r, sNeg_i, sSl_r, mDict0_n, mDict1_n, gTupM_t, gConsM_c, gNilM_n, seqP_t, seqP_o, seqP_r, withL_upd, upd_upd, dec_if, true_and, and_true, List.set_cons_zero, List.set_cons_succ, atI_0, atI_1, atI_2, ixN_30, ixN_31, ixN_32, ixN_s0, Option.some.injEq, exists_eq_left', exists_eq_left, Bool.not_true, Bool.not_false, if_true, if_false, Bool.false_eq_true, reduceCtorEq, List.length_cons, List.length_nil, endsOf, wipeM, List.map_cons, List.map_nil, ite_true, ite_false, eq_self_iff_true, false_and, Nat.reduceAdd, decide_true, decide_false]
      have e5 : (left : Int) - (pq : Nat) = ((left - pq : Nat) : Int) := by omega
      rw [e5]
      refine hl _ _ ⟨left - pq, _, _, _, _, _, rfl, (D3.ext x4).mut op, ((F'.trans F2).trans (F3.trans x4.fr)).mut n1, updM_same, by simp [hrl], ?_, ?_, ?_⟩
      · rw [goodR_app, goodR_one, goodT, c2, hrg]; simpa using hn
      · rw [cntR_app, cntR_one, cntT, c1]; omega
      · rw [depR_app, depR_one, depT]; omega
    · obtain ⟨left, ro, k, t, pa, na, rfl, D', F', hp, hrl, hrg, hrc, hrd⟩ := h
      have := cntR_len ro
      exact fin left ro k t pa na M' D' Fr.refl hp (by omega) hrg hrc hrd (.inr (by omega)) F'
end K01
end PL
end L2
set_option maxRecDepth 100000
set_option maxHeartbeats 2000000
namespace L2
namespace PL
namespace K01
open PySem PySem.Spec PyProof.Rows

/-! ### the law of the drawn forest -/
abbrev pns (l : List Nat) : List PV := l.map fun k => .int (k : Nat)
theorem perm_sum {f : Nat → Nat} {a b : List Nat} (h : a.Perm b) : (a.map f).sum = (b.map f).sum := by
  induction h with
  | nil => rfl
  | cons x _ ih => simp [ih]
  | swap x y l => simp; omega
  | trans _ _ i1 i2 => exact i1.trans i2
theorem rows_sum {f : Nat → Nat} : ∀ (Bt : List (List Nat)) (off : Nat), (∀ j B, Bt[j]? = some B → f (off + j) = 1 + (B.map f).sum) → ((List.range' off Bt.length).map f).sum = Bt.length + (Bt.flatten.map f).sum
  | [], off, _ => by simp
  | B :: Bt, off, h => by
    have ih := rows_sum Bt (off + 1) fun j B' e => by
      have := h (j + 1) B' (by simpa using e)
      rw [← this]; congr 1; omega
    have h0 := h 0 B (by simp)
    rw [List.length_cons, List.range'_succ, List.map_cons, List.sum_cons, ih, List.flatten_cons, List.map_append, List.sum_append]
    rw [Nat.add_zero] at h0
    omega
/-- what stands in built at the end -/
structure Bld (ns : List Str) (many : Nat) (Bs : List (List Nat)) (T : List PV) (from_ : Nat) : Prop where
  len : T.length = many
  at_ : ∀ c, from_ ≤ c → c < many → ∃ n B, n ∈ ns ∧ Bs[c + 1]? = some B ∧ T[c]? = some (.tup [.str n, .tup (B.map fun o => (T[o]?).getD .non)])
structure BsOk (many k : Nat) (Bs : List (List Nat)) : Prop where
  len : Bs.length = many + 1
  perm : Bs.flatten.Perm (List.range k)
  up : ∀ (i : Nat) (B : List Nat), Bs[i]? = some B → ∀ c ∈ B, i ≤ c
theorem sum_cnt {l : List PV} : cntR l = (l.map cntT).sum := by
  induction l with
  | nil => exact cntR_nil
  | cons x l ih => rw [cntR, ih]; simp
theorem dep_le_cnt : ∀ (n : Nat) (l : List PV), cntR l ≤ n → depR l ≤ cntR l
  | n, [], _ => by rw [depR_nil]; omega
  | 0, t :: r, h => by have := cntR_len (t :: r); simp at this; omega
  | n + 1, t :: r, h => by
    rw [cntR] at h ⊢
    rw [depR]
    have c1 : 1 ≤ cntT t := by have := cntR_len [t]; rw [cntR_one] at this; exact this
    have h2 := dep_le_cnt n r (by omega)
    have h1 : depT t ≤ cntT t := by
      unfold depT
      split
      · rename_i x b
        rw [cntT] at h ⊢
        have := dep_le_cnt n b (by omega)
        omega
      · exact c1
    omega
theorem bld_law {ns : List Str} {many : Nat} {Bs : List (List Nat)} {T : List PV} (b : BsOk many many Bs) (h : Bld ns many Bs T 0) {B0 : List Nat} (e0 : Bs[0]? = some B0) :
    goodR ns (B0.map fun o => (T[o]?).getD .non) = true ∧ cntR (B0.map fun o => (T[o]?).getD .non) = many := by
  have inr : ∀ i B, Bs[i]? = some B → ∀ c ∈ B, c < many := fun i B e c hc => by
    have : c ∈ Bs.flatten := List.mem_flatten.mpr ⟨B, List.mem_iff_getElem?.mpr ⟨i, e⟩, hc⟩
    exact List.mem_range.mp (b.perm.mem_iff.mp this)
  have gd : ∀ d c, many ≤ c + d → c < many → goodT ns ((T[c]?).getD .non) = true := by
    intro d
    induction d with
    | zero => intro c h1 h2; omega
    | succ d ih =>
      intro c h1 h2
      obtain ⟨n, B, hn, hB, hT⟩ := h.at_ c (Nat.zero_le _) h2
      rw [hT]
      show goodT ns (.tup [.str n, .tup _]) = true
      rw [goodT, Bool.and_eq_true]
      refine ⟨by simpa using hn, goodR_of fun t ht => ?_⟩
      obtain ⟨o, ho, rfl⟩ := List.mem_map.mp ht
      exact ih o (by have := b.up _ _ hB o ho; omega) (inr _ _ hB o ho)
  refine ⟨goodR_of fun t ht => ?_, ?_⟩
  · obtain ⟨o, ho, rfl⟩ := List.mem_map.mp ht
    exact gd many o (by omega) (inr _ _ e0 o ho)
  · obtain ⟨B1, Bt, rfl⟩ : ∃ B1 Bt, Bs = B1 :: Bt := by
      cases Bs with
      | nil => simp at e0
      | cons x y => exact ⟨_, _, rfl⟩
    have e0 : B1 = B0 := by simpa using e0
    subst e0
    have lt : Bt.length = many := by have := b.len; simp at this; exact this
    let f : Nat → Nat := fun o => cntT ((T[o]?).getD .non)
    have cm : ∀ B : List Nat, cntR (B.map fun o => (T[o]?).getD .non) = (B.map f).sum := fun B => by rw [sum_cnt, List.map_map]; rfl
    have rs := rows_sum (f := f) Bt 0 fun j B e => by
      have hj : j < many := by rw [← lt]; exact (List.getElem?_eq_some_iff.mp e).1
      obtain ⟨n, B', hn, hB, hT⟩ := h.at_ j (Nat.zero_le _) hj
      have : B' = B := by
        have e' : (B1 :: Bt)[j + 1]? = some B := by simpa using e
        rw [e'] at hB
        exact (Option.some.inj hB).symm
      subst this
      show cntT ((T[0 + j]?).getD .non) = _
      rw [Nat.zero_add, hT]
      show cntT (.tup [.str n, .tup _]) = _
      rw [cntT, cm]
    have ps := perm_sum (f := f) b.perm
    rw [lt, ← List.range_eq_range'] at rs
    rw [List.flatten_cons, List.map_append, List.sum_append] at ps
    rw [cm]
    omega
theorem flat_set {k : Nat} : ∀ {Bs : List (List Nat)} {i : Nat} {B B' : List Nat}, Bs[i]? = some B → B'.Perm (k :: B) → (Bs.set i B').flatten.Perm (k :: Bs.flatten)
  | B0 :: Bs, 0, B, B', e, h => by
    have e : B0 = B := by simpa using e
    subst e
    rw [List.set_cons_zero, List.flatten_cons, List.flatten_cons]
    exact h.append_right _
  | B0 :: Bs, i + 1, B, B', e, h => by
    rw [List.set_cons_succ, List.flatten_cons, List.flatten_cons]
    exact ((flat_set (by simpa using e) h).append_left B0).trans List.perm_middle
theorem bs_ins {many k at_ : Nat} {Bs : List (List Nat)} {B : List Nat} (h : BsOk many k Bs) (e : Bs[at_]? = some B) (ha : at_ ≤ k) (d : Nat) : BsOk many (k + 1) (Bs.set at_ (B.take d ++ [k] ++ B.drop d)) := by
  have pm : (B.take d ++ [k] ++ B.drop d).Perm (k :: B) := by
    have e : B.take d ++ [k] ++ B.drop d = B.take d ++ k :: B.drop d := by simp
    rw [e]
    refine List.perm_middle.trans ?_
    rw [List.take_append_drop]
  refine ⟨by rw [List.length_set]; exact h.len, ?_, fun i C hC c hc => ?_⟩
  · rw [List.range_succ]
    exact (flat_set e pm).trans ((h.perm.cons k).trans (List.perm_append_singleton k (List.range k)).symm)
  · by_cases z : at_ = i
    · subst z
      rw [List.getElem?_set_self (List.getElem?_eq_some_iff.mp e).1] at hC
      cases hC
      have := pm.mem_iff.mp hc
      rcases List.mem_cons.mp this with w | w
      · omega
      · exact h.up _ _ e c w
    · rw [List.getElem?_set_ne z] at hC
      exact h.up _ _ hC c hc
theorem bld_step {ns : List Str} {many : Nat} {Bs : List (List Nat)} {T : List PV} {k : Nat} {n : Str} {B : List Nat} (h : Bld ns many Bs T (k + 1)) (hk : k < many) (b : BsOk many many Bs) (hn : n ∈ ns) (hB : Bs[k + 1]? = some B) :
    Bld ns many Bs (T.set k (.tup [.str n, .tup (B.map fun o => (T[o]?).getD .non)])) k := by
  have keep : ∀ i C, Bs[i + 1]? = some C → k ≤ i → ∀ x : PV, C.map (fun o => (T[o]?).getD .non) = C.map (fun o => ((T.set k x)[o]?).getD .non) := fun i C hC hi x => by
    apply List.map_congr_left
    intro o ho
    have := b.up _ _ hC o ho
    rw [List.getElem?_set_ne (by omega)]
  refine ⟨by rw [List.length_set]; exact h.len, fun c h1 h2 => ?_⟩
  by_cases z : k = c
  · subst z
    refine ⟨n, B, hn, hB, ?_⟩
    rw [List.getElem?_set_self (by rw [h.len]; exact hk), ← keep k B hB (Nat.le_refl _)]
  · obtain ⟨m, C, hm, hC, hT⟩ := h.at_ c (by omega) h2
    refine ⟨m, C, hm, hC, ?_⟩
    rw [List.getElem?_set_ne z, hT, keep c C hC h1]

def sp__law_forest : MSp := fun xs M Q _ => ∃ (st g c nm : Addr) (many : Nat) (ns : List Str), xs = [.ref st, .int many, .ref nm] ∧ DrawSt M st g c ∧ Oth st g c nm ∧ M nm = some (.lst (pss ns)) ∧ ns ≠ [] ∧ ns.length ≤ 3 ∧ many ≤ 30 ∧
  ∀ l M', DrawSt M' st g c → Fr st g M M' → goodR ns l = true → cntR l = many → Q (.tup l) M'
/-- _law_forest: slots 0 state, 1 many, 2 names, 3 names_of, 4 depth, 5 beneath, 6 k, 7 at, 8 built, 9 one -/
def N__law_forest : List Str := ["state", "many", "names", "names_of", "depth", "beneath", "k", "at", "built", "one"]
def m__law_forest : MS :=
    (mSeq (mAsg (mLst mNil) (gNameM 3))
    (mSeq (mAsg (mLc (iRng (mCons (mOp sAdd (mVar 1) (mC (.int 1))) mNil)) (gNameM 6) mYes (mC (.int 0)) [6]) (gNameM 4))
    (mSeq (mAsg (mLc (iRng (mCons (mOp sAdd (mVar 1) (mC (.int 1))) mNil)) (gNameM 6) mYes (mLst mNil) [6]) (gNameM 5))
    (mSeq (mFor (iRng (mCons (mVar 1) mNil)) (gNameM 6)
    (mSeq (mDrop (mBM "list" sAppend (mVar 3) (mCons (mOp sIx (mVar 2) (mCall sp__law_draw (mCons (mVar 0) (mCons (mCB sLen (mCons (mVar 2) mNil)) mNil)))) mNil)))
    (mSeq (mAsg (mCall sp__law_draw (mCons (mVar 0) (mCons (mOp sAdd (mVar 6) (mC (.int 1))) mNil))) (gNameM 7))
    (mSeq (mIfS (mB (mOp sGe (mOp sIx (mVar 4) (mVar 7)) (mC (.int 59)))) (mAsg (mC (.int 0)) (gNameM 7)) mNext)
    (mSeq (mAsg (mOp sAdd (mOp sIx (mVar 4) (mVar 7)) (mC (.int 1))) (gSubM (mVar 4) (mOp sAdd (mVar 6) (mC (.int 1)))))
    (mDrop (mBM "list" sInsert (mOp sIx (mVar 5) (mVar 7)) (mCons (mCall sp__law_draw (mCons (mVar 0) (mCons (mOp sAdd (mCB sLen (mCons (mOp sIx (mVar 5) (mVar 7)) mNil)) (mC (.int 1))) mNil))) (mCons (mVar 6) mNil)))))))))
    (mSeq (mAsg (mLc (iRng (mCons (mVar 1) mNil)) (gNameM 6) mYes (mTup mNil) [6]) (gNameM 8))
    (mSeq (mFor (iRevRng (mVar 1)) (gNameM 6)
    (mAsg (mTup (mCons (mOp sIx (mVar 3) (mVar 6)) (mCons (mCB sTupOf (mCons (mLc (iSeq (mOp sIx (mVar 5) (mOp sAdd (mVar 6) (mC (.int 1))))) (gNameM 9) mYes (mOp sIx (mVar 8) (mVar 9)) [9]) mNil)) mNil))) (gSubM (mVar 8) (mVar 6))))
    (mRet (mCB sTupOf (mCons (mLc (iSeq (mOp sIx (mVar 5) (mC (.int 0)))) (gNameM 9) mYes (mOp sIx (mVar 8) (mVar 9)) [9]) mNil)))))))))

/-- the heap of the first loop -/
structure HI (M : MHp) (st g c p1 p2 p3 : Addr) (many : Nat) (M' : MHp) (nms : List Str) (dep : List Int) (bs : List Addr) (Bs : List (List Nat)) : Prop where
  D : DrawSt M' st g c
  F : Fr st g M M'
  e1 : M' p1 = some (.lst (pss nms))
  e2 : M' p2 = some (.lst (pis dep))
  e3 : M' p3 = some (.lst (bs.map .ref))
  eb : ∀ (i : Nat) (b : Addr), bs[i]? = some b → ∃ B, Bs[i]? = some B ∧ M' b = some (.lst (pns B))
  ld : dep.length = many + 1
  lb : bs.length = many + 1
  fit : ∀ (i : Nat) (B : List Nat), Bs[i]? = some B → B.length ≤ 30
section
variable {M M' M2 : MHp} {st g c p1 p2 p3 : Addr} {many : Nat} {nms : List Str} {dep : List Int} {bs : List Addr} {Bs : List (List Nat)}
structure HA (M : MHp) (st g c p1 p2 p3 : Addr) (bs : List Addr) : Prop where
  o1 : Oth st g c p1
  o2 : Oth st g c p2
  o3 : Oth st g c p3
  n1 : M p1 = none
  n2 : M p2 = none
  n3 : M p3 = none
  n12 : p1 ≠ p2
  n13 : p1 ≠ p3
  n23 : p2 ≠ p3
  nd : bs.Nodup
  ob : ∀ b ∈ bs, Oth st g c b ∧ M b = none ∧ b ≠ p1 ∧ b ≠ p2 ∧ b ≠ p3
theorem HI.draw (a : HA M st g c p1 p2 p3 bs) (h : HI M st g c p1 p2 p3 many M' nms dep bs Bs) (D : DrawSt M2 st g c) (F : Fr st g M' M2) : HI M st g c p1 p2 p3 many M2 nms dep bs Bs :=
  ⟨D, h.F.trans F, F.at a.o1 h.e1, F.at a.o2 h.e2, F.at a.o3 h.e3, fun i b e => let ⟨B, q, r⟩ := h.eb i b e; ⟨B, q, F.at (a.ob b (List.mem_iff_getElem?.mpr ⟨i, e⟩)).1 r⟩, h.ld, h.lb, h.fit⟩
theorem HI.nm (a : HA M st g c p1 p2 p3 bs) (h : HI M st g c p1 p2 p3 many M' nms dep bs Bs) (n : Str) : HI M st g c p1 p2 p3 many (updM M' p1 (.lst (pss nms ++ [.str n]))) (nms ++ [n]) dep bs Bs :=
  ⟨h.D.mut a.o1, h.F.mut a.n1, by rw [updM_same]; simp [pss], by rw [updM_ne a.n12.symm]; exact h.e2, by rw [updM_ne a.n13.symm]; exact h.e3, fun i b e => let ⟨B, q, r⟩ := h.eb i b e; ⟨B, q, by rw [updM_ne (a.ob b (List.mem_iff_getElem?.mpr ⟨i, e⟩)).2.2.1]; exact r⟩, h.ld, h.lb, h.fit⟩
theorem HI.dp (a : HA M st g c p1 p2 p3 bs) (h : HI M st g c p1 p2 p3 many M' nms dep bs Bs) (k : Nat) (v : Int) : HI M st g c p1 p2 p3 many (updM M' p2 (.lst ((pis dep).set k (.int v)))) nms (dep.set k v) bs Bs :=
  ⟨h.D.mut a.o2, h.F.mut a.n2, by rw [updM_ne a.n12]; exact h.e1, by rw [updM_same]; simp [List.map_set], by rw [updM_ne a.n23.symm]; exact h.e3, fun i b e => let ⟨B, q, r⟩ := h.eb i b e; ⟨B, q, by rw [updM_ne (a.ob b (List.mem_iff_getElem?.mpr ⟨i, e⟩)).2.2.2.1]; exact r⟩, by rw [List.length_set]; exact h.ld, h.lb, h.fit⟩
theorem HI.bn (a : HA M st g c p1 p2 p3 bs) (h : HI M st g c p1 p2 p3 many M' nms dep bs Bs) {i : Nat} {b : Addr} {B B' : List Nat} (e : bs[i]? = some b) (eB : Bs[i]? = some B) (hB : B'.length ≤ 30) : HI M st g c p1 p2 p3 many (updM M' b (.lst (pns B'))) nms dep bs (Bs.set i B') := by
  have mb : b ∈ bs := List.mem_iff_getElem?.mpr ⟨i, e⟩
  obtain ⟨o, n, b1, b2, b3⟩ := a.ob b mb
  have lt := (List.getElem?_eq_some_iff.mp eB).1
  refine ⟨h.D.mut o, h.F.mut n, by rw [updM_ne b1.symm]; exact h.e1, by rw [updM_ne b2.symm]; exact h.e2, by rw [updM_ne b3.symm]; exact h.e3, fun j b' e' => ?_, h.ld, h.lb, fun j C hC => ?_⟩
  · by_cases z : i = j
    · subst z
      rw [e] at e'
      cases e'
      exact ⟨B', List.getElem?_set_self lt, updM_same⟩
    · obtain ⟨C, q, r⟩ := h.eb j b' e'
      refine ⟨C, by rw [List.getElem?_set_ne z]; exact q, ?_⟩
      rw [updM_ne]
      · exact r
      · rintro rfl
        have i1 := (List.getElem?_eq_some_iff.mp e)
        have i2 := (List.getElem?_eq_some_iff.mp e')
        obtain ⟨l1, q1⟩ := i1
        obtain ⟨l2, q2⟩ := i2
        exact z ((List.getElem_inj a.nd).mp (q1.trans q2.symm))
  · by_cases z : i = j
    · subst z
      rw [List.getElem?_set_self lt] at hC
      cases hC
      exact hB
    · rw [List.getElem?_set_ne z] at hC
      exact h.fit j C hC
end
theorem len_flat : ∀ {Bs : List (List Nat)} {a : Nat} {B : List Nat}, Bs[a]? = some B → B.length ≤ Bs.flatten.length
  | C :: Bs, 0, B, e => by
    have e : C = B := by simpa using e
    subst e
    rw [List.flatten_cons, List.length_append]; omega
  | C :: Bs, a + 1, B, e => by
    have := len_flat (Bs := Bs) (a := a) (B := B) (by simpa using e)
    rw [List.flatten_cons, List.length_append]; omega
theorem d_forest2 : ∀ xs M Q E, sp__law_forest xs M Q E → m__law_forest (endsOf Q E) (startM N__law_forest xs) M := by
  rintro _ M Q E ⟨st, g, c, nm, many, ns, rfl, D, on, hnm, hne, hn3, hm30, q⟩
  show m__law_forest (endsOf Q E) [some (.ref st), some (.int many), some (.ref nm), none, none, none, none, none, none, none] M
  unfold m__law_forest
  refine seq_i fun N1 hN1 => ?_
  simp only [mSeq, mAsg, mOp, mUn, mVar, mC, mCB, mCons, mNil, mTup, mLst_n, mB, mTru, mNot, mAnd, mOr, mAndV, mOrV, mNotV, mIf, mIfS, mRet, mRetN, mDrop, mNext, mBreak, mCont, mBM, mBM0, mCall, mFor, mLc, mYes, iSeq, iRng, iRng2, iRevRng, gNameM, gSubM, mAug, mIsi, mSl, mPart, mNoPart, mRaise, getS_0, getS_s, isB_bl, truP_t, truP_b, sIx_t, sIx_o, sIx_r, sIx_s, sAdd_ii, sAdd_ss, sAdd_tt, sAdd_rr, sIAdd_ii, sIAdd_ss, sMul_ii, sMul_si, sI2_ii, sLen_t, sLen_o, sLen_r, sLen_s, sInt_i, sAbs_i, sMin2_i, sMax2_i, sStrI_i, sTupOf_t, sTupOf_r, sLstOf_t, sLstOf_r, sAppend_r, sPop_r, sPopAt_r, sInsert_r, sSet_r, sEq_ii, sEq_ss, sNe_ii, sNe_ss, sIn_ss, sIn_st, sIn_sr, sIs_n, sIsNot_n, isNonP_n, isNonP_t, isNonP_s, isNonP_i, isNonP_r, sNeg_i, sSl_r, mDict0_n, mDict1_n, gTupM_t, gConsM_c, gNilM_n, seqP_t, seqP_o, seqP_r, withL_upd, upd_upd, dec_if, true_and, and_true, List.set_cons_zero, List.set_cons_succ, atI_0, atI_1, atI_2, ixN_30, ixN_31, ixN_32, ixN_s0, Option.some.injEq, exists_eq_left', exists_eq_left, Bool.not_true, Bool.not_false, if_true, if_false, Bool.false_eq_true, reduceCtorEq, List.length_cons, List.length_nil, endsOf, wipeM, List.map_cons, List.map_nil, ite_true, ite_false, eq_self_iff_true, false_and, Nat.reduceAdd, decide_true, decide_false]
  refine ⟨by decide, newL_i fun p1 M1 n1 h1 x1 => hN1 _ _ ?_⟩
  clear hN1 N1
  have em : ((many : Nat) : Int) + 1 = ((many + 1 : Nat) : Int) := by omega
  have em2 : (((many + 1 : Nat)) : Int).toNat = many + 1 := by omega
  refine seq_i fun N1 hN1 => ?_
  simp only [mSeq, mAsg, mOp, mUn, mVar, mC, mCB, mCons, mNil, mTup, mLst_n, mB, mTru, mNot, mAnd, mOr, mAndV, mOrV, mNotV, mIf, mIfS, mRet, mRetN, mDrop, mNext, mBreak, mCont, mBM, mBM0, mCall, mFor, mLc, mYes, iSeq, iRng, iRng2, iRevRng, gNameM, gSubM, mAug, mIsi, mSl, mPart, mNoPart, mRaise, getS_0, getS_s, isB_bl, truP_t, truP_b, sIx_t, sIx_o, sIx_r, sIx_s, sAdd_ii, sAdd_ss, sAdd_tt, sAdd_rr, sIAdd_ii, sIAdd_ss, sMul_ii, sMul_si, sI2_ii, sLen_t, sLen_o, sLen_r, sLen_s, sInt_i, sAbs_i, sMin2_i, sMax2_i, sStrI_i, sTupOf_t, sTupOf_r, sLstOf_t, sLstOf_r, sAppend_r, sPop_r, sPopAt_r, sInsert_r, sSet_r, sEq_ii, sEq_ss, sNe_ii, sNe_ss, sIn_ss, sIn_st, sIn_sr, sIs_n, sIsNot_n, isNonP_n, isNonP_t, isNonP_s, isNonP_i, isNonP_r, sNeg_i, sSl_r, mDict0_n, mDict1_n, gTupM_t, gConsM_c, gNilM_n, seqP_t, seqP_o, seqP_r, withL_upd, upd_upd, dec_if, true_and, and_true, List.set_cons_zero, List.set_cons_succ, atI_0, atI_1, atI_2, ixN_30, ixN_31, ixN_32, ixN_s0, Option.some.injEq, exists_eq_left', exists_eq_left, Bool.not_true, Bool.not_false, if_true, if_false, Bool.false_eq_true, reduceCtorEq, List.length_cons, List.length_nil, endsOf, wipeM, List.map_cons, List.map_nil, ite_true, ite_false, eq_self_iff_true, false_and, Nat.reduceAdd, decide_true, decide_false]
  rw [em, em2]
  refine ⟨⟨by omega, by omega⟩, ?_⟩
  refine lc_pure (it := .fix (rangeP 0 1 (many + 1))) (fun _ => .int 0) (fun P h => h) (by show (rangeP 0 1 (many + 1)).length ≤ _; rw [rangeP_len, sz24]; omega) (fun x hx R r => ?_) ?_
  · simp only [mSeq, mAsg, mOp, mUn, mVar, mC, mCB, mCons, mNil, mTup, mLst_n, mB, mTru, mNot, mAnd, mOr, mAndV, mOrV, mNotV, mIf, mIfS, mRet, mRetN, mDrop, mNext, mBreak, mCont, mBM, mBM0, mCall, mFor, mLc, mYes, iSeq, iRng, iRng2, iRevRng, gNameM, gSubM, mAug, mIsi, mSl, mPart, mNoPart, mRaise, getS_0, getS_s, isB_bl, truP_t, truP_b, sIx_t, sIx_o, sIx_r, sIx_s, sAdd_ii, sAdd_ss, sAdd_tt, sAdd_rr, sIAdd_ii, sIAdd_ss, sMul_ii, sMul_si, sI2_ii, sLen_t, sLen_o, sLen_r, sLen_s, sInt_i, sAbs_i, sMin2_i, sMax2_i, sStrI_i, sTupOf_t, sTupOf_r, sLstOf_t, sLstOf_r, sAppend_r, sPop_r, sPopAt_r, sInsert_r, sSet_r, sEq_ii, sEq_ss, sNe_ii, sNe_ss, sIn_ss, sIn_st, sIn_sr, sIs_n, sIsNot_n, isNonP_n, isNonP_t, isNonP_s, isNonP_i, isNonP_r, sNeg_i, sSl_r, mDict0_n, mDict1_n, gTupM_t, gConsM_c, gNilM_n, seqP_t, seqP_o, seqP_r, withL_upd, upd_upd, dec_if, true_and, and_true, List.set_cons_zero, List.set_cons_succ, atI_0, atI_1, atI_2, ixN_30, ixN_31, ixN_32, ixN_s0, Option.some.injEq, exists_eq_left', exists_eq_left, Bool.not_true, Bool.not_false, if_true, if_false, Bool.false_eq_true, reduceCtorEq, List.length_cons, List.length_nil, endsOf, wipeM, List.map_cons, List.map_nil, ite_true, ite_false, eq_self_iff_true, false_and, Nat.reduceAdd, decide_true, decide_false]; exact r
  refine newL_i fun p2 M2 n2 h2 x2 => hN1 _ _ ?_
  clear hN1 N1
  have h2 : M2 p2 = some (.lst (pis (List.replicate (many + 1) 0))) := by
    rw [h2]
    congr 2
    show (rangeP 0 1 (many + 1)).map _ = _
    rw [pis, List.map_replicate, List.eq_replicate_iff]
    refine ⟨by rw [List.length_map, rangeP_len], fun b hb => ?_⟩
    obtain ⟨_, _, rfl⟩ := List.mem_map.mp hb
    rfl
  refine seq_i fun N1 hN1 => ?_
  simp only [mSeq, mAsg, mOp, mUn, mVar, mC, mCB, mCons, mNil, mTup, mLst_n, mB, mTru, mNot, mAnd, mOr, mAndV, mOrV, mNotV, mIf, mIfS, mRet, mRetN, mDrop, mNext, mBreak, mCont, mBM, mBM0, mCall, mFor, mLc, mYes, iSeq, iRng, iRng2, iRevRng, gNameM, gSubM, mAug, mIsi, mSl, mPart, mNoPart, mRaise, getS_0, getS_s, isB_bl, truP_t, truP_b, sIx_t, sIx_o, sIx_r, sIx_s, sAdd_ii, sAdd_ss, sAdd_tt, sAdd_rr, sIAdd_ii, sIAdd_ss, sMul_ii, sMul_si, sI2_ii, sLen_t, sLen_o, sLen_r, sLen_s, sInt_i, sAbs_i, sMin2_i, sMax2_i, sStrI_i, sTupOf_t, sTupOf_r, sLstOf_t, sLstOf_r, sAppend_r, sPop_r, sPopAt_r, sInsert_r, sSet_r, sEq_ii, sEq_ss, sNe_ii, sNe_ss, sIn_ss, sIn_st, sIn_sr, sIs_n, sIsNot_n, isNonP_n, isNonP_t, isNonP_s, isNonP_i, isNonP_r, sNeg_i, sSl_r, mDict0_n, mDict1_n, gTupM_t, gConsM_c, gNilM_n, seqP_t, seqP_o, seqP_r, withL_upd, upd_upd, dec_if, true_and, and_true, List.set_cons_zero, List.set_cons_succ, atI_0, atI_1, atI_2, ixN_30, ixN_31, ixN_32, ixN_s0, Option.some.injEq, exists_eq_left', exists_eq_left, Bool.not_true, Bool.not_false, if_true, if_false, Bool.false_eq_true, reduceCtorEq, List.length_cons, List.length_nil, endsOf, wipeM, List.map_cons, List.map_nil, ite_true, ite_false, eq_self_iff_true, false_and, Nat.reduceAdd, decide_true, decide_false]
  rw [em, em2]
  refine ⟨⟨by omega, by omega⟩, ?_⟩
  refine lcG_ind (it := .fix (rangeP 0 1 (many + 1))) (fun i acc M' => ∃ bs : List Addr, acc = bs.map .ref ∧ bs.length = i ∧ bs.Nodup ∧ Ext M2 M' ∧ ∀ b ∈ bs, M2 b = none ∧ M' b = some (.lst [])) (fun i x acc M' L ex h hl => ?_) (fun acc M' h => ?_) ⟨[], rfl, rfl, List.nodup_nil, Ext.refl, fun b hb => nomatch hb⟩
  · obtain ⟨bs, rfl, hbl, hnd, xM, hb⟩ := h
    have hlt : i < many + 1 := by
      have := (List.getElem?_eq_some_iff.mp ex).1
      have e : (MIt.items (.fix (rangeP 0 1 (many + 1)))).length = many + 1 := rangeP_len _ _ _
      omega
    simp only [MIt.w, mSeq, mAsg, mOp, mUn, mVar, mC, mCB, mCons, mNil, mTup, mLst_n, mB, mTru, mNot, mAnd, mOr, mAndV, mOrV, mNotV, mIf, mIfS, mRet, mRetN, mDrop, mNext, mBreak, mCont, mBM, mBM0, mCall, mFor, mLc, mYes, iSeq, iRng, iRng2, iRevRng, gNameM, gSubM, mAug, mIsi, mSl, mPart, mNoPart, mRaise, getS_0, getS_s, isB_bl, truP_t, truP_b, sIx_t, sIx_o, sIx_r, sIx_s, sAdd_ii, sAdd_ss, sAdd_tt, sAdd_rr, sIAdd_ii, sIAdd_ss, sMul_ii, sMul_si, sI2_ii, sLen_t, sLen_o, sLen_r, sLen_s, sInt_i, sAbs_i, sMin2_i, sMax2_i, sStrI_i, sTupOf_t, sTupOf_r, sLstOf_t, sLstOf_r, sAppend_r, sPop_r, sPopAt_r, sInsert_r, sSet_r, sEq_ii, sEq_ss, sNe_ii, sNe_ss, sIn_ss, sIn_st, sIn_sr, sIs_n, sIsNot_n, isNonP_n, isNonP_t, isNonP_s, isNonP_i, isNonP_r, sNeg_i, sSl_r, mDict0_n, mDict1_n, gTupM_t, gConsM_c, gNilM_n, seqP_t, seqP_o, seqP_r, withL_upd, upd_upd, dec_if, true_and, and_true, List.set_cons_zero, List.set_cons_succ, atI_0, atI_1, atI_2, ixN_30, ixN_31, ixN_32, ixN_s0, Option.some.injEq, exists_eq_left', exists_eq_left, Bool.not_true, Bool.not_false, if_true, if_false, Bool.false_eq_true, reduceCtorEq, List.length_cons, List.length_nil, endsOf, wipeM, List.map_cons, List.map_nil, ite_true, ite_false, eq_self_iff_true, false_and, Nat.reduceAdd, decide_true, decide_false]
    refine ⟨by decide, newL_i fun b M3 nb hb3 x3 => ⟨by rw [sz24, List.length_map]; omega, hl _ _ ⟨bs ++ [b], by simp, by simp [hbl], ?_, xM.trans x3, fun y hy => ?_⟩⟩⟩
    · refine List.nodup_append.mpr ⟨hnd, by simp, fun y hy z hz => ?_⟩
      cases List.mem_singleton.mp hz
      rintro rfl
      rw [(hb _ hy).2] at nb
      cases nb
    · rcases List.mem_append.mp hy with hy | hy
      · exact ⟨(hb y hy).1, x3 _ _ (hb y hy).2⟩
      · cases List.mem_singleton.mp hy
        exact ⟨xM.none nb, hb3⟩
  obtain ⟨bs, rfl, hbl, hnd, xM, hb⟩ := h
  have hbl : bs.length = many + 1 := by rw [hbl]; exact rangeP_len _ _ _
  simp only [MIt.w]
  refine newL_i fun p3 M3 n3 h3 x3 => hN1 _ _ ?_
  clear hN1 N1
  have x02 := x1.trans x2
  have D2 := D.ext x02
  have ha : HA M st g c p1 p2 p3 bs := ⟨D.oth n1, D.oth (x1.none n2), D.oth (x02.none (xM.none n3)), n1, x1.none n2, x02.none (xM.none n3),
    fun z => (by rw [z, n2] at h1; cases h1), fun z => (by rw [z, x2.none (xM.none n3)] at h1; cases h1), fun z => (by rw [z, xM.none n3] at h2; cases h2), hnd,
    fun b hb' => ⟨D2.oth (hb b hb').1, x02.none (hb b hb').1, fun z => (by have := (hb b hb').1; rw [z, x2 _ _ h1] at this; cases this), fun z => (by have := (hb b hb').1; rw [z, h2] at this; cases this), fun z => (by have := (hb b hb').2; rw [z, n3] at this; cases this)⟩⟩
  have hi0 : HI M st g c p1 p2 p3 many M3 [] (List.replicate (many + 1) 0) bs (List.replicate (many + 1) []) := by
    refine ⟨(D2.ext xM).ext x3, (x02.trans (xM.trans x3)).fr, x3 _ _ (xM _ _ (x2 _ _ h1)), x3 _ _ (xM _ _ h2), h3, fun i b e => ⟨[], ?_, ?_⟩, by simp, hbl, fun i B hB => ?_⟩
    · have := (List.getElem?_eq_some_iff.mp e).1
      rw [List.getElem?_replicate, if_pos (by omega)]
    · exact x3 _ _ (hb b (List.mem_iff_getElem?.mpr ⟨i, e⟩)).2
    · rw [List.getElem?_replicate] at hB
      split at hB
      · cases hB; simp
      · cases hB
  refine seq_i fun N1 hN1 => ?_
  simp only [mSeq, mAsg, mOp, mUn, mVar, mC, mCB, mCons, mNil, mTup, mLst_n, mB, mTru, mNot, mAnd, mOr, mAndV, mOrV, mNotV, mIf, mIfS, mRet, mRetN, mDrop, mNext, mBreak, mCont, mBM, mBM0, mCall, mFor, mLc, mYes, iSeq, iRng, iRng2, iRevRng, gNameM, gSubM, mAug, mIsi, mSl, mPart, mNoPart, mRaise, getS_0, getS_s, isB_bl, truP_t, truP_b, sIx_t, sIx_o, sIx_r, sIx_s, sAdd_ii, sAdd_ss, sAdd_tt, sAdd_rr, sIAdd_ii, sIAdd_ss, sMul_ii, sMul_si, sI2_ii, sLen_t, sLen_o, sLen_r, sLen_s, sInt_i, sAbs_i, sMin2_i, sMax2_i, sStrI_i, sTupOf_t, sTupOf_r, sLstOf_t, sLstOf_r, sAppend_r, sPop_r, sPopAt_r, sInsert_r, sSet_r, sEq_ii, sEq_ss, sNe_ii, sNe_ss, sIn_ss, sIn_st, sIn_sr, sIs_n, sIsNot_n, isNonP_n, isNonP_t, isNonP_s, isNonP_i, isNonP_r, sNeg_i, sSl_r, mDict0_n, mDict1_n, gTupM_t, gConsM_c, gNilM_n, seqP_t, seqP_o, seqP_r, withL_upd, upd_upd, dec_if, true_and, and_true, List.set_cons_zero, List.set_cons_succ, atI_0, atI_1, atI_2, ixN_30, ixN_31, ixN_32, ixN_s0, Option.some.injEq, exists_eq_left', exists_eq_left, Bool.not_true, Bool.not_false, if_true, if_false, Bool.false_eq_true, reduceCtorEq, List.length_cons, List.length_nil, endsOf, wipeM, List.map_cons, List.map_nil, ite_true, ite_false, eq_self_iff_true, false_and, Nat.reduceAdd, decide_true, decide_false]
  refine ⟨⟨by omega, by omega⟩, ?_⟩
  have em3 : ((many : Nat) : Int).toNat = many := by omega
  rw [em3]
  refine for_rng (fun i μ M' => ∃ (nms : List Str) (dep : List Int) (Bs : List (List Nat)) (k at_ : Option PV), μ = [some (.ref st), some (.int many), some (.ref nm), some (.ref p1), some (.ref p2), some (.ref p3), k, at_, none, none] ∧ HI M st g c p1 p2 p3 many M' nms dep bs Bs ∧ nms.length = i ∧ (∀ n ∈ nms, n ∈ ns) ∧ BsOk many i Bs)
    (fun i μ M' L hi h hl => ?_) (fun μ M' h => ?_) ⟨[], _, _, none, none, rfl, hi0, rfl, (fun n hn => nomatch hn), by simp, by simp, fun i B hB c hc => ?_⟩
  · obtain ⟨nms, dep, Bs, k, at_, rfl, hI, hnl, hns, hB⟩ := h
    have ek : ((i : Nat) : Int) + 1 = ((i + 1 : Nat) : Int) := by omega
    refine seq_i fun N2 hN2 => ?_
    have nm1 := hI.F.at on hnm
    simp only [mSeq, mAsg, mOp, mUn, mVar, mC, mCB, mCons, mNil, mTup, mLst_n, mB, mTru, mNot, mAnd, mOr, mAndV, mOrV, mNotV, mIf, mIfS, mRet, mRetN, mDrop, mNext, mBreak, mCont, mBM, mBM0, mCall, mFor, mLc, mYes, iSeq, iRng, iRng2, iRevRng, gNameM, gSubM, mAug, mIsi, mSl, mPart, mNoPart, mRaise, getS_0, getS_s, isB_bl, truP_t, truP_b, sIx_t, sIx_o, sIx_r, sIx_s, sAdd_ii, sAdd_ss, sAdd_tt, sAdd_rr, sIAdd_ii, sIAdd_ss, sMul_ii, sMul_si, sI2_ii, sLen_t, sLen_o, sLen_r, sLen_s, sInt_i, sAbs_i, sMin2_i, sMax2_i, sStrI_i, sTupOf_t, sTupOf_r, sLstOf_t, sLstOf_r, sAppend_r, sPop_r, sPopAt_r, sInsert_r, sSet_r, sEq_ii, sEq_ss, sNe_ii, sNe_ss, sIn_ss, sIn_st, sIn_sr, sIs_n, sIsNot_n, isNonP_n, isNonP_t, isNonP_s, isNonP_i, isNonP_r, sNeg_i, sSl_r, mDict0_n, mDict1_n, gTupM_t, gConsM_c, gNilM_n, seqP_t, seqP_o, seqP_r, withL_upd, upd_upd, dec_if, true_and, and_true, List.set_cons_zero, List.set_cons_succ, atI_0, atI_1, atI_2, ixN_30, ixN_31, ixN_32, ixN_s0, Option.some.injEq, exists_eq_left', exists_eq_left, Bool.not_true, Bool.not_false, if_true, if_false, Bool.false_eq_true, reduceCtorEq, List.length_cons, List.length_nil, endsOf, wipeM, List.map_cons, List.map_nil, ite_true, ite_false, eq_self_iff_true, false_and, Nat.reduceAdd, decide_true, decide_false, withL_eq nm1, tyM_l hI.e1]
    have hlns : 0 < ((pss ns).length : Int) := (nm_at hne 0).1
    have hlns2 : (pss ns).length = ns.length := by simp [pss]
    refine draw_i hI.D hlns (by omega) fun d1 M4 hd1 D4 F4 => ?_
    have hI := hI.draw ha D4 F4
    have nm2 := F4.at on nm1
    obtain ⟨n, hn, hat⟩ := nm_dr hd1
    simp only [mSeq, mAsg, mOp, mUn, mVar, mC, mCB, mCons, mNil, mTup, mLst_n, mB, mTru, mNot, mAnd, mOr, mAndV, mOrV, mNotV, mIf, mIfS, mRet, mRetN, mDrop, mNext, mBreak, mCont, mBM, mBM0, mCall, mFor, mLc, mYes, iSeq, iRng, iRng2, iRevRng, gNameM, gSubM, mAug, mIsi, mSl, mPart, mNoPart, mRaise, getS_0, getS_s, isB_bl, truP_t, truP_b, sIx_t, sIx_o, sIx_r, sIx_s, sAdd_ii, sAdd_ss, sAdd_tt, sAdd_rr, sIAdd_ii, sIAdd_ss, sMul_ii, sMul_si, sI2_ii, sLen_t, sLen_o, sLen_r, sLen_s, sInt_i, sAbs_i, sMin2_i, sMax2_i, sStrI_i, sTupOf_t, sTupOf_r, sLstOf_t, sLstOf_r, sAppend_r, sPop_r, sPopAt_r, sInsert_r, sSet_r, sEq_ii, sEq_ss, sNe_ii, sNe_ss, sIn_ss, sIn_st, sIn_sr, sIs_n, sIsNot_n, isNonP_n, isNonP_t, isNonP_s, isNonP_i, isNonP_r, sNeg_i, sSl_r, mDict0_n, mDict1_n, gTupM_t, gConsM_c, gNilM_n, seqP_t, seqP_o, seqP_r, withL_upd, upd_upd, dec_if, true_and, and_true, List.set_cons_zero, List.set_cons_succ, atI_0, atI_1, atI_2, ixN_30, ixN_31, ixN_32, ixN_s0, Option.some.injEq, exists_eq_left', exists_eq_left, Bool.not_true, Bool.not_false, if_true, if_false, Bool.false_eq_true, reduceCtorEq, List.length_cons, List.length_nil, endsOf, wipeM, List.map_cons, List.map_nil, ite_true, ite_false, eq_self_iff_true, false_and, Nat.reduceAdd, decide_true, decide_false, withL_eq nm2, withL_eq hI.e1]
    refine ⟨.str n, hat, by rw [sz24]; simp [pss]; omega, hN2 _ _ ?_⟩
    clear hN2 N2
    have hI := hI.nm ha n
    generalize updM M4 p1 (.lst (pss nms ++ [.str n])) = M5 at hI
    refine seq_i fun N2 hN2 => ?_
    simp only [mSeq, mAsg, mOp, mUn, mVar, mC, mCB, mCons, mNil, mTup, mLst_n, mB, mTru, mNot, mAnd, mOr, mAndV, mOrV, mNotV, mIf, mIfS, mRet, mRetN, mDrop, mNext, mBreak, mCont, mBM, mBM0, mCall, mFor, mLc, mYes, iSeq, iRng, iRng2, iRevRng, gNameM, gSubM, mAug, mIsi, mSl, mPart, mNoPart, mRaise, getS_0, getS_s, isB_bl, truP_t, truP_b, sIx_t, sIx_o, sIx_r, sIx_s, sAdd_ii, sAdd_ss, sAdd_tt, sAdd_rr, sIAdd_ii, sIAdd_ss, sMul_ii, sMul_si, sI2_ii, sLen_t, sLen_o, sLen_r, sLen_s, sInt_i, sAbs_i, sMin2_i, sMax2_i, sStrI_i, sTupOf_t, sTupOf_r, sLstOf_t, sLstOf_r, sAppend_r, sPop_r, sPopAt_r, sInsert_r, sSet_r, sEq_ii, sEq_ss, sNe_ii, sNe_ss, sIn_ss, sIn_st, sIn_sr, sIs_n, sIsNot_n, isNonP_n, isNonP_t, isNonP_s, isNonP_i, isNonP_r, sNeg_i, sSl_r, mDict0_n, mDict1_n, gTupM_t, gConsM_c, gNilM_n, seqP_t, seqP_o, seqP_r, withL_upd, upd_upd, dec_if, true_and, and_true, List.set_cons_zero, List.set_cons_succ, atI_0, atI_1, atI_2, ixN_30, ixN_31, ixN_32, ixN_s0, Option.some.injEq, exists_eq_left', exists_eq_left, Bool.not_true, Bool.not_false, if_true, if_false, Bool.false_eq_true, reduceCtorEq, List.length_cons, List.length_nil, endsOf, wipeM, List.map_cons, List.map_nil, ite_true, ite_false, eq_self_iff_true, false_and, Nat.reduceAdd, decide_true, decide_false]
    refine draw_i hI.D (by omega) (by omega) fun d2 M6 hd2 D6 F6 => hN2 _ _ ?_
    clear hN2 N2
    have hI := hI.draw ha D6 F6
    have atd : ∀ a : Nat, a ≤ i → ∃ v, atI (pis dep) (a : Int) = some (.int v) := fun a h => by
      have : a < dep.length := by rw [hI.ld]; omega
      exact ⟨dep[a], by rw [pis, atI_map, atI_nat (List.getElem?_eq_getElem this)]; rfl⟩
    have rest : ∀ a : Nat, a ≤ i → mSeq (mAsg (mOp sAdd (mOp sIx (mVar 4) (mVar 7)) (mC (.int 1))) (gSubM (mVar 4) (mOp sAdd (mVar 6) (mC (.int 1)))))
        (mDrop (mBM "list" sInsert (mOp sIx (mVar 5) (mVar 7)) (mCons (mCall sp__law_draw (mCons (mVar 0) (mCons (mOp sAdd (mCB sLen (mCons (mOp sIx (mVar 5) (mVar 7)) mNil)) (mC (.int 1))) mNil))) (mCons (mVar 6) mNil))))
        { nx := L, rt := (endsOf Q E).rt, bk := N1, ct := L, ex := (endsOf Q E).ex } [some (.ref st), some (.int many), some (.ref nm), some (.ref p1), some (.ref p2), some (.ref p3), some (.int i), some (.int a), none, none] M6 := by
      intro a hai
      obtain ⟨v, hv⟩ := atd a hai
      refine seq_i fun N3 hN3 => ?_
      have ix : ixN (pis dep).length ((i : Int) + 1) = some (i + 1) := by
        rw [ek]
        have e : (pis dep).length = many + 1 := by rw [List.length_map, hI.ld]
        rw [e]
        unfold ixN
        rw [if_pos (by omega), if_pos (by omega)]
        rfl
      simp only [mSeq, mAsg, mOp, mUn, mVar, mC, mCB, mCons, mNil, mTup, mLst_n, mB, mTru, mNot, mAnd, mOr, mAndV, mOrV, mNotV, mIf, mIfS, mRet, mRetN, mDrop, mNext, mBreak, mCont, mBM, mBM0, mCall, mFor, mLc, mYes, iSeq, iRng, iRng2, iRevRng, gNameM, gSubM, mAug, mIsi, mSl, mPart, mNoPart, mRaise, getS_0, getS_s, isB_bl, truP_t, truP_b, sIx_t, sIx_o, sIx_r, sIx_s, sAdd_ii, sAdd_ss, sAdd_tt, sAdd_rr, sIAdd_ii, sIAdd_ss, sMul_ii, sMul_si, sI2_ii, sLen_t, sLen_o, sLen_r, sLen_s, sInt_i, sAbs_i, sMin2_i, sMax2_i, sStrI_i, sTupOf_t, sTupOf_r, sLstOf_t, sLstOf_r, sAppend_r, sPop_r, sPopAt_r, sInsert_r, sSet_r, sEq_ii, sEq_ss, sNe_ii, sNe_ss, sIn_ss, sIn_st, sIn_sr, sIs_n, sIsNot_n, isNonP_n, isNonP_t, isNonP_s, isNonP_i, isNonP_r, sNeg_i, sSl_r, mDict0_n, mDict1_n, gTupM_t, gConsM_c, gNilM_n, seqP_t, seqP_o, seqP_r, withL_upd, upd_upd, dec_if, true_and, and_true, List.set_cons_zero, List.set_cons_succ, atI_0, atI_1, atI_2, ixN_30, ixN_31, ixN_32, ixN_s0, Option.some.injEq, exists_eq_left', exists_eq_left, Bool.not_true, Bool.not_false, if_true, if_false, Bool.false_eq_true, reduceCtorEq, List.length_cons, List.length_nil, endsOf, wipeM, List.map_cons, List.map_nil, ite_true, ite_false, eq_self_iff_true, false_and, Nat.reduceAdd, decide_true, decide_false, withL_eq hI.e2]
      refine ⟨_, hv, ?_⟩
      simp only [mSeq, mAsg, mOp, mUn, mVar, mC, mCB, mCons, mNil, mTup, mLst_n, mB, mTru, mNot, mAnd, mOr, mAndV, mOrV, mNotV, mIf, mIfS, mRet, mRetN, mDrop, mNext, mBreak, mCont, mBM, mBM0, mCall, mFor, mLc, mYes, iSeq, iRng, iRng2, iRevRng, gNameM, gSubM, mAug, mIsi, mSl, mPart, mNoPart, mRaise, getS_0, getS_s, isB_bl, truP_t, truP_b, sIx_t, sIx_o, sIx_r, sIx_s, sAdd_ii, sAdd_ss, sAdd_tt, sAdd_rr, sIAdd_ii, sIAdd_ss, sMul_ii, sMul_si, sI2_ii, sLen_t, sLen_o, sLen_r, sLen_s, sInt_i, sAbs_i, sMin2_i, sMax2_i, sStrI_i, sTupOf_t, sTupOf_r, sLstOf_t, sLstOf_r, sAppend_r, sPop_r, sPopAt_r, sInsert_r, sSet_r, sEq_ii, sEq_ss, sNe_ii, sNe_ss, sIn_ss, sIn_st, sIn_sr, sIs_n, sIsNot_n, isNonP_n, isNonP_t, isNonP_s, isNonP_i, isNonP_r, sNeg_i, sSl_r, mDict0_n, mDict1_n, gTupM_t, gConsM_c, gNilM_n, seqP_t, seqP_o, seqP_r, withL_upd, upd_upd, dec_if, true_and, and_true, List.set_cons_zero, List.set_cons_succ, atI_0, atI_1, atI_2, ixN_30, ixN_31, ixN_32, ixN_s0, Option.some.injEq, exists_eq_left', exists_eq_left, Bool.not_true, Bool.not_false, if_true, if_false, Bool.false_eq_true, reduceCtorEq, List.length_cons, List.length_nil, endsOf, wipeM, List.map_cons, List.map_nil, ite_true, ite_false, eq_self_iff_true, false_and, Nat.reduceAdd, decide_true, decide_false, withL_eq hI.e2]
      refine ⟨_, ix, hN3 _ _ ?_⟩
      clear hN3 N3
      have hI := hI.dp ha (i + 1) (v + 1)
      generalize updM M6 p2 (.lst ((pis dep).set (i + 1) (.int (v + 1)))) = M7 at hI
      have hab : a < bs.length := by omega
      obtain ⟨B, eB, hbM⟩ := hI.eb a bs[a] (List.getElem?_eq_getElem hab)
      have eat : atI (bs.map PV.ref) (a : Int) = some (.ref bs[a]) := by rw [atI_map, atI_nat (List.getElem?_eq_getElem hab)]; rfl
      have mb : bs[a] ∈ bs := List.getElem_mem hab
      have ob := (ha.ob _ mb).1
      have hfit := hI.fit a B eB
      simp only [mSeq, mAsg, mOp, mUn, mVar, mC, mCB, mCons, mNil, mTup, mLst_n, mB, mTru, mNot, mAnd, mOr, mAndV, mOrV, mNotV, mIf, mIfS, mRet, mRetN, mDrop, mNext, mBreak, mCont, mBM, mBM0, mCall, mFor, mLc, mYes, iSeq, iRng, iRng2, iRevRng, gNameM, gSubM, mAug, mIsi, mSl, mPart, mNoPart, mRaise, getS_0, getS_s, isB_bl, truP_t, truP_b, sIx_t, sIx_o, sIx_r, sIx_s, sAdd_ii, sAdd_ss, sAdd_tt, sAdd_rr, sIAdd_ii, sIAdd_ss, sMul_ii, sMul_si, sI2_ii, sLen_t, sLen_o, sLen_r, sLen_s, sInt_i, sAbs_i, sMin2_i, sMax2_i, sStrI_i, sTupOf_t, sTupOf_r, sLstOf_t, sLstOf_r, sAppend_r, sPop_r, sPopAt_r, sInsert_r, sSet_r, sEq_ii, sEq_ss, sNe_ii, sNe_ss, sIn_ss, sIn_st, sIn_sr, sIs_n, sIsNot_n, isNonP_n, isNonP_t, isNonP_s, isNonP_i, isNonP_r, sNeg_i, sSl_r, mDict0_n, mDict1_n, gTupM_t, gConsM_c, gNilM_n, seqP_t, seqP_o, seqP_r, withL_upd, upd_upd, dec_if, true_and, and_true, List.set_cons_zero, List.set_cons_succ, atI_0, atI_1, atI_2, ixN_30, ixN_31, ixN_32, ixN_s0, Option.some.injEq, exists_eq_left', exists_eq_left, Bool.not_true, Bool.not_false, if_true, if_false, Bool.false_eq_true, reduceCtorEq, List.length_cons, List.length_nil, endsOf, wipeM, List.map_cons, List.map_nil, ite_true, ite_false, eq_self_iff_true, false_and, Nat.reduceAdd, decide_true, decide_false, withL_eq hI.e3]
      refine ⟨_, eat, ?_⟩
      simp only [mSeq, mAsg, mOp, mUn, mVar, mC, mCB, mCons, mNil, mTup, mLst_n, mB, mTru, mNot, mAnd, mOr, mAndV, mOrV, mNotV, mIf, mIfS, mRet, mRetN, mDrop, mNext, mBreak, mCont, mBM, mBM0, mCall, mFor, mLc, mYes, iSeq, iRng, iRng2, iRevRng, gNameM, gSubM, mAug, mIsi, mSl, mPart, mNoPart, mRaise, getS_0, getS_s, isB_bl, truP_t, truP_b, sIx_t, sIx_o, sIx_r, sIx_s, sAdd_ii, sAdd_ss, sAdd_tt, sAdd_rr, sIAdd_ii, sIAdd_ss, sMul_ii, sMul_si, sI2_ii, sLen_t, sLen_o, sLen_r, sLen_s, sInt_i, sAbs_i, sMin2_i, sMax2_i, sStrI_i, sTupOf_t, sTupOf_r, sLstOf_t, sLstOf_r, sAppend_r, sPop_r, sPopAt_r, sInsert_r, sSet_r, sEq_ii, sEq_ss, sNe_ii, sNe_ss, sIn_ss, sIn_st, sIn_sr, sIs_n, sIsNot_n, isNonP_n, isNonP_t, isNonP_s, isNonP_i, isNonP_r, sNeg_i, sSl_r, mDict0_n, mDict1_n, gTupM_t, gConsM_c, gNilM_n, seqP_t, seqP_o, seqP_r, withL_upd, upd_upd, dec_if, true_and, and_true, List.set_cons_zero, List.set_cons_succ, atI_0, atI_1, atI_2, ixN_30, ixN_31, ixN_32, ixN_s0, Option.some.injEq, exists_eq_left', exists_eq_left, Bool.not_true, Bool.not_false, if_true, if_false, Bool.false_eq_true, reduceCtorEq, List.length_cons, List.length_nil, endsOf, wipeM, List.map_cons, List.map_nil, ite_true, ite_false, eq_self_iff_true, false_and, Nat.reduceAdd, decide_true, decide_false, withL_eq hI.e3, tyM_l hbM]
      refine ⟨_, eat, ?_⟩
      simp only [mSeq, mAsg, mOp, mUn, mVar, mC, mCB, mCons, mNil, mTup, mLst_n, mB, mTru, mNot, mAnd, mOr, mAndV, mOrV, mNotV, mIf, mIfS, mRet, mRetN, mDrop, mNext, mBreak, mCont, mBM, mBM0, mCall, mFor, mLc, mYes, iSeq, iRng, iRng2, iRevRng, gNameM, gSubM, mAug, mIsi, mSl, mPart, mNoPart, mRaise, getS_0, getS_s, isB_bl, truP_t, truP_b, sIx_t, sIx_o, sIx_r, sIx_s, sAdd_ii, sAdd_ss, sAdd_tt, sAdd_rr, sIAdd_ii, sIAdd_ss, sMul_ii, sMul_si, sI2_ii, sLen_t, sLen_o, sLen_r, sLen_s, sInt_i, sAbs_i, sMin2_i, sMax2_i, sStrI_i, sTupOf_t, sTupOf_r, sLstOf_t, sLstOf_r, sAppend_r, sPop_r, sPopAt_r, sInsert_r, sSet_r, sEq_ii, sEq_ss, sNe_ii, sNe_ss, sIn_ss, sIn_st, sIn_sr, sIs_n, sIsNot_n, isNonP_n, isNonP_t, isNonP_s, isNonP_i, isNonP_r, sNeg_i, sSl_r, mDict0_n, mDict1_n, gTupM_t, gConsM_c, gNilM_n, seqP_t, seqP_o, seqP_r, withL_upd, upd_upd, dec_if, true_and, and_true, List.set_cons_zero, List.set_cons_succ, atI_0, atI_1, atI_2, ixN_30, ixN_31, ixN_32, ixN_s0, Option.some.injEq, exists_eq_left', exists_eq_left, Bool.not_true, Bool.not_false, if_true, if_false, Bool.false_eq_true, reduceCtorEq, List.length_cons, List.length_nil, endsOf, wipeM, List.map_cons, List.map_nil, ite_true, ite_false, eq_self_iff_true, false_and, Nat.reduceAdd, decide_true, decide_false, withL_eq hbM]
      have lB : (pns B).length = B.length := by simp
      refine draw_i hI.D (by omega) (by omega) fun d3 M8 hd3 D8 F8 => ?_
      have hI := hI.draw ha D8 F8
      have hbM := F8.at ob hbM
      have hBl : B.length < many := by
        have h1 := len_flat eB
        have h2 := hB.perm.length_eq
        rw [List.length_range] at h2
        omega
      simp only [mSeq, mAsg, mOp, mUn, mVar, mC, mCB, mCons, mNil, mTup, mLst_n, mB, mTru, mNot, mAnd, mOr, mAndV, mOrV, mNotV, mIf, mIfS, mRet, mRetN, mDrop, mNext, mBreak, mCont, mBM, mBM0, mCall, mFor, mLc, mYes, iSeq, iRng, iRng2, iRevRng, gNameM, gSubM, mAug, mIsi, mSl, mPart, mNoPart, mRaise, getS_0, getS_s, isB_bl, truP_t, truP_b, sIx_t, sIx_o, sIx_r, sIx_s, sAdd_ii, sAdd_ss, sAdd_tt, sAdd_rr, sIAdd_ii, sIAdd_ss, sMul_ii, sMul_si, sI2_ii, sLen_t, sLen_o, sLen_r, sLen_s, sInt_i, sAbs_i, sMin2_i, sMax2_i, sStrI_i, sTupOf_t, sTupOf_r, sLstOf_t, sLstOf_r, sAppend_r, sPop_r, sPopAt_r, sInsert_r, sSet_r, sEq_ii, sEq_ss, sNe_ii, sNe_ss, sIn_ss, sIn_st, sIn_sr, sIs_n, sIsNot_n, isNonP_n, isNonP_t, isNonP_s, isNonP_i, isNonP_r, sNeg_i, sSl_r, mDict0_n, mDict1_n, gTupM_t, gConsM_c, gNilM_n, seqP_t, seqP_o, seqP_r, withL_upd, upd_upd, dec_if, true_and, and_true, List.set_cons_zero, List.set_cons_succ, atI_0, atI_1, atI_2, ixN_30, ixN_31, ixN_32, ixN_s0, Option.some.injEq, exists_eq_left', exists_eq_left, Bool.not_true, Bool.not_false, if_true, if_false, Bool.false_eq_true, reduceCtorEq, List.length_cons, List.length_nil, endsOf, wipeM, List.map_cons, List.map_nil, ite_true, ite_false, eq_self_iff_true, false_and, Nat.reduceAdd, decide_true, decide_false, withL_eq hbM]
      refine ⟨⟨by rw [sz24, lB]; omega, by omega, by omega⟩, ?_⟩
      have ed : ((d3 : Nat) : Int).toNat = d3 := by omega
      rw [ed]
      have hB' := bs_ins hB eB hai d3
      have hI := hI.bn ha (List.getElem?_eq_getElem hab) eB (B' := B.take d3 ++ [i] ++ B.drop d3) (by simp; omega)
      have eP : pns (B.take d3 ++ [i] ++ B.drop d3) = (pns B).take d3 ++ [.int i] ++ (pns B).drop d3 := by simp [List.map_take, List.map_drop]
      rw [eP] at hI
      exact hl _ _ ⟨_, _, _, _, _, rfl, hI, by simp [hnl], fun x hx => (List.mem_append.mp hx).elim (hns x) fun h => by cases List.mem_singleton.mp h; exact hn, hB'⟩
    obtain ⟨v, hv⟩ := atd d2 (by omega)
    refine seq_i fun N2 hN2 => ?_
    simp only [mSeq, mAsg, mOp, mUn, mVar, mC, mCB, mCons, mNil, mTup, mLst_n, mB, mTru, mNot, mAnd, mOr, mAndV, mOrV, mNotV, mIf, mIfS, mRet, mRetN, mDrop, mNext, mBreak, mCont, mBM, mBM0, mCall, mFor, mLc, mYes, iSeq, iRng, iRng2, iRevRng, gNameM, gSubM, mAug, mIsi, mSl, mPart, mNoPart, mRaise, getS_0, getS_s, isB_bl, truP_t, truP_b, sIx_t, sIx_o, sIx_r, sIx_s, sAdd_ii, sAdd_ss, sAdd_tt, sAdd_rr, sIAdd_ii, sIAdd_ss, sMul_ii, sMul_si, sI2_ii, sLen_t, sLen_o, sLen_r, sLen_s, sInt_i, sAbs_i, sMin2_i, sMax2_i, sStrI_i, sTupOf_t, sTupOf_r, sLstOf_t, sLstOf_r, sAppend_r, sPop_r, sPopAt_r, sInsert_r, sSet_r, sEq_ii, sEq_ss, sNe_ii, sNe_ss, sIn_ss, sIn_st, sIn_sr, sIs_n, sIsNot_n, isNonP_n, isNonP_t, isNonP_s, isNonP_i, isNonP_r, sNeg_i, sSl_r, mDict0_n, mDict1_n, gTupM_t, gConsM_c, gNilM_n, seqP_t, seqP_o, seqP_r, withL_upd, upd_upd, dec_if, true_and, and_true, List.set_cons_zero, List.set_cons_succ, atI_0, atI_1, atI_2, ixN_30, ixN_31, ixN_32, ixN_s0, Option.some.injEq, exists_eq_left', exists_eq_left, Bool.not_true, Bool.not_false, if_true, if_false, Bool.false_eq_true, reduceCtorEq, List.length_cons, List.length_nil, endsOf, wipeM, List.map_cons, List.map_nil, ite_true, ite_false, eq_self_iff_true, false_and, Nat.reduceAdd, decide_true, decide_false, withL_eq hI.e2]
    refine ⟨_, hv, ?_⟩
    simp only [mSeq, mAsg, mOp, mUn, mVar, mC, mCB, mCons, mNil, mTup, mLst_n, mB, mTru, mNot, mAnd, mOr, mAndV, mOrV, mNotV, mIf, mIfS, mRet, mRetN, mDrop, mNext, mBreak, mCont, mBM, mBM0, mCall, mFor, mLc, mYes, iSeq, iRng, iRng2, iRevRng, gNameM, gSubM, mAug, mIsi, mSl, mPart, mNoPart, mRaise, getS_0, getS_s, isB_bl, truP_t, truP_b, sIx_t, sIx_o, sIx_r, sIx_s, sAdd_ii, sAdd_ss, sAdd_tt, sAdd_rr, sIAdd_ii, sIAdd_ss, sMul_ii, sMul_si, sI2_ii, sLen_t, sLen_o, sLen_r, sLen_s, sInt_i, sAbs_i, sMin2_i, sMax2_i, sStrI_i, sTupOf_t, sTupOf_r, sLstOf_t, sLstOf_r, sAppend_r, sPop_r, sPopAt_r, sInsert_r, sSet_r, sEq_ii, sEq_ss, sNe_ii, sNe_ss, sIn_ss, sIn_st, sIn_sr, sIs_n, sIsNot_n, isNonP_n, isNonP_t, isNonP_s, isNonP_i, isNonP_r, sNeg_i, sSl_r, mDict0_n, mDict1_n, gTupM_t, gConsM_c, gNilM_n, seqP_t, seqP_o, seqP_r, withL_upd, upd_upd, dec_if, true_and, and_true, List.set_cons_zero, List.set_cons_succ, atI_0, atI_1, atI_2, ixN_30, ixN_31, ixN_32, ixN_s0, Option.some.injEq, exists_eq_left', exists_eq_left, Bool.not_true, Bool.not_false, if_true, if_false, Bool.false_eq_true, reduceCtorEq, List.length_cons, List.length_nil, endsOf, wipeM, List.map_cons, List.map_nil, ite_true, ite_false, eq_self_iff_true, false_and, Nat.reduceAdd, decide_true, decide_false]
    split
    · exact hN2 _ _ (rest 0 (Nat.zero_le _))
    · exact hN2 _ _ (rest d2 (by omega))
  · obtain ⟨nms, dep, Bs, k, at_, rfl, hI, hnl, hns, hB⟩ := h
    refine hN1 _ _ ?_
    clear hN1 N1
    refine seq_i fun N1 hN1 => ?_
    simp only [mSeq, mAsg, mOp, mUn, mVar, mC, mCB, mCons, mNil, mTup, mLst_n, mB, mTru, mNot, mAnd, mOr, mAndV, mOrV, mNotV, mIf, mIfS, mRet, mRetN, mDrop, mNext, mBreak, mCont, mBM, mBM0, mCall, mFor, mLc, mYes, iSeq, iRng, iRng2, iRevRng, gNameM, gSubM, mAug, mIsi, mSl, mPart, mNoPart, mRaise, getS_0, getS_s, isB_bl, truP_t, truP_b, sIx_t, sIx_o, sIx_r, sIx_s, sAdd_ii, sAdd_ss, sAdd_tt, sAdd_rr, sIAdd_ii, sIAdd_ss, sMul_ii, sMul_si, sI2_ii, sLen_t, sLen_o, sLen_r, sLen_s, sInt_i, sAbs_i, sMin2_i, sMax2_i, sStrI_i, sTupOf_t, sTupOf_r, sLstOf_t, sLstOf_r, sAppend_r, sPop_r, sPopAt_r, sInsert_r, sSet_r, sEq_ii, sEq_ss, sNe_ii, sNe_ss, sIn_ss, sIn_st, sIn_sr, sIs_n, sIsNot_n, isNonP_n, isNonP_t, isNonP_s, isNonP_i, isNonP_r, sNeg_i, sSl_r, mDict0_n, mDict1_n, gTupM_t, gConsM_c, gNilM_n, seqP_t, seqP_o, seqP_r, withL_upd, upd_upd, dec_if, true_and, and_true, List.set_cons_zero, List.set_cons_succ, atI_0, atI_1, atI_2, ixN_30, ixN_31, ixN_32, ixN_s0, Option.some.injEq, exists_eq_left', exists_eq_left, Bool.not_true, Bool.not_false, if_true, if_false, Bool.false_eq_true, reduceCtorEq, List.length_cons, List.length_nil, endsOf, wipeM, List.map_cons, List.map_nil, ite_true, ite_false, eq_self_iff_true, false_and, Nat.reduceAdd, decide_true, decide_false]
    rw [em3]
    refine ⟨⟨by omega, by omega⟩, ?_⟩
    refine lc_pure (it := .fix (rangeP 0 1 many)) (fun _ => .tup []) (fun P h => h) (by show (rangeP 0 1 many).length ≤ _; rw [rangeP_len, sz24]; omega) (fun x hx R r => ?_) ?_
    · simp only [mSeq, mAsg, mOp, mUn, mVar, mC, mCB, mCons, mNil, mTup, mLst_n, mB, mTru, mNot, mAnd, mOr, mAndV, mOrV, mNotV, mIf, mIfS, mRet, mRetN, mDrop, mNext, mBreak, mCont, mBM, mBM0, mCall, mFor, mLc, mYes, iSeq, iRng, iRng2, iRevRng, gNameM, gSubM, mAug, mIsi, mSl, mPart, mNoPart, mRaise, getS_0, getS_s, isB_bl, truP_t, truP_b, sIx_t, sIx_o, sIx_r, sIx_s, sAdd_ii, sAdd_ss, sAdd_tt, sAdd_rr, sIAdd_ii, sIAdd_ss, sMul_ii, sMul_si, sI2_ii, sLen_t, sLen_o, sLen_r, sLen_s, sInt_i, sAbs_i, sMin2_i, sMax2_i, sStrI_i, sTupOf_t, sTupOf_r, sLstOf_t, sLstOf_r, sAppend_r, sPop_r, sPopAt_r, sInsert_r, sSet_r, sEq_ii, sEq_ss, sNe_ii, sNe_ss, sIn_ss, sIn_st, sIn_sr, sIs_n, sIsNot_n, isNonP_n, isNonP_t, isNonP_s, isNonP_i, isNonP_r, sNeg_i, sSl_r, mDict0_n, mDict1_n, gTupM_t, gConsM_c, gNilM_n, seqP_t, seqP_o, seqP_r, withL_upd, upd_upd, dec_if, true_and, and_true, List.set_cons_zero, List.set_cons_succ, atI_0, atI_1, atI_2, ixN_30, ixN_31, ixN_32, ixN_s0, Option.some.injEq, exists_eq_left', exists_eq_left, Bool.not_true, Bool.not_false, if_true, if_false, Bool.false_eq_true, reduceCtorEq, List.length_cons, List.length_nil, endsOf, wipeM, List.map_cons, List.map_nil, ite_true, ite_false, eq_self_iff_true, false_and, Nat.reduceAdd, decide_true, decide_false]; exact ⟨by decide, r⟩
    refine newL_i fun p5 M5 n5 h5 x5 => hN1 _ _ ?_
    clear hN1 N1
    have o5 := hI.D.oth n5
    have m5 := hI.F.none hI.D n5
    have ne1 : p1 ≠ p5 := fun z => by have := hI.e1; rw [z, n5] at this; cases this
    have ne2 : p2 ≠ p5 := fun z => by have := hI.e2; rw [z, n5] at this; cases this
    have ne3 : p3 ≠ p5 := fun z => by have := hI.e3; rw [z, n5] at this; cases this
    have neb : ∀ i b, bs[i]? = some b → b ≠ p5 := fun i b e z => by obtain ⟨B, _, hb⟩ := hI.eb i b e; rw [z, n5] at hb; cases hb
    have hI := hI.draw ha (hI.D.ext x5) x5.fr
    have h5 : M5 p5 = some (.lst (List.replicate many (.tup []))) := by
      rw [h5]
      congr 2
      show (rangeP 0 1 many).map _ = _
      rw [List.eq_replicate_iff]
      refine ⟨by rw [List.length_map, rangeP_len], fun b hb => ?_⟩
      obtain ⟨_, _, rfl⟩ := List.mem_map.mp hb
      rfl
    have upI : ∀ M6 o, HI M st g c p1 p2 p3 many M6 nms dep bs Bs → p2 ≠ p5 → HI M st g c p1 p2 p3 many (updM M6 p5 o) nms dep bs Bs := fun M6 o h n2 =>
      ⟨h.D.mut o5, h.F.mut m5, by rw [updM_ne ne1]; exact h.e1, by rw [updM_ne n2]; exact h.e2, by rw [updM_ne ne3]; exact h.e3, fun i b e => let ⟨B, a1, a2⟩ := h.eb i b e; ⟨B, a1, by rw [updM_ne (neb i b e)]; exact a2⟩, h.ld, h.lb, h.fit⟩
    have inr : ∀ (i : Nat) (B : List Nat), Bs[i]? = some B → ∀ c ∈ B, c < many := fun i B e c hc => by
      have : c ∈ Bs.flatten := List.mem_flatten.mpr ⟨B, List.mem_iff_getElem?.mpr ⟨i, e⟩, hc⟩
      exact List.mem_range.mp (hB.perm.mem_iff.mp this)
    have row : ∀ (T : List PV) (M6 : MHp) (Q' : MQ) (k : Option PV) (o : Nat) (B : List Nat) (b : Addr), T.length = many → Bs[o]? = some B → M6 b = some (.lst (pns B)) → M6 p5 = some (.lst T) →
        newL M6 (B.map fun o => (T[o]?).getD .non) Q' → lcG (.live b (pns B)) (gNameM 9) mYes (mOp sIx (mVar 8) (mVar 9)) [some (.ref st), some (.int many), some (.ref nm), some (.ref p1), some (.ref p2), some (.ref p3), k, at_, some (.ref p5), none] Q' (pns B) [] M6 := by
      intro T M6 Q' k o B b hT hB hb h5 hq
      have hfit := hI.fit o B hB
      refine lc_pure (it := .live b (pns B)) (fun x => match x with | .int i => (T[i.toNat]?).getD .non | x => x) (fun P h => ⟨hb, h⟩) (by show (pns B).length ≤ _; rw [List.length_map, sz24]; omega) (fun x hx R r => ?_) ?_
      · obtain ⟨kk, hk, rfl⟩ := List.mem_map.mp hx
        have hlt : kk < T.length := by rw [hT]; exact inr _ _ hB kk hk
        simp only [mSeq, mAsg, mOp, mUn, mVar, mC, mCB, mCons, mNil, mTup, mLst_n, mB, mTru, mNot, mAnd, mOr, mAndV, mOrV, mNotV, mIf, mIfS, mRet, mRetN, mDrop, mNext, mBreak, mCont, mBM, mBM0, mCall, mFor, mLc, mYes, iSeq, iRng, iRng2, iRevRng, gNameM, gSubM, mAug, mIsi, mSl, mPart, mNoPart, mRaise, getS_0, getS_s, isB_bl, truP_t, truP_b, sIx_t, sIx_o, sIx_r, sIx_s, sAdd_ii, sAdd_ss, sAdd_tt, sAdd_rr, sIAdd_ii, sIAdd_ss, sMul_ii, sMul_si, sI2_ii, sLen_t, sLen_o, sLen_r, sLen_s, sInt_i, sAbs_i, sMin2_i, sMax2_i, sStrI_i, sTupOf_t, sTupOf_r, sLstOf_t, sLstOf_r, sAppend_r, sPop_r, sPopAt_r, sInsert_r, sSet_r, sEq_ii, sEq_ss, sNe_ii, sNe_ss, sIn_ss, sIn_st, sIn_sr, sIs_n, sIsNot_n, isNonP_n, isNonP_t, isNonP_s, isNonP_i, isNonP_r, sNeg_i, sSl_r, mDict0_n, mDict1_n, gTupM_t, gConsM_c, gNilM_n, seqP_t, seqP_o, seqP_r, withL_upd, upd_upd, dec_if, true_and, and_true, List.set_cons_zero, List.set_cons_succ, atI_0, atI_1, atI_2, ixN_30, ixN_31, ixN_32, ixN_s0, Option.some.injEq, exists_eq_left', exists_eq_left, Bool.not_true, Bool.not_false, if_true, if_false, Bool.false_eq_true, reduceCtorEq, List.length_cons, List.length_nil, endsOf, wipeM, List.map_cons, List.map_nil, ite_true, ite_false, eq_self_iff_true, false_and, Nat.reduceAdd, decide_true, decide_false, withL_eq h5]
        refine ⟨T[kk], atI_nat (List.getElem?_eq_getElem hlt), ?_⟩
        have e : (((kk : Nat) : Int).toNat) = kk := by omega
        have r : R ((T[((kk : Nat) : Int).toNat]?).getD .non) M6 := r
        rw [e, List.getElem?_eq_getElem hlt] at r
        exact r
      · have e : (MIt.items (.live b (pns B))).map (fun x => match x with | .int i => (T[i.toNat]?).getD .non | x => x) = B.map fun o => (T[o]?).getD .non := by
          show (pns B).map _ = _
          rw [List.map_map]
          rfl
        rw [e]
        exact hq
    refine seq_i fun N1 hN1 => ?_
    simp only [mSeq, mAsg, mOp, mUn, mVar, mC, mCB, mCons, mNil, mTup, mLst_n, mB, mTru, mNot, mAnd, mOr, mAndV, mOrV, mNotV, mIf, mIfS, mRet, mRetN, mDrop, mNext, mBreak, mCont, mBM, mBM0, mCall, mFor, mLc, mYes, iSeq, iRng, iRng2, iRevRng, gNameM, gSubM, mAug, mIsi, mSl, mPart, mNoPart, mRaise, getS_0, getS_s, isB_bl, truP_t, truP_b, sIx_t, sIx_o, sIx_r, sIx_s, sAdd_ii, sAdd_ss, sAdd_tt, sAdd_rr, sIAdd_ii, sIAdd_ss, sMul_ii, sMul_si, sI2_ii, sLen_t, sLen_o, sLen_r, sLen_s, sInt_i, sAbs_i, sMin2_i, sMax2_i, sStrI_i, sTupOf_t, sTupOf_r, sLstOf_t, sLstOf_r, sAppend_r, sPop_r, sPopAt_r, sInsert_r, sSet_r, sEq_ii, sEq_ss, sNe_ii, sNe_ss, sIn_ss, sIn_st, sIn_sr, sIs_n, sIsNot_n, isNonP_n, isNonP_t, isNonP_s, isNonP_i, isNonP_r, sNeg_i, sSl_r, mDict0_n, mDict1_n, gTupM_t, gConsM_c, gNilM_n, seqP_t, seqP_o, seqP_r, withL_upd, upd_upd, dec_if, true_and, and_true, List.set_cons_zero, List.set_cons_succ, atI_0, atI_1, atI_2, ixN_30, ixN_31, ixN_32, ixN_s0, Option.some.injEq, exists_eq_left', exists_eq_left, Bool.not_true, Bool.not_false, if_true, if_false, Bool.false_eq_true, reduceCtorEq, List.length_cons, List.length_nil, endsOf, wipeM, List.map_cons, List.map_nil, ite_true, ite_false, eq_self_iff_true, false_and, Nat.reduceAdd, decide_true, decide_false]
    refine ⟨⟨by omega, by omega⟩, ?_⟩
    rw [em3]
    refine for_fix (fun i μ M' => ∃ (T : List PV) (k : Option PV), μ = [some (.ref st), some (.int many), some (.ref nm), some (.ref p1), some (.ref p2), some (.ref p3), k, at_, some (.ref p5), none] ∧ HI M st g c p1 p2 p3 many M' nms dep bs Bs ∧ M' p5 = some (.lst T) ∧ Bld ns many Bs T (many - i))
      (fun i x μ M' L ex h hl => ?_) (fun μ M' h => ?_) ⟨_, k, rfl, hI, h5, by simp, fun c h1 h2 => by omega⟩
    · obtain ⟨T, k, rfl, hI, h5, hT⟩ := h
      have hlt : i < many := by
        have := (List.getElem?_eq_some_iff.mp ex).1
        rwa [rangeP_len] at this
      rw [rangeP_get hlt] at ex
      cases ex
      obtain ⟨kk, hkk⟩ : ∃ kk : Nat, kk = many - 1 - i := ⟨_, rfl⟩
      have ek : ((many : Int) - 1) + (i : Nat) * (-1) = (kk : Int) := by omega
      rw [ek]
      have hkm : kk < many := by omega
      have hk1 : kk < nms.length := by omega
      have a1 : atI (pss nms) (kk : Int) = some (.str nms[kk]) := by rw [pss, atI_map, atI_nat (List.getElem?_eq_getElem hk1)]; rfl
      have hk2 : kk + 1 < bs.length := by omega
      obtain ⟨B, eB, hbM⟩ := hI.eb (kk + 1) bs[kk + 1] (List.getElem?_eq_getElem hk2)
      have a2 : atI (bs.map PV.ref) ((kk : Int) + 1) = some (.ref bs[kk + 1]) := by
        have e : (kk : Int) + 1 = ((kk + 1 : Nat) : Int) := by omega
        rw [e, atI_map, atI_nat (List.getElem?_eq_getElem hk2)]; rfl
      simp only [mSeq, mAsg, mOp, mUn, mVar, mC, mCB, mCons, mNil, mTup, mLst_n, mB, mTru, mNot, mAnd, mOr, mAndV, mOrV, mNotV, mIf, mIfS, mRet, mRetN, mDrop, mNext, mBreak, mCont, mBM, mBM0, mCall, mFor, mLc, mYes, iSeq, iRng, iRng2, iRevRng, gNameM, gSubM, mAug, mIsi, mSl, mPart, mNoPart, mRaise, getS_0, getS_s, isB_bl, truP_t, truP_b, sIx_t, sIx_o, sIx_r, sIx_s, sAdd_ii, sAdd_ss, sAdd_tt, sAdd_rr, sIAdd_ii, sIAdd_ss, sMul_ii, sMul_si, sI2_ii, sLen_t, sLen_o, sLen_r, sLen_s, sInt_i, sAbs_i, sMin2_i, sMax2_i, sStrI_i, sTupOf_t, sTupOf_r, sLstOf_t, sLstOf_r, sAppend_r, sPop_r, sPopAt_r, sInsert_r, sSet_r, sEq_ii, sEq_ss, sNe_ii, sNe_ss, sIn_ss, sIn_st, sIn_sr, sIs_n, sIsNot_n, isNonP_n, isNonP_t, isNonP_s, isNonP_i, isNonP_r, sNeg_i, sSl_r, mDict0_n, mDict1_n, gTupM_t, gConsM_c, gNilM_n, seqP_t, seqP_o, seqP_r, withL_upd, upd_upd, dec_if, true_and, and_true, List.set_cons_zero, List.set_cons_succ, atI_0, atI_1, atI_2, ixN_30, ixN_31, ixN_32, ixN_s0, Option.some.injEq, exists_eq_left', exists_eq_left, Bool.not_true, Bool.not_false, if_true, if_false, Bool.false_eq_true, reduceCtorEq, List.length_cons, List.length_nil, endsOf, wipeM, List.map_cons, List.map_nil, ite_true, ite_false, eq_self_iff_true, false_and, Nat.reduceAdd, decide_true, decide_false, withL_eq hI.e1]
      refine ⟨_, a1, ?_⟩
      simp only [mSeq, mAsg, mOp, mUn, mVar, mC, mCB, mCons, mNil, mTup, mLst_n, mB, mTru, mNot, mAnd, mOr, mAndV, mOrV, mNotV, mIf, mIfS, mRet, mRetN, mDrop, mNext, mBreak, mCont, mBM, mBM0, mCall, mFor, mLc, mYes, iSeq, iRng, iRng2, iRevRng, gNameM, gSubM, mAug, mIsi, mSl, mPart, mNoPart, mRaise, getS_0, getS_s, isB_bl, truP_t, truP_b, sIx_t, sIx_o, sIx_r, sIx_s, sAdd_ii, sAdd_ss, sAdd_tt, sAdd_rr, sIAdd_ii, sIAdd_ss, sMul_ii, sMul_si, sI2_ii, sLen_t, sLen_o, sLen_r, sLen_s, sInt_i, sAbs_i, sMin2_i, sMax2_i, sStrI_i, sTupOf_t, sTupOf_r, sLstOf_t, sLstOf_r, sAppend_r, sPop_r, sPopAt_r, sInsert_r, sSet_r, sEq_ii, sEq_ss, sNe_ii, sNe_ss, sIn_ss, sIn_st, sIn_sr, sIs_n, sIsNot_n, isNonP_n, isNonP_t, isNonP_s, isNonP_i, isNonP_r, sNeg_i, sSl_r, mDict0_n, mDict1_n, gTupM_t, gConsM_c, gNilM_n, seqP_t, seqP_o, seqP_r, withL_upd, upd_upd, dec_if, true_and, and_true, List.set_cons_zero, List.set_cons_succ, atI_0, atI_1, atI_2, ixN_30, ixN_31, ixN_32, ixN_s0, Option.some.injEq, exists_eq_left', exists_eq_left, Bool.not_true, Bool.not_false, if_true, if_false, Bool.false_eq_true, reduceCtorEq, List.length_cons, List.length_nil, endsOf, wipeM, List.map_cons, List.map_nil, ite_true, ite_false, eq_self_iff_true, false_and, Nat.reduceAdd, decide_true, decide_false, withL_eq hI.e3]
      refine ⟨_, a2, ?_⟩
      simp only [mSeq, mAsg, mOp, mUn, mVar, mC, mCB, mCons, mNil, mTup, mLst_n, mB, mTru, mNot, mAnd, mOr, mAndV, mOrV, mNotV, mIf, mIfS, mRet, mRetN, mDrop, mNext, mBreak, mCont, mBM, mBM0, mCall, mFor, mLc, mYes, iSeq, iRng, iRng2, iRevRng, gNameM, gSubM, mAug, mIsi, mSl, mPart, mNoPart, mRaise, getS_0, getS_s, isB_bl, truP_t, truP_b, sIx_t, sIx_o, sIx_r, sIx_s, sAdd_ii, sAdd_ss, sAdd_tt, sAdd_rr, sIAdd_ii, sIAdd_ss, sMul_ii, sMul_si, sI2_ii, sLen_t, sLen_o, sLen_r, sLen_s, sInt_i, sAbs_i, sMin2_i, sMax2_i, sStrI_i, sTupOf_t, sTupOf_r, sLstOf_t, sLstOf_r, sAppend_r, sPop_r, sPopAt_r, sInsert_r, sSet_r, sEq_ii, sEq_ss, sNe_ii, sNe_ss, sIn_ss, sIn_st, sIn_sr, sIs_n, sIsNot_n, isNonP_n, isNonP_t, isNonP_s, isNonP_i, isNonP_r, sNeg_i, sSl_r, mDict0_n, mDict1_n, gTupM_t, gConsM_c, gNilM_n, seqP_t, seqP_o, seqP_r, withL_upd, upd_upd, dec_if, true_and, and_true, List.set_cons_zero, List.set_cons_succ, atI_0, atI_1, atI_2, ixN_30, ixN_31, ixN_32, ixN_s0, Option.some.injEq, exists_eq_left', exists_eq_left, Bool.not_true, Bool.not_false, if_true, if_false, Bool.false_eq_true, reduceCtorEq, List.length_cons, List.length_nil, endsOf, wipeM, List.map_cons, List.map_nil, ite_true, ite_false, eq_self_iff_true, false_and, Nat.reduceAdd, decide_true, decide_false, withL_eq hbM]
      refine row T M' _ _ (kk + 1) B _ hT.len eB hbM h5 (newL_i fun p6 M6 n6 h6 x6 => ?_)
      have h56 := x6 _ _ h5
      have ix : ixN T.length (kk : Int) = some kk := by
        rw [hT.len]
        unfold ixN
        rw [if_pos (by omega), if_pos (by omega)]
        rfl
      simp only [mSeq, mAsg, mOp, mUn, mVar, mC, mCB, mCons, mNil, mTup, mLst_n, mB, mTru, mNot, mAnd, mOr, mAndV, mOrV, mNotV, mIf, mIfS, mRet, mRetN, mDrop, mNext, mBreak, mCont, mBM, mBM0, mCall, mFor, mLc, mYes, iSeq, iRng, iRng2, iRevRng, gNameM, gSubM, mAug, mIsi, mSl, mPart, mNoPart, mRaise, getS_0, getS_s, isB_bl, truP_t, truP_b, sIx_t, sIx_o, sIx_r, sIx_s, sAdd_ii, sAdd_ss, sAdd_tt, sAdd_rr, sIAdd_ii, sIAdd_ss, sMul_ii, sMul_si, sI2_ii, sLen_t, sLen_o, sLen_r, sLen_s, sInt_i, sAbs_i, sMin2_i, sMax2_i, sStrI_i, sTupOf_t, sTupOf_r, sLstOf_t, sLstOf_r, sAppend_r, sPop_r, sPopAt_r, sInsert_r, sSet_r, sEq_ii, sEq_ss, sNe_ii, sNe_ss, sIn_ss, sIn_st, sIn_sr, sIs_n, sIsNot_n, isNonP_n, isNonP_t, isNonP_s, isNonP_i, isNonP_r, sNeg_i, sSl_r, mDict0_n, mDict1_n, gTupM_t, gConsM_c, gNilM_n, seqP_t, seqP_o, seqP_r, withL_upd, upd_upd, dec_if, true_and, and_true, List.set_cons_zero, List.set_cons_succ, atI_0, atI_1, atI_2, ixN_30, ixN_31, ixN_32, ixN_s0, Option.some.injEq, exists_eq_left', exists_eq_left, Bool.not_true, Bool.not_false, if_true, if_false, Bool.false_eq_true, reduceCtorEq, List.length_cons, List.length_nil, endsOf, wipeM, List.map_cons, List.map_nil, ite_true, ite_false, eq_self_iff_true, false_and, Nat.reduceAdd, decide_true, decide_false, withL_eq h6, withL_eq h56]
      refine ⟨by decide, kk, ix, hl _ _ ⟨_, _, rfl, upI M6 _ (hI.draw ha (hI.D.ext x6) x6.fr) ne2, updM_same, ?_⟩⟩
      have e1 : many - i = kk + 1 := by omega
      have e2 : many - (i + 1) = kk := by omega
      rw [e1] at hT
      rw [e2]
      exact bld_step hT hkm hB (hns _ (List.getElem_mem hk1)) eB
    · obtain ⟨T, k, rfl, hI, h5, hT⟩ := h
      rw [rangeP_len, Nat.sub_self] at hT
      refine hN1 _ _ ?_
      have hk2 : 0 < bs.length := by omega
      obtain ⟨B, eB, hbM⟩ := hI.eb 0 bs[0] (List.getElem?_eq_getElem hk2)
      have a2 : atI (bs.map PV.ref) 0 = some (.ref bs[0]) := by
        have := atI_nat (xs := bs.map PV.ref) (j := 0) (v := .ref bs[0]) (by rw [List.getElem?_map, List.getElem?_eq_getElem hk2]; rfl)
        exact this
      simp only [mSeq, mAsg, mOp, mUn, mVar, mC, mCB, mCons, mNil, mTup, mLst_n, mB, mTru, mNot, mAnd, mOr, mAndV, mOrV, mNotV, mIf, mIfS, mRet, mRetN, mDrop, mNext, mBreak, mCont, mBM, mBM0, mCall, mFor, mLc, mYes, iSeq, iRng, iRng2, iRevRng, gNameM, gSubM, mAug, mIsi, mSl, mPart, mNoPart, mRaise, getS_0, getS_s, isB_bl, truP_t, truP_b, sIx_t, sIx_o, sIx_r, sIx_s, sAdd_ii, sAdd_ss, sAdd_tt, sAdd_rr, sIAdd_ii, sIAdd_ss, sMul_ii, sMul_si, sI2_ii, sLen_t, sLen_o, sLen_r, sLen_s, sInt_i, sAbs_i, sMin2_i, sMax2_i, sStrI_i, sTupOf_t, sTupOf_r, sLstOf_t, sLstOf_r, sAppend_r, sPop_r, sPopAt_r, sInsert_r, sSet_r, sEq_ii, sEq_ss, sNe_ii, sNe_ss, sIn_ss, sIn_st, sIn_sr, sIs_n, sIsNot_n, isNonP_n, isNonP_t, isNonP_s, isNonP_i, isNonP_r, sNeg_i, sSl_r, mDict0_n, mDict1_n, gTupM_t, gConsM_c, gNilM_n, seqP_t, seqP_o, seqP_r, withL_upd, upd_upd, dec_if, true_and, and_true, List.set_cons_zero, List.set_cons_succ, atI_0, atI_1, atI_2, ixN_30, ixN_31, ixN_32, ixN_s0, Option.some.injEq, exists_eq_left', exists_eq_left, Bool.not_true, Bool.not_false, if_true, if_false, Bool.false_eq_true, reduceCtorEq, List.length_cons, List.length_nil, endsOf, wipeM, List.map_cons, List.map_nil, ite_true, ite_false, eq_self_iff_true, false_and, Nat.reduceAdd, decide_true, decide_false, withL_eq hI.e3]
      refine ⟨_, a2, ?_⟩
      simp only [mSeq, mAsg, mOp, mUn, mVar, mC, mCB, mCons, mNil, mTup, mLst_n, mB, mTru, mNot, mAnd, mOr, mAndV, mOrV, mNotV, mIf, mIfS, mRet, mRetN, mDrop, mNext, mBreak, mCont, mBM, mBM0, mCall, mFor, mLc, mYes, iSeq, iRng, iRng2, iRevRng, gNameM, gSubM, mAug, mIsi, mSl, mPart, mNoPart, mRaise, getS_0, getS_s, isB_bl, truP_t, truP_b, sIx_t, sIx_o, sIx_r, sIx_s, sAdd_ii, sAdd_ss, sAdd_tt, sAdd_rr, sIAdd_ii, sIAdd_ss, sMul_ii, sMul_si, sI2_ii, sLen_t, sLen_o, sLen_r, sLen_s, sInt_i, sAbs_i, sMin2_i, sMax2_i, sStrI_i, sTupOf_t, sTupOf_r, sLstOf_t, sLstOf_r, sAppend_r, sPop_r, sPopAt_r, sInsert_r, sSet_r, sEq_ii, sEq_ss, sNe_ii, sNe_ss, sIn_ss, sIn_st, sIn_sr, sIs_n, sIsNot_n, isNonP_n, isNonP_t, isNonP_s, isNonP_i, isNonP_r, sNeg_i, sSl_r, mDict0_n, mDict1_n, gTupM_t, gConsM_c, gNilM_n, seqP_t, seqP_o, seqP_r, withL_upd, upd_upd, dec_if, true_and, and_true, List.set_cons_zero, List.set_cons_succ, atI_0, atI_1, atI_2, ixN_30, ixN_31, ixN_32, ixN_s0, Option.some.injEq, exists_eq_left', exists_eq_left, Bool.not_true, Bool.not_false, if_true, if_false, Bool.false_eq_true, reduceCtorEq, List.length_cons, List.length_nil, endsOf, wipeM, List.map_cons, List.map_nil, ite_true, ite_false, eq_self_iff_true, false_and, Nat.reduceAdd, decide_true, decide_false, withL_eq hbM]
      refine row T M' _ _ 0 B _ hT.len eB hbM h5 (newL_i fun p6 M6 n6 h6 x6 => ?_)
      simp only [mSeq, mAsg, mOp, mUn, mVar, mC, mCB, mCons, mNil, mTup, mLst_n, mB, mTru, mNot, mAnd, mOr, mAndV, mOrV, mNotV, mIf, mIfS, mRet, mRetN, mDrop, mNext, mBreak, mCont, mBM, mBM0, mCall, mFor, mLc, mYes, iSeq, iRng, iRng2, iRevRng, gNameM, gSubM, mAug, mIsi, mSl, mPart, mNoPart, mRaise, getS_0, getS_s, isB_bl, truP_t, truP_b, sIx_t, sIx_o, sIx_r, sIx_s, sAdd_ii, sAdd_ss, sAdd_tt, sAdd_rr, sIAdd_ii, sIAdd_ss, sMul_ii, sMul_si, sI2_ii, sLen_t, sLen_o, sLen_r, sLen_s, sInt_i, sAbs_i, sMin2_i, sMax2_i, sStrI_i, sTupOf_t, sTupOf_r, sLstOf_t, sLstOf_r, sAppend_r, sPop_r, sPopAt_r, sInsert_r, sSet_r, sEq_ii, sEq_ss, sNe_ii, sNe_ss, sIn_ss, sIn_st, sIn_sr, sIs_n, sIsNot_n, isNonP_n, isNonP_t, isNonP_s, isNonP_i, isNonP_r, sNeg_i, sSl_r, mDict0_n, mDict1_n, gTupM_t, gConsM_c, gNilM_n, seqP_t, seqP_o, seqP_r, withL_upd, upd_upd, dec_if, true_and, and_true, List.set_cons_zero, List.set_cons_succ, atI_0, atI_1, atI_2, ixN_30, ixN_31, ixN_32, ixN_s0, Option.some.injEq, exists_eq_left', exists_eq_left, Bool.not_true, Bool.not_false, if_true, if_false, Bool.false_eq_true, reduceCtorEq, List.length_cons, List.length_nil, endsOf, wipeM, List.map_cons, List.map_nil, ite_true, ite_false, eq_self_iff_true, false_and, Nat.reduceAdd, decide_true, decide_false, withL_eq h6]
      obtain ⟨g1, g2⟩ := bld_law hB hT eB
      exact q _ _ (hI.D.ext x6) (hI.F.trans x6.fr) g1 g2
  · rw [List.getElem?_replicate] at hB
    split at hB
    · cases hB; cases hc
    · cases hB
end K01
end PL
end L2
set_option maxRecDepth 100000
set_option maxHeartbeats 2000000
/-! F1: forests as a plain type (first child, next one); texts of them -/
namespace L2
namespace PL
namespace F
open PySem PySem.Spec PyProof.Rows K01
inductive Fo where
  | nil
  | cons (n : Str) (b r : Fo)
def Fo.pv : Fo → List PV
  | .nil => []
  | .cons n b r => .tup [.str n, .tup b.pv] :: r.pv
def Fo.cnt : Fo → Nat
  | .nil => 0
  | .cons _ b r => 1 + b.cnt + r.cnt
def Fo.dep : Fo → Nat
  | .nil => 0
  | .cons _ b r => max (1 + b.dep) r.dep
def Fo.All (P : Str → Prop) : Fo → Prop
  | .nil => True
  | .cons n b r => P n ∧ b.All P ∧ r.All P
def Fo.isNil : Fo → Bool
  | .nil => true
  | _ => false
theorem Fo.All.imp {P Q : Str → Prop} (i : ∀ n, P n → Q n) : ∀ {F : Fo}, F.All P → F.All Q
  | .nil, _ => trivial
  | .cons n b r, ⟨h1, h2, h3⟩ => ⟨i n h1, h2.imp i, h3.imp i⟩
theorem pv_nil {F : Fo} : F.pv = [] ↔ F = .nil := by cases F <;> simp [Fo.pv]
theorem pv_len {F : Fo} : F.pv.isEmpty = F.isNil := by cases F <;> rfl
theorem of_good {ns : List Str} : ∀ (m : Nat) (l : List PV), cntR l ≤ m → goodR ns l = true → ∃ F : Fo, l = F.pv ∧ F.All (· ∈ ns) ∧ F.cnt = cntR l ∧ F.dep = depR l
  | _, [], _, _ => ⟨.nil, rfl, trivial, cntR_nil.symm, depR_nil.symm⟩
  | 0, t :: r, h, _ => by have := cntR_len (t :: r); simp at this; omega
  | m + 1, t :: r, h, g => by
    rw [goodR, Bool.and_eq_true] at g
    obtain ⟨n, b, rfl, hn, gb⟩ := good_shape g.1
    rw [cntR, cntT] at h
    obtain ⟨B, rfl, b1, b2, b3⟩ := of_good m b (by omega) gb
    obtain ⟨R, rfl, r1, r2, r3⟩ := of_good m r (by omega) g.2
    refine ⟨.cons n B R, rfl, ⟨hn, b1, r1⟩, ?_, ?_⟩
    · rw [cntR, cntT, Fo.cnt, b2, r2]
    · rw [depR, depT, Fo.dep, b3, r3]
theorem pv_good {ns : List Str} : ∀ {F : Fo}, F.All (· ∈ ns) → goodR ns F.pv = true
  | .nil, _ => goodR_nil
  | .cons n b r, ⟨h1, h2, h3⟩ => by rw [Fo.pv, goodR, goodT, pv_good h2, pv_good h3]; simpa using h1
theorem pv_cnt : ∀ F : Fo, cntR F.pv = F.cnt
  | .nil => cntR_nil
  | .cons n b r => by rw [Fo.pv, cntR, cntT, Fo.cnt, pv_cnt b, pv_cnt r]
theorem pv_dep : ∀ F : Fo, depR F.pv = F.dep
  | .nil => depR_nil
  | .cons n b r => by rw [Fo.pv, depR, depT, Fo.dep, pv_dep b, pv_dep r]
theorem pv_length : ∀ F : Fo, F.pv.length ≤ F.cnt
  | .nil => Nat.le_refl _
  | .cons n b r => by have := pv_length r; rw [Fo.pv, Fo.cnt, List.length_cons]; omega
theorem pv_live {M : MHp} : ∀ F : Fo, liveL M F.pv
  | .nil => by unfold Fo.pv liveL; trivial
  | .cons n b r => by
    have h1 := pv_live (M := M) b
    have h2 := pv_live (M := M) r
    simp [Fo.pv, liveL, liveP, h1, h2]

/-! ### the text -/
/-- code points of the text -/
def Fo.txt : Fo → List Nat
  | .nil => []
  | .cons n b r => cl n ++ (if b.isNil then [] else 40 :: b.txt ++ [41]) ++ (if r.isNil then [] else 32 :: r.txt)
def one (n : Str) (b : Fo) (t : Str) : Str := if b.isNil then n else n ++ ("(" : Str) ++ t ++ (")" : Str)
def mk (cs : List Nat) : Str := ⟨cs.toArray⟩
theorem cl_mk {cs : List Nat} : cl (mk cs) = cs := by simp [mk, cl]
theorem mk_cl {s : Str} : mk (cl s) = s := by simp [mk, cl]
theorem cl_inj {a b : Str} (h : cl a = cl b) : a = b := by rw [← mk_cl (s := a), h, mk_cl]
def Fo.rows : Fo → List Str
  | .nil => []
  | .cons n b r => one n b (mk b.txt) :: r.rows
theorem cl_sp : cl (" " : Str) = [32] := by decide +kernel
theorem cl_e : cl ("" : Str) = [] := by decide +kernel
theorem isNil_nil : Fo.nil.isNil = true := rfl
theorem isNil_cons {n : Str} {b r : Fo} : (Fo.cons n b r).isNil = false := rfl
theorem cl_lp : cl ("(" : Str) = [40] := by decide +kernel
theorem cl_rp : cl (")" : Str) = [41] := by decide +kernel
theorem cl_nl : cl ("\n" : Str) = [10] := by decide +kernel
theorem cl_join {a : Str} : ∀ ys : List Str, cl (Txt.join a ys) = List.intercalate (cl a) (ys.map cl)
  | [] => by rw [Txt.join, StrLaws.glued_eq_join]; rfl
  | [y] => by rw [Txt.join, StrLaws.glued_eq_join]; simp [Str.join, List.intercalate]
  | y :: z :: r => by
    have ih := cl_join (a := a) (z :: r)
    rw [Txt.join, StrLaws.glued_eq_join] at ih ⊢
    show cl (y ++ a ++ Str.join a (z :: r)) = _
    rw [cl_app, cl_app, ih]
    simp [List.intercalate, List.intersperse]
theorem rows_txt : ∀ F : Fo, List.intercalate [32] (F.rows.map cl) = F.txt
  | .nil => rfl
  | .cons n b r => by
    have ih := rows_txt r
    have h1 : cl (one n b (mk b.txt)) = cl n ++ (if b.isNil then [] else 40 :: b.txt ++ [41]) := by
      unfold one
      split
      · simp
      · rw [cl_app, cl_app, cl_app, cl_lp, cl_rp, cl_mk]; simp
    rw [Fo.rows, Fo.txt, List.map_cons, h1]
    cases r with
    | nil => simp [Fo.rows, isNil_nil, List.intercalate]
    | cons m c s =>
      rw [← ih]
      simp [Fo.rows, isNil_cons, List.intercalate, List.intersperse]
theorem txt_join (F : Fo) : Txt.join (" " : Str) F.rows = mk F.txt := by
  apply cl_inj
  rw [cl_join, cl_sp, rows_txt, cl_mk]
theorem txt_len {F : Fo} (h : F.All fun n => (cl n).length ≤ 46) : F.txt.length ≤ 50 * F.cnt := by
  induction F with
  | nil => simp [Fo.txt]
  | cons n b r hb hr =>
    obtain ⟨h1, h2, h3⟩ := h
    have b1 := hb h2
    have r1 := hr h3
    have e1 : (if b.isNil then [] else 40 :: b.txt ++ [41] : List Nat).length ≤ b.txt.length + 2 := by split <;> simp
    have e2 : (if r.isNil then [] else 32 :: r.txt : List Nat).length ≤ r.txt.length + 1 := by split <;> simp
    rw [Fo.txt, Fo.cnt, List.length_append, List.length_append]
    omega
/-! ### the steps -/
def Fo.st : Fo → List (Option Str)
  | .nil => []
  | .cons n b r => some n :: b.st ++ none :: r.st
def stv : Option Str → PV
  | some n => .str n
  | none => .non
/-- the parts that write_forest makes of steps, from `before` on -/
def wsep : Nat → List Str
  | 1 => ["("]
  | 2 => [" "]
  | _ => []
def wr : Nat → List (Option Str) → List Str
  | _, [] => []
  | b, some n :: r => wsep b ++ n :: wr 1 r
  | b, none :: r => (if b = 2 then [(")" : Str)] else []) ++ wr 2 r
def wend : Nat → List (Option Str) → Nat
  | b, [] => b
  | _, some _ :: r => wend 1 r
  | _, none :: r => wend 2 r
theorem wr_app : ∀ (a : List (Option Str)) (b : Nat) (c : List (Option Str)), wr b (a ++ c) = wr b a ++ wr (wend b a) c
  | [], b, c => rfl
  | some n :: a, b, c => by rw [List.cons_append, wr, wr, wend, wr_app a 1 c]; simp
  | none :: a, b, c => by rw [List.cons_append, wr, wr, wend, wr_app a 2 c]; simp
theorem wend_app : ∀ (a : List (Option Str)) (b : Nat) (c : List (Option Str)), wend b (a ++ c) = wend (wend b a) c
  | [], b, c => rfl
  | some n :: a, b, c => by rw [List.cons_append, wend, wend, wend_app a 1 c]
  | none :: a, b, c => by rw [List.cons_append, wend, wend, wend_app a 2 c]
theorem wend_st : ∀ (F : Fo) (b : Nat), wend b F.st = if F.isNil then b else 2
  | .nil, b => rfl
  | .cons n b r, k => by
    have ihr := wend_st r 2
    rw [Fo.st, List.cons_append, wend, wend_app, wend, ihr]
    simp [isNil_cons]
def pre (b : Nat) : List Nat := if b = 1 then [40] else if b = 2 then [32] else []
theorem wsep_cl {b : Nat} : ((wsep b).map cl).flatten = pre b := by
  unfold wsep pre
  split
  · simp [cl_lp]
  · simp [cl_sp]
  · rename_i h1 h2
    rw [if_neg h1, if_neg h2]; rfl
theorem wr_st : ∀ (F : Fo) (b : Nat), ((wr b F.st).map cl).flatten = if F.isNil then [] else pre b ++ F.txt
  | .nil, b => rfl
  | .cons n b r, k => by
    have ihb := wr_st b 1
    have ihr := wr_st r 2
    rw [Fo.st, List.cons_append, wr, wr_app, wr, wend_st]
    simp only [List.map_append, List.map_cons, List.flatten_append, List.flatten_cons, wsep_cl, ihb, ihr, isNil_cons, Fo.txt]
    cases hb : b.isNil <;> cases hr : r.isNil <;> simp [pre, cl_rp]
theorem write_txt (F : Fo) : Txt.join ("" : Str) (wr 0 F.st) = mk F.txt := by
  apply cl_inj
  rw [cl_join, cl_e, cl_mk]
  have : ∀ l : List (List Nat), List.intercalate [] l = l.flatten := fun l => by
    induction l with
    | nil => rfl
    | cons a l ih =>
      cases l with
      | nil => simp [List.intercalate]
      | cons b l => simp [List.intercalate, List.intersperse] at ih ⊢; exact ih
  rw [this, wr_st]
  cases F <;> simp [isNil_nil, isNil_cons, pre, Fo.txt]
end F
end PL
end L2
set_option maxRecDepth 100000
set_option maxHeartbeats 2000000
namespace L2
namespace PL
namespace K02
open PySem PySem.Spec PyProof.Rows K01 F
theorem sJoin_r {a : Str} {p : Addr} {M : MHp} {Q : MQ} : sJoin (.str a) [.ref p] M Q = withL M p fun l => ∃ ys : List Str, l = ys.map .str ∧ joinFit a ys ∧ Q (.str (Txt.join a ys)) M := rfl
abbrev NmOk (n : Str) : Prop := (cl n).length ≤ 46
/-! _law_text -/
def sp_text (d : Nat) : MSp := fun xs M Q _ => ∃ F : Fo, xs = [.tup F.pv] ∧ F.dep < d ∧ F.cnt ≤ 2000 ∧ F.All NmOk ∧ ∀ M', Ext M M' → Q (.str (mk F.txt)) M'
def sp__law_text : MSp := sp_text 61
/-- _law_text: slots 0 forest, 1 rows, 2 tree -/
def N__law_text : List Str := ["forest", "rows", "tree"]
def m__law_text (self : MSp) : MS :=
    (mSeq (mAsg (mLst mNil) (gNameM 1))
    (mSeq (mFor (iSeq (mVar 0)) (gNameM 2)
    (mSeq (mDrop (mBM "list" sAppend (mVar 1) (mCons (mOp sIx (mVar 2) (mC (.int 0))) mNil)))
    (mIfS (mB (mOp sGt (mCB sLen (mCons (mOp sIx (mVar 2) (mC (.int 1))) mNil)) (mC (.int 0)))) (mAsg (mOp sAdd (mOp sAdd (mOp sAdd (mOp sIx (mVar 2) (mC (.int 0))) (mC (.str "("))) (mCall self (mCons (mOp sIx (mVar 2) (mC (.int 1))) mNil))) (mC (.str ")"))) (gSubM (mVar 1) (mUn sNeg (mC (.int 1))))) mNext)))
    (mRet (mBM "str" sJoin (mC (.str " ")) (mCons (mVar 1) mNil)))))

theorem sum_rows {F : Fo} (h : F.All NmOk) : (F.rows.map (·.length)).sum + F.rows.length * 1 ≤ 60 * F.cnt := by
  induction F with
  | nil => simp [Fo.rows]
  | cons n b r hb hr =>
    obtain ⟨h1, h2, h3⟩ := h
    have r1 := hr h3
    have b1 := txt_len h2
    have e1 : (one n b (mk b.txt)).length ≤ (cl n).length + b.txt.length + 2 := by
      unfold one
      split
      · rw [len_cl]; omega
      · rw [len_cl, cl_app, cl_app, cl_app, cl_lp, cl_rp, cl_mk]; simp; omega
    rw [Fo.rows, Fo.cnt, List.map_cons, List.sum_cons, List.length_cons]
    have h1 : (cl n).length ≤ 46 := h1
    omega
theorem rows_len : ∀ F : Fo, F.rows.length ≤ F.cnt
  | .nil => Nat.le_refl _
  | .cons n b r => by have := rows_len r; rw [Fo.rows, Fo.cnt, List.length_cons]; omega
theorem ixN_m1 {n : Nat} : ixN (n + 1) (-1) = some n := by
  unfold ixN
  rw [if_neg (by decide), if_pos (by omega)]
  congr 1; omega
theorem pv_step {F R : Fo} {i : Nat} {x : PV} (h : F.pv.drop i = R.pv) (e : F.pv[i]? = some x) : ∃ n b r, R = .cons n b r ∧ x = .tup [.str n, .tup b.pv] ∧ F.pv.drop (i + 1) = r.pv := by
  have hlt := (List.getElem?_eq_some_iff.mp e).1
  rw [List.drop_eq_getElem_cons hlt] at h
  rw [List.getElem?_eq_getElem hlt] at e
  cases R with
  | nil => cases h
  | cons n b r =>
    rw [Fo.pv] at h
    injection h with h1 h2
    exact ⟨n, b, r, rfl, by rw [← h1]; exact (Option.some.inj e).symm, h2⟩
theorem d_text (d : Nat) : ∀ xs M Q E, sp_text (d + 1) xs M Q E → m__law_text (sp_text d) (endsOf Q E) (startM N__law_text xs) M := by
  rintro _ M Q E ⟨F, rfl, hd, hc, hn, q⟩
  show m__law_text (sp_text d) (endsOf Q E) [some (.tup F.pv), none, none] M
  unfold m__law_text
  refine seq_i fun N1 hN1 => ?_
  simp only [mSeq, mAsg, mOp, mUn, mVar, mC, mCB, mCons, mNil, mTup, mLst_n, mB, mTru, mNot, mAnd, mOr, mAndV, mOrV, mNotV, mIf, mIfS, mRet, mRetN, mDrop, mNext, mBreak, mCont, mBM, mBM0, mCall, mFor, mLc, mYes, iSeq, iRng, iRng2, iRevRng, gNameM, gSubM, mAug, mIsi, mSl, mPart, mNoPart, mRaise, getS_0, getS_s, isB_bl, truP_t, truP_b, sIx_t, sIx_o, sIx_r, sIx_s, sAdd_ii, sAdd_ss, sAdd_tt, sAdd_rr, sIAdd_ii, sIAdd_ss, sMul_ii, sMul_si, sI2_ii, sLen_t, sLen_o, sLen_r, sLen_s, sInt_i, sAbs_i, sMin2_i, sMax2_i, sStrI_i, sTupOf_t, sTupOf_r, sLstOf_t, sLstOf_r, sAppend_r, sPop_r, sPopAt_r, sInsert_r, sSet_r, sEq_ii, sEq_ss, sNe_ii, sNe_ss, sIn_ss, sIn_st, sIn_sr, sIs_n, sIsNot_n, isNonP_n, isNonP_t, isNonP_s, isNonP_i, isNonP_r, sNeg_i, sJoin_r, sSl_r, mDict0_n, mDict1_n, gTupM_t, gConsM_c, gNilM_n, seqP_t, seqP_o, seqP_r, withL_upd, upd_upd, dec_if, true_and, and_true, List.set_cons_zero, List.set_cons_succ, atI_0, atI_1, atI_2, ixN_30, ixN_31, ixN_32, ixN_s0, Option.some.injEq, exists_eq_left', exists_eq_left, Bool.not_true, Bool.not_false, if_true, if_false, Bool.false_eq_true, reduceCtorEq, List.length_cons, List.length_nil, endsOf, wipeM, List.map_cons, List.map_nil, ite_true, ite_false, eq_self_iff_true, false_and, Nat.reduceAdd, decide_true, decide_false]
  refine ⟨by decide, newL_i fun p M1 n1 h1 x1 => hN1 _ _ ?_⟩
  clear hN1 N1
  refine seq_i fun N1 hN1 => ?_
  simp only [mSeq, mAsg, mOp, mUn, mVar, mC, mCB, mCons, mNil, mTup, mLst_n, mB, mTru, mNot, mAnd, mOr, mAndV, mOrV, mNotV, mIf, mIfS, mRet, mRetN, mDrop, mNext, mBreak, mCont, mBM, mBM0, mCall, mFor, mLc, mYes, iSeq, iRng, iRng2, iRevRng, gNameM, gSubM, mAug, mIsi, mSl, mPart, mNoPart, mRaise, getS_0, getS_s, isB_bl, truP_t, truP_b, sIx_t, sIx_o, sIx_r, sIx_s, sAdd_ii, sAdd_ss, sAdd_tt, sAdd_rr, sIAdd_ii, sIAdd_ss, sMul_ii, sMul_si, sI2_ii, sLen_t, sLen_o, sLen_r, sLen_s, sInt_i, sAbs_i, sMin2_i, sMax2_i, sStrI_i, sTupOf_t, sTupOf_r, sLstOf_t, sLstOf_r, sAppend_r, sPop_r, sPopAt_r, sInsert_r, sSet_r, sEq_ii, sEq_ss, sNe_ii, sNe_ss, sIn_ss, sIn_st, sIn_sr, sIs_n, sIsNot_n, isNonP_n, isNonP_t, isNonP_s, isNonP_i, isNonP_r, sNeg_i, sJoin_r, sSl_r, mDict0_n, mDict1_n, gTupM_t, gConsM_c, gNilM_n, seqP_t, seqP_o, seqP_r, withL_upd, upd_upd, dec_if, true_and, and_true, List.set_cons_zero, List.set_cons_succ, atI_0, atI_1, atI_2, ixN_30, ixN_31, ixN_32, ixN_s0, Option.some.injEq, exists_eq_left', exists_eq_left, Bool.not_true, Bool.not_false, if_true, if_false, Bool.false_eq_true, reduceCtorEq, List.length_cons, List.length_nil, endsOf, wipeM, List.map_cons, List.map_nil, ite_true, ite_false, eq_self_iff_true, false_and, Nat.reduceAdd, decide_true, decide_false]
  have fin : ∀ t M', Ext M M' → M' p = some (.lst (pss F.rows)) → N1 [some (.tup F.pv), some (.ref p), t] M' := fun t M' x hp => by
    refine hN1 _ _ ?_
    simp only [mSeq, mAsg, mOp, mUn, mVar, mC, mCB, mCons, mNil, mTup, mLst_n, mB, mTru, mNot, mAnd, mOr, mAndV, mOrV, mNotV, mIf, mIfS, mRet, mRetN, mDrop, mNext, mBreak, mCont, mBM, mBM0, mCall, mFor, mLc, mYes, iSeq, iRng, iRng2, iRevRng, gNameM, gSubM, mAug, mIsi, mSl, mPart, mNoPart, mRaise, getS_0, getS_s, isB_bl, truP_t, truP_b, sIx_t, sIx_o, sIx_r, sIx_s, sAdd_ii, sAdd_ss, sAdd_tt, sAdd_rr, sIAdd_ii, sIAdd_ss, sMul_ii, sMul_si, sI2_ii, sLen_t, sLen_o, sLen_r, sLen_s, sInt_i, sAbs_i, sMin2_i, sMax2_i, sStrI_i, sTupOf_t, sTupOf_r, sLstOf_t, sLstOf_r, sAppend_r, sPop_r, sPopAt_r, sInsert_r, sSet_r, sEq_ii, sEq_ss, sNe_ii, sNe_ss, sIn_ss, sIn_st, sIn_sr, sIs_n, sIsNot_n, isNonP_n, isNonP_t, isNonP_s, isNonP_i, isNonP_r, sNeg_i, sJoin_r, sSl_r, mDict0_n, mDict1_n, gTupM_t, gConsM_c, gNilM_n, seqP_t, seqP_o, seqP_r, withL_upd, upd_upd, dec_if, true_and, and_true, List.set_cons_zero, List.set_cons_succ, atI_0, atI_1, atI_2, ixN_30, ixN_31, ixN_32, ixN_s0, Option.some.injEq, exists_eq_left', exists_eq_left, Bool.not_true, Bool.not_false, if_true, if_false, Bool.false_eq_true, reduceCtorEq, List.length_cons, List.length_nil, endsOf, wipeM, List.map_cons, List.map_nil, ite_true, ite_false, eq_self_iff_true, false_and, Nat.reduceAdd, decide_true, decide_false, withL_eq hp]
    refine ⟨rfl, F.rows, rfl, ?_, ?_⟩
    · have := sum_rows hn
      show (F.rows.map (·.length)).sum + F.rows.length * ((" " : Str)).length ≤ 16777216
      have e : ((" " : Str)).length = 1 := by rw [len_cl, cl_sp]; rfl
      rw [e]; omega
    · rw [txt_join]; exact q _ x
  refine for_fix (xs := F.pv) (fun i μ M' => ∃ (R : Fo) (acc : List Str) (t : Option PV), μ = [some (.tup F.pv), some (.ref p), t] ∧ F.pv.drop i = R.pv ∧ Ext M M' ∧ M' p = some (.lst (pss acc)) ∧ acc ++ R.rows = F.rows ∧ acc.length + R.cnt ≤ 2000 ∧ R.dep ≤ d ∧ R.All NmOk)
    (fun i x μ M' L ex h hl' => ?_) (fun μ M' h => ?_) ⟨F, [], none, rfl, rfl, x1, h1, rfl, by simpa using hc, by omega, hn⟩
  rotate_left
  · obtain ⟨R, acc, t, rfl, hd', x, hp, he, _⟩ := h
    rw [List.drop_length] at hd'
    have := pv_nil.mp hd'.symm
    subst this
    simp only [Fo.rows, List.append_nil] at he
    subst he
    exact fin t M' x hp
  · obtain ⟨R, acc, t, rfl, hdr, x, hp, he, hl, hdp, ha⟩ := h
    obtain ⟨n, b, r, rfl, rfl, hdr'⟩ := pv_step hdr ex
    obtain ⟨a1, a2, a3⟩ := ha
    rw [Fo.cnt] at hl
    rw [Fo.dep] at hdp
    refine seq_i fun N2 hN2 => ?_
    simp only [mSeq, mAsg, mOp, mUn, mVar, mC, mCB, mCons, mNil, mTup, mLst_n, mB, mTru, mNot, mAnd, mOr, mAndV, mOrV, mNotV, mIf, mIfS, mRet, mRetN, mDrop, mNext, mBreak, mCont, mBM, mBM0, mCall, mFor, mLc, mYes, iSeq, iRng, iRng2, iRevRng, gNameM, gSubM, mAug, mIsi, mSl, mPart, mNoPart, mRaise, getS_0, getS_s, isB_bl, truP_t, truP_b, sIx_t, sIx_o, sIx_r, sIx_s, sAdd_ii, sAdd_ss, sAdd_tt, sAdd_rr, sIAdd_ii, sIAdd_ss, sMul_ii, sMul_si, sI2_ii, sLen_t, sLen_o, sLen_r, sLen_s, sInt_i, sAbs_i, sMin2_i, sMax2_i, sStrI_i, sTupOf_t, sTupOf_r, sLstOf_t, sLstOf_r, sAppend_r, sPop_r, sPopAt_r, sInsert_r, sSet_r, sEq_ii, sEq_ss, sNe_ii, sNe_ss, sIn_ss, sIn_st, sIn_sr, sIs_n, sIsNot_n, isNonP_n, isNonP_t, isNonP_s, isNonP_i, isNonP_r, sNeg_i, sJoin_r, sSl_r, mDict0_n, mDict1_n, gTupM_t, gConsM_c, gNilM_n, seqP_t, seqP_o, seqP_r, withL_upd, upd_upd, dec_if, true_and, and_true, List.set_cons_zero, List.set_cons_succ, atI_0, atI_1, atI_2, ixN_30, ixN_31, ixN_32, ixN_s0, Option.some.injEq, exists_eq_left', exists_eq_left, Bool.not_true, Bool.not_false, if_true, if_false, Bool.false_eq_true, reduceCtorEq, List.length_cons, List.length_nil, endsOf, wipeM, List.map_cons, List.map_nil, ite_true, ite_false, eq_self_iff_true, false_and, Nat.reduceAdd, decide_true, decide_false, withL_eq hp, tyM_l hp]
    refine ⟨by rw [sz24]; simp [pss]; omega, hN2 _ _ ?_⟩
    clear hN2 N2
    simp only [mSeq, mAsg, mOp, mUn, mVar, mC, mCB, mCons, mNil, mTup, mLst_n, mB, mTru, mNot, mAnd, mOr, mAndV, mOrV, mNotV, mIf, mIfS, mRet, mRetN, mDrop, mNext, mBreak, mCont, mBM, mBM0, mCall, mFor, mLc, mYes, iSeq, iRng, iRng2, iRevRng, gNameM, gSubM, mAug, mIsi, mSl, mPart, mNoPart, mRaise, getS_0, getS_s, isB_bl, truP_t, truP_b, sIx_t, sIx_o, sIx_r, sIx_s, sAdd_ii, sAdd_ss, sAdd_tt, sAdd_rr, sIAdd_ii, sIAdd_ss, sMul_ii, sMul_si, sI2_ii, sLen_t, sLen_o, sLen_r, sLen_s, sInt_i, sAbs_i, sMin2_i, sMax2_i, sStrI_i, sTupOf_t, sTupOf_r, sLstOf_t, sLstOf_r, sAppend_r, sPop_r, sPopAt_r, sInsert_r, sSet_r, sEq_ii, sEq_ss, sNe_ii, sNe_ss, sIn_ss, sIn_st, sIn_sr, sIs_n, sIsNot_n, isNonP_n, isNonP_t, isNonP_s, isNonP_i, isNonP_r, sNeg_i, sJoin_r, sSl_r, mDict0_n, mDict1_n, gTupM_t, gConsM_c, gNilM_n, seqP_t, seqP_o, seqP_r, withL_upd, upd_upd, dec_if, true_and, and_true, List.set_cons_zero, List.set_cons_succ, atI_0, atI_1, atI_2, ixN_30, ixN_31, ixN_32, ixN_s0, Option.some.injEq, exists_eq_left', exists_eq_left, Bool.not_true, Bool.not_false, if_true, if_false, Bool.false_eq_true, reduceCtorEq, List.length_cons, List.length_nil, endsOf, wipeM, List.map_cons, List.map_nil, ite_true, ite_false, eq_self_iff_true, false_and, Nat.reduceAdd, decide_true, decide_false]
    have hx1 := x.mut n1 (o := .lst (pss acc ++ [.str n]))
    by_cases hb : b.isNil = true
    · have eb : b = .nil := by cases b with
        | nil => rfl
        | cons => cases hb
      subst eb
      rw [if_neg (by simp [Fo.pv])]
      refine hl' _ _ ⟨r, acc ++ [n], _, rfl, hdr', hx1, by rw [updM_same]; simp [pss], ?_, by simp; omega, by omega, a3⟩
      rw [← he, Fo.rows]; simp [one, isNil_nil]
    · have hb : b.isNil = false := by simpa using hb
      rw [if_pos (by cases b with | nil => cases hb | cons => simp [Fo.pv])]
      refine ⟨by rw [len_cl, len_cl, cl_lp, sz24]; have : (cl n).length ≤ 46 := a1; simp only [List.length_cons, List.length_nil]; omega, b, rfl, by omega, by omega, a2, fun M2 x2 => ?_⟩
      have hp2 := x2 _ _ (updM_same (M := M') (a := p) (o := .lst (pss acc ++ [.str n])))
      have bt := txt_len a2
      have an : (cl n).length ≤ 46 := a1
      simp only [mSeq, mAsg, mOp, mUn, mVar, mC, mCB, mCons, mNil, mTup, mLst_n, mB, mTru, mNot, mAnd, mOr, mAndV, mOrV, mNotV, mIf, mIfS, mRet, mRetN, mDrop, mNext, mBreak, mCont, mBM, mBM0, mCall, mFor, mLc, mYes, iSeq, iRng, iRng2, iRevRng, gNameM, gSubM, mAug, mIsi, mSl, mPart, mNoPart, mRaise, getS_0, getS_s, isB_bl, truP_t, truP_b, sIx_t, sIx_o, sIx_r, sIx_s, sAdd_ii, sAdd_ss, sAdd_tt, sAdd_rr, sIAdd_ii, sIAdd_ss, sMul_ii, sMul_si, sI2_ii, sLen_t, sLen_o, sLen_r, sLen_s, sInt_i, sAbs_i, sMin2_i, sMax2_i, sStrI_i, sTupOf_t, sTupOf_r, sLstOf_t, sLstOf_r, sAppend_r, sPop_r, sPopAt_r, sInsert_r, sSet_r, sEq_ii, sEq_ss, sNe_ii, sNe_ss, sIn_ss, sIn_st, sIn_sr, sIs_n, sIsNot_n, isNonP_n, isNonP_t, isNonP_s, isNonP_i, isNonP_r, sNeg_i, sJoin_r, sSl_r, mDict0_n, mDict1_n, gTupM_t, gConsM_c, gNilM_n, seqP_t, seqP_o, seqP_r, withL_upd, upd_upd, dec_if, true_and, and_true, List.set_cons_zero, List.set_cons_succ, atI_0, atI_1, atI_2, ixN_30, ixN_31, ixN_32, ixN_s0, Option.some.injEq, exists_eq_left', exists_eq_left, Bool.not_true, Bool.not_false, if_true, if_false, Bool.false_eq_true, reduceCtorEq, List.length_cons, List.length_nil, endsOf, wipeM, List.map_cons, List.map_nil, ite_true, ite_false, eq_self_iff_true, false_and, Nat.reduceAdd, decide_true, decide_false]
      refine ⟨by rw [len_cl, len_cl, cl_app, cl_lp, cl_mk, sz24]; simp only [List.length_append, List.length_cons, List.length_nil]; omega, by rw [len_cl, len_cl, cl_app, cl_app, cl_lp, cl_rp, cl_mk, sz24]; simp only [List.length_append, List.length_cons, List.length_nil]; omega, ?_⟩
      simp only [mSeq, mAsg, mOp, mUn, mVar, mC, mCB, mCons, mNil, mTup, mLst_n, mB, mTru, mNot, mAnd, mOr, mAndV, mOrV, mNotV, mIf, mIfS, mRet, mRetN, mDrop, mNext, mBreak, mCont, mBM, mBM0, mCall, mFor, mLc, mYes, iSeq, iRng, iRng2, iRevRng, gNameM, gSubM, mAug, mIsi, mSl, mPart, mNoPart, mRaise, getS_0, getS_s, isB_bl, truP_t, truP_b, sIx_t, sIx_o, sIx_r, sIx_s, sAdd_ii, sAdd_ss, sAdd_tt, sAdd_rr, sIAdd_ii, sIAdd_ss, sMul_ii, sMul_si, sI2_ii, sLen_t, sLen_o, sLen_r, sLen_s, sInt_i, sAbs_i, sMin2_i, sMax2_i, sStrI_i, sTupOf_t, sTupOf_r, sLstOf_t, sLstOf_r, sAppend_r, sPop_r, sPopAt_r, sInsert_r, sSet_r, sEq_ii, sEq_ss, sNe_ii, sNe_ss, sIn_ss, sIn_st, sIn_sr, sIs_n, sIsNot_n, isNonP_n, isNonP_t, isNonP_s, isNonP_i, isNonP_r, sNeg_i, sJoin_r, sSl_r, mDict0_n, mDict1_n, gTupM_t, gConsM_c, gNilM_n, seqP_t, seqP_o, seqP_r, withL_upd, upd_upd, dec_if, true_and, and_true, List.set_cons_zero, List.set_cons_succ, atI_0, atI_1, atI_2, ixN_30, ixN_31, ixN_32, ixN_s0, Option.some.injEq, exists_eq_left', exists_eq_left, Bool.not_true, Bool.not_false, if_true, if_false, Bool.false_eq_true, reduceCtorEq, List.length_cons, List.length_nil, endsOf, wipeM, List.map_cons, List.map_nil, ite_true, ite_false, eq_self_iff_true, false_and, Nat.reduceAdd, decide_true, decide_false, withL_eq hp2]
      have ix : ixN (pss acc ++ [PV.str n]).length (-1) = some acc.length := by
        have e : (pss acc ++ [PV.str n]).length = acc.length + 1 := by simp [pss]
        rw [e]; exact ixN_m1
      refine ⟨acc.length, ix, ?_⟩
      have es : (pss acc ++ [PV.str n]).set acc.length (.str (n ++ ("(" : Str) ++ mk b.txt ++ (")" : Str))) = pss (acc ++ [one n b (mk b.txt)]) := by
        unfold one
        rw [if_neg (by simp [hb])]
        simp [pss, List.set_append]
      rw [es]
      refine hl' _ _ ⟨r, acc ++ [one n b (mk b.txt)], _, rfl, hdr', (hx1.trans x2).mut n1, updM_same, ?_, by simp; omega, by omega, a3⟩
      rw [← he, Fo.rows]; simp
end K02
end PL
end L2
set_option maxRecDepth 100000
set_option maxHeartbeats 2000000
namespace L2
namespace PL
namespace K02
open PySem PySem.Spec PyProof.Rows K01 F

def sp_steps : MSp := fun xs M Q _ => ∃ F : Fo, xs = [.tup F.pv] ∧ F.cnt ≤ 2000 ∧ ∀ p M', Ext M M' → M p = none → M' p = some (.lst (F.st.map stv)) → Q (.ref p) M'
/-- steps: slots 0 forest, 1 found, 2 stack, 3 row, 4 at, 5 name, 6 beneath -/
def N_steps : List Str := ["forest", "found", "stack", "row", "at", "name", "beneath"]
def m_steps : MS :=
    (mSeq (mAsg (mLst mNil) (gNameM 1))
    (mSeq (mAsg (mLst (mCons (mTup (mCons (mVar 0) (mCons (mC (.int 0)) mNil))) mNil)) (gNameM 2))
    (mSeq (mWhile (mTru (mVar 2))
    (mSeq (mAsg (mBM0 "list" sPop (mVar 2)) (gTupM 2 (gConsM (gNameM 3) (gConsM (gNameM 4) gNilM))))
    (mIfS (mB (mOp sLt (mVar 4) (mCB sLen (mCons (mVar 3) mNil)))) (mSeq (mDrop (mBM "list" sAppend (mVar 2) (mCons (mTup (mCons (mVar 3) (mCons (mOp sAdd (mVar 4) (mC (.int 1))) mNil))) mNil)))
    (mSeq (mAsg (mOp sIx (mVar 3) (mVar 4)) (gTupM 2 (gConsM (gNameM 5) (gConsM (gNameM 6) gNilM))))
    (mSeq (mDrop (mBM "list" sAppend (mVar 1) (mCons (mVar 5) mNil)))
    (mDrop (mBM "list" sAppend (mVar 2) (mCons (mTup (mCons (mVar 6) (mCons (mC (.int 0)) mNil))) mNil)))))) (mIfS (mTru (mVar 2)) (mDrop (mBM "list" sAppend (mVar 1) (mCons (mC .non) mNil))) mNext))))
    (mRet (mVar 1)))))

structure SE2 where
  l : List PV
  a : Nat
  R : Fo
def enc2 (e : SE2) : PV := .tup [.tup e.l, .int e.a]
def out2 : List SE2 → List (Option Str)
  | [] => []
  | e :: es => e.R.st ++ (if es.isEmpty then [] else none :: out2 es)
def mea2 : List SE2 → Nat
  | [] => 0
  | e :: es => 1 + 2 * e.R.cnt + mea2 es
theorem mea2_len : ∀ es : List SE2, es.length ≤ mea2 es
  | [] => Nat.le_refl _
  | e :: es => by have := mea2_len es; rw [mea2, List.length_cons]; omega
def stB : MS := (mSeq (mAsg (mBM0 "list" sPop (mVar 2)) (gTupM 2 (gConsM (gNameM 3) (gConsM (gNameM 4) gNilM))))
    (mIfS (mB (mOp sLt (mVar 4) (mCB sLen (mCons (mVar 3) mNil)))) (mSeq (mDrop (mBM "list" sAppend (mVar 2) (mCons (mTup (mCons (mVar 3) (mCons (mOp sAdd (mVar 4) (mC (.int 1))) mNil))) mNil)))
    (mSeq (mAsg (mOp sIx (mVar 3) (mVar 4)) (gTupM 2 (gConsM (gNameM 5) (gConsM (gNameM 6) gNilM))))
    (mSeq (mDrop (mBM "list" sAppend (mVar 1) (mCons (mVar 5) mNil)))
    (mDrop (mBM "list" sAppend (mVar 2) (mCons (mTup (mCons (mVar 6) (mCons (mC (.int 0)) mNil))) mNil)))))) (mIfS (mTru (mVar 2)) (mDrop (mBM "list" sAppend (mVar 1) (mCons (mC .non) mNil))) mNext)))
theorem steps_wh {M : MHp} {F : Fo} {pf ps : Addr} {D : MEnds} (nf : M pf = none) (n2 : M ps = none) (ne : pf ≠ ps) :
    ∀ (m : Nat) (es : List SE2) (fd : List (Option Str)) (r a n b : Option PV) (M' : MHp), mea2 es ≤ m → Ext M M' → M' pf = some (.lst (fd.map stv)) → M' ps = some (.lst (es.reverse.map enc2)) → (∀ e ∈ es, e.l.drop e.a = e.R.pv) →
      fd.length + mea2 es ≤ 4001 → fd ++ out2 es = F.st → (∀ r a n b M', Ext M M' → M' pf = some (.lst (F.st.map stv)) → D.nx [some (.tup F.pv), some (.ref pf), some (.ref ps), r, a, n, b] M') →
      whileN (mTru (mVar 2)) stB D (m + 1) [some (.tup F.pv), some (.ref pf), some (.ref ps), r, a, n, b] M' := by
  intro m
  induction m with
  | zero =>
    intro es fd r a n b M' hm x hf hs he hl ho hq
    have e : es = [] := by
      have := mea2_len es
      exact List.length_eq_zero_iff.mp (by omega)
    subst e
    unfold whileN
    simp only [mSeq, mAsg, mOp, mUn, mVar, mC, mCB, mCons, mNil, mTup, mLst_n, mB, mTru, mNot, mAnd, mOr, mAndV, mOrV, mNotV, mIf, mIfS, mRet, mRetN, mDrop, mNext, mBreak, mCont, mBM, mBM0, mCall, mFor, mLc, mYes, iSeq, iRng, iRng2, iRevRng, gNameM, gSubM, mAug, mIsi, mSl, mPart, mNoPart, mRaise, getS_0, getS_s, isB_bl, truP_t, truP_b, sIx_t, sIx_o, sIx_r, sIx_s, sAdd_ii, sAdd_ss, sAdd_tt, sAdd_rr, sIAdd_ii, sIAdd_ss, sMul_ii, sMul_si, sI2_ii, sLen_t, sLen_o, sLen_r, sLen_s, sInt_i, sAbs_i, sMin2_i, sMax2_i, sStrI_i, sTupOf_t, sTupOf_r, sLstOf_t, sLstOf_r, sAppend_r, sPop_r, sPopAt_r, sInsert_r, sSet_r, sEq_ii, sEq_ss, sNe_ii, sNe_ss, sIn_ss, sIn_st, sIn_sr, sIs_n, sIsNot_n, isNonP_n, isNonP_t, isNonP_s, isNonP_i, isNonP_r, sNeg_i, sJoin_r, sSl_r, mDict0_n, mDict1_n, gTupM_t, gConsM_c, gNilM_n, seqP_t, seqP_o, seqP_r, withL_upd, upd_upd, dec_if, true_and, and_true, List.set_cons_zero, List.set_cons_succ, atI_0, atI_1, atI_2, ixN_30, ixN_31, ixN_32, ixN_s0, Option.some.injEq, exists_eq_left', exists_eq_left, Bool.not_true, Bool.not_false, if_true, if_false, Bool.false_eq_true, reduceCtorEq, List.length_cons, List.length_nil, endsOf, wipeM, List.map_cons, List.map_nil, ite_true, ite_false, eq_self_iff_true, false_and, Nat.reduceAdd, decide_true, decide_false, truP_l hs, List.reverse_nil, List.isEmpty_nil]
    simp only [out2, List.append_nil] at ho
    subst ho
    exact hq _ _ _ _ _ x hf
  | succ m ih =>
    intro es fd r a n b M' hm x hf hs he hl ho hq
    unfold whileN
    cases es with
    | nil =>
      simp only [mSeq, mAsg, mOp, mUn, mVar, mC, mCB, mCons, mNil, mTup, mLst_n, mB, mTru, mNot, mAnd, mOr, mAndV, mOrV, mNotV, mIf, mIfS, mRet, mRetN, mDrop, mNext, mBreak, mCont, mBM, mBM0, mCall, mFor, mLc, mYes, iSeq, iRng, iRng2, iRevRng, gNameM, gSubM, mAug, mIsi, mSl, mPart, mNoPart, mRaise, getS_0, getS_s, isB_bl, truP_t, truP_b, sIx_t, sIx_o, sIx_r, sIx_s, sAdd_ii, sAdd_ss, sAdd_tt, sAdd_rr, sIAdd_ii, sIAdd_ss, sMul_ii, sMul_si, sI2_ii, sLen_t, sLen_o, sLen_r, sLen_s, sInt_i, sAbs_i, sMin2_i, sMax2_i, sStrI_i, sTupOf_t, sTupOf_r, sLstOf_t, sLstOf_r, sAppend_r, sPop_r, sPopAt_r, sInsert_r, sSet_r, sEq_ii, sEq_ss, sNe_ii, sNe_ss, sIn_ss, sIn_st, sIn_sr, sIs_n, sIsNot_n, isNonP_n, isNonP_t, isNonP_s, isNonP_i, isNonP_r, sNeg_i, sJoin_r, sSl_r, mDict0_n, mDict1_n, gTupM_t, gConsM_c, gNilM_n, seqP_t, seqP_o, seqP_r, withL_upd, upd_upd, dec_if, true_and, and_true, List.set_cons_zero, List.set_cons_succ, atI_0, atI_1, atI_2, ixN_30, ixN_31, ixN_32, ixN_s0, Option.some.injEq, exists_eq_left', exists_eq_left, Bool.not_true, Bool.not_false, if_true, if_false, Bool.false_eq_true, reduceCtorEq, List.length_cons, List.length_nil, endsOf, wipeM, List.map_cons, List.map_nil, ite_true, ite_false, eq_self_iff_true, false_and, Nat.reduceAdd, decide_true, decide_false, truP_l hs, List.reverse_nil, List.isEmpty_nil]
      simp only [out2, List.append_nil] at ho
      subst ho
      exact hq _ _ _ _ _ x hf
    | cons e es =>
      obtain ⟨l, at_, R⟩ := e
      have hne : (!(((SE2.mk l at_ R) :: es).reverse.map enc2).isEmpty) = true := by simp
      simp only [mSeq, mAsg, mOp, mUn, mVar, mC, mCB, mCons, mNil, mTup, mLst_n, mB, mTru, mNot, mAnd, mOr, mAndV, mOrV, mNotV, mIf, mIfS, mRet, mRetN, mDrop, mNext, mBreak, mCont, mBM, mBM0, mCall, mFor, mLc, mYes, iSeq, iRng, iRng2, iRevRng, gNameM, gSubM, mAug, mIsi, mSl, mPart, mNoPart, mRaise, getS_0, getS_s, isB_bl, truP_t, truP_b, sIx_t, sIx_o, sIx_r, sIx_s, sAdd_ii, sAdd_ss, sAdd_tt, sAdd_rr, sIAdd_ii, sIAdd_ss, sMul_ii, sMul_si, sI2_ii, sLen_t, sLen_o, sLen_r, sLen_s, sInt_i, sAbs_i, sMin2_i, sMax2_i, sStrI_i, sTupOf_t, sTupOf_r, sLstOf_t, sLstOf_r, sAppend_r, sPop_r, sPopAt_r, sInsert_r, sSet_r, sEq_ii, sEq_ss, sNe_ii, sNe_ss, sIn_ss, sIn_st, sIn_sr, sIs_n, sIsNot_n, isNonP_n, isNonP_t, isNonP_s, isNonP_i, isNonP_r, sNeg_i, sJoin_r, sSl_r, mDict0_n, mDict1_n, gTupM_t, gConsM_c, gNilM_n, seqP_t, seqP_o, seqP_r, withL_upd, upd_upd, dec_if, true_and, and_true, List.set_cons_zero, List.set_cons_succ, atI_0, atI_1, atI_2, ixN_30, ixN_31, ixN_32, ixN_s0, Option.some.injEq, exists_eq_left', exists_eq_left, Bool.not_true, Bool.not_false, if_true, if_false, Bool.false_eq_true, reduceCtorEq, List.length_cons, List.length_nil, endsOf, wipeM, List.map_cons, List.map_nil, ite_true, ite_false, eq_self_iff_true, false_and, Nat.reduceAdd, decide_true, decide_false, truP_l hs]
      rw [if_pos hne]
      unfold stB
      refine seq_i fun N2 hN2 => ?_
      simp only [mSeq, mAsg, mOp, mUn, mVar, mC, mCB, mCons, mNil, mTup, mLst_n, mB, mTru, mNot, mAnd, mOr, mAndV, mOrV, mNotV, mIf, mIfS, mRet, mRetN, mDrop, mNext, mBreak, mCont, mBM, mBM0, mCall, mFor, mLc, mYes, iSeq, iRng, iRng2, iRevRng, gNameM, gSubM, mAug, mIsi, mSl, mPart, mNoPart, mRaise, getS_0, getS_s, isB_bl, truP_t, truP_b, sIx_t, sIx_o, sIx_r, sIx_s, sAdd_ii, sAdd_ss, sAdd_tt, sAdd_rr, sIAdd_ii, sIAdd_ss, sMul_ii, sMul_si, sI2_ii, sLen_t, sLen_o, sLen_r, sLen_s, sInt_i, sAbs_i, sMin2_i, sMax2_i, sStrI_i, sTupOf_t, sTupOf_r, sLstOf_t, sLstOf_r, sAppend_r, sPop_r, sPopAt_r, sInsert_r, sSet_r, sEq_ii, sEq_ss, sNe_ii, sNe_ss, sIn_ss, sIn_st, sIn_sr, sIs_n, sIsNot_n, isNonP_n, isNonP_t, isNonP_s, isNonP_i, isNonP_r, sNeg_i, sJoin_r, sSl_r, mDict0_n, mDict1_n, gTupM_t, gConsM_c, gNilM_n, seqP_t, seqP_o, seqP_r, withL_upd, upd_upd, dec_if, true_and, and_true, List.set_cons_zero, List.set_cons_succ, atI_0, atI_1, atI_2, ixN_30, ixN_31, ixN_32, ixN_s0, Option.some.injEq, exists_eq_left', exists_eq_left, Bool.not_true, Bool.not_false, if_true, if_false, Bool.false_eq_true, reduceCtorEq, List.length_cons, List.length_nil, endsOf, wipeM, List.map_cons, List.map_nil, ite_true, ite_false, eq_self_iff_true, false_and, Nat.reduceAdd, decide_true, decide_false, tyM_l hs, withL_eq hs]
      refine ⟨enc2 ⟨l, at_, R⟩, by simp, ?_⟩
      have ed : (((SE2.mk l at_ R) :: es).reverse.map enc2).dropLast = es.reverse.map enc2 := by simp
      rw [ed]
      simp only [enc2, mSeq, mAsg, mOp, mUn, mVar, mC, mCB, mCons, mNil, mTup, mLst_n, mB, mTru, mNot, mAnd, mOr, mAndV, mOrV, mNotV, mIf, mIfS, mRet, mRetN, mDrop, mNext, mBreak, mCont, mBM, mBM0, mCall, mFor, mLc, mYes, iSeq, iRng, iRng2, iRevRng, gNameM, gSubM, mAug, mIsi, mSl, mPart, mNoPart, mRaise, getS_0, getS_s, isB_bl, truP_t, truP_b, sIx_t, sIx_o, sIx_r, sIx_s, sAdd_ii, sAdd_ss, sAdd_tt, sAdd_rr, sIAdd_ii, sIAdd_ss, sMul_ii, sMul_si, sI2_ii, sLen_t, sLen_o, sLen_r, sLen_s, sInt_i, sAbs_i, sMin2_i, sMax2_i, sStrI_i, sTupOf_t, sTupOf_r, sLstOf_t, sLstOf_r, sAppend_r, sPop_r, sPopAt_r, sInsert_r, sSet_r, sEq_ii, sEq_ss, sNe_ii, sNe_ss, sIn_ss, sIn_st, sIn_sr, sIs_n, sIsNot_n, isNonP_n, isNonP_t, isNonP_s, isNonP_i, isNonP_r, sNeg_i, sJoin_r, sSl_r, mDict0_n, mDict1_n, gTupM_t, gConsM_c, gNilM_n, seqP_t, seqP_o, seqP_r, withL_upd, upd_upd, dec_if, true_and, and_true, List.set_cons_zero, List.set_cons_succ, atI_0, atI_1, atI_2, ixN_30, ixN_31, ixN_32, ixN_s0, Option.some.injEq, exists_eq_left', exists_eq_left, Bool.not_true, Bool.not_false, if_true, if_false, Bool.false_eq_true, reduceCtorEq, List.length_cons, List.length_nil, endsOf, wipeM, List.map_cons, List.map_nil, ite_true, ite_false, eq_self_iff_true, false_and, Nat.reduceAdd, decide_true, decide_false]
      refine hN2 _ _ ?_
      clear hN2 N2
      have hx := x.mut n2 (o := .lst (es.reverse.map enc2))
      have hf' : updM M' ps (.lst (es.reverse.map enc2)) pf = some (.lst (fd.map stv)) := by rw [updM_ne ne]; exact hf
      have hs' : updM M' ps (.lst (es.reverse.map enc2)) ps = some (.lst (es.reverse.map enc2)) := updM_same
      generalize updM M' ps (.lst (es.reverse.map enc2)) = M1 at hx hf' hs'
      have hR : l.drop at_ = R.pv := he ⟨l, at_, R⟩ List.mem_cons_self
      have hes : ∀ e ∈ es, e.l.drop e.a = e.R.pv := fun e m => he e (List.mem_cons_of_mem _ m)
      rw [mea2] at hm hl
      rw [out2] at ho
      have ml := mea2_len es
      simp only at hm hl ho
      simp only [mSeq, mAsg, mOp, mUn, mVar, mC, mCB, mCons, mNil, mTup, mLst_n, mB, mTru, mNot, mAnd, mOr, mAndV, mOrV, mNotV, mIf, mIfS, mRet, mRetN, mDrop, mNext, mBreak, mCont, mBM, mBM0, mCall, mFor, mLc, mYes, iSeq, iRng, iRng2, iRevRng, gNameM, gSubM, mAug, mIsi, mSl, mPart, mNoPart, mRaise, getS_0, getS_s, isB_bl, truP_t, truP_b, sIx_t, sIx_o, sIx_r, sIx_s, sAdd_ii, sAdd_ss, sAdd_tt, sAdd_rr, sIAdd_ii, sIAdd_ss, sMul_ii, sMul_si, sI2_ii, sLen_t, sLen_o, sLen_r, sLen_s, sInt_i, sAbs_i, sMin2_i, sMax2_i, sStrI_i, sTupOf_t, sTupOf_r, sLstOf_t, sLstOf_r, sAppend_r, sPop_r, sPopAt_r, sInsert_r, sSet_r, sEq_ii, sEq_ss, sNe_ii, sNe_ss, sIn_ss, sIn_st, sIn_sr, sIs_n, sIsNot_n, isNonP_n, isNonP_t, isNonP_s, isNonP_i, isNonP_r, sNeg_i, sJoin_r, sSl_r, mDict0_n, mDict1_n, gTupM_t, gConsM_c, gNilM_n, seqP_t, seqP_o, seqP_r, withL_upd, upd_upd, dec_if, true_and, and_true, List.set_cons_zero, List.set_cons_succ, atI_0, atI_1, atI_2, ixN_30, ixN_31, ixN_32, ixN_s0, Option.some.injEq, exists_eq_left', exists_eq_left, Bool.not_true, Bool.not_false, if_true, if_false, Bool.false_eq_true, reduceCtorEq, List.length_cons, List.length_nil, endsOf, wipeM, List.map_cons, List.map_nil, ite_true, ite_false, eq_self_iff_true, false_and, Nat.reduceAdd, decide_true, decide_false]
      cases R with
      | nil =>
        have hge : l.length ≤ at_ := by
          have := congrArg List.length hR
          rw [List.length_drop] at this
          simp [Fo.pv] at this
          omega
        rw [if_neg (by omega)]
        rw [truP_l hs']
        cases es with
        | nil =>
          simp only [List.reverse_nil, List.map_nil, List.isEmpty_nil, mSeq, mAsg, mOp, mUn, mVar, mC, mCB, mCons, mNil, mTup, mLst_n, mB, mTru, mNot, mAnd, mOr, mAndV, mOrV, mNotV, mIf, mIfS, mRet, mRetN, mDrop, mNext, mBreak, mCont, mBM, mBM0, mCall, mFor, mLc, mYes, iSeq, iRng, iRng2, iRevRng, gNameM, gSubM, mAug, mIsi, mSl, mPart, mNoPart, mRaise, getS_0, getS_s, isB_bl, truP_t, truP_b, sIx_t, sIx_o, sIx_r, sIx_s, sAdd_ii, sAdd_ss, sAdd_tt, sAdd_rr, sIAdd_ii, sIAdd_ss, sMul_ii, sMul_si, sI2_ii, sLen_t, sLen_o, sLen_r, sLen_s, sInt_i, sAbs_i, sMin2_i, sMax2_i, sStrI_i, sTupOf_t, sTupOf_r, sLstOf_t, sLstOf_r, sAppend_r, sPop_r, sPopAt_r, sInsert_r, sSet_r, sEq_ii, sEq_ss, sNe_ii, sNe_ss, sIn_ss, sIn_st, sIn_sr, sIs_n, sIsNot_n, isNonP_n, isNonP_t, isNonP_s, isNonP_i, isNonP_r, sNeg_i, sJoin_r, sSl_r, mDict0_n, mDict1_n, gTupM_t, gConsM_c, gNilM_n, seqP_t, seqP_o, seqP_r, withL_upd, upd_upd, dec_if, true_and, and_true, List.set_cons_zero, List.set_cons_succ, atI_0, atI_1, atI_2, ixN_30, ixN_31, ixN_32, ixN_s0, Option.some.injEq, exists_eq_left', exists_eq_left, Bool.not_true, Bool.not_false, if_true, if_false, Bool.false_eq_true, reduceCtorEq, List.length_cons, List.length_nil, endsOf, wipeM, List.map_cons, List.map_nil, ite_true, ite_false, eq_self_iff_true, false_and, Nat.reduceAdd, decide_true, decide_false]
          exact ih [] fd _ _ _ _ M1 (by rw [mea2]; omega) hx hf' hs' (fun e m => nomatch m) (by rw [mea2]; omega) (by simpa [Fo.st, out2] using ho) hq
        | cons e2 es2 =>
          rw [if_pos (by simp)]
          simp only [mSeq, mAsg, mOp, mUn, mVar, mC, mCB, mCons, mNil, mTup, mLst_n, mB, mTru, mNot, mAnd, mOr, mAndV, mOrV, mNotV, mIf, mIfS, mRet, mRetN, mDrop, mNext, mBreak, mCont, mBM, mBM0, mCall, mFor, mLc, mYes, iSeq, iRng, iRng2, iRevRng, gNameM, gSubM, mAug, mIsi, mSl, mPart, mNoPart, mRaise, getS_0, getS_s, isB_bl, truP_t, truP_b, sIx_t, sIx_o, sIx_r, sIx_s, sAdd_ii, sAdd_ss, sAdd_tt, sAdd_rr, sIAdd_ii, sIAdd_ss, sMul_ii, sMul_si, sI2_ii, sLen_t, sLen_o, sLen_r, sLen_s, sInt_i, sAbs_i, sMin2_i, sMax2_i, sStrI_i, sTupOf_t, sTupOf_r, sLstOf_t, sLstOf_r, sAppend_r, sPop_r, sPopAt_r, sInsert_r, sSet_r, sEq_ii, sEq_ss, sNe_ii, sNe_ss, sIn_ss, sIn_st, sIn_sr, sIs_n, sIsNot_n, isNonP_n, isNonP_t, isNonP_s, isNonP_i, isNonP_r, sNeg_i, sJoin_r, sSl_r, mDict0_n, mDict1_n, gTupM_t, gConsM_c, gNilM_n, seqP_t, seqP_o, seqP_r, withL_upd, upd_upd, dec_if, true_and, and_true, List.set_cons_zero, List.set_cons_succ, atI_0, atI_1, atI_2, ixN_30, ixN_31, ixN_32, ixN_s0, Option.some.injEq, exists_eq_left', exists_eq_left, Bool.not_true, Bool.not_false, if_true, if_false, Bool.false_eq_true, reduceCtorEq, List.length_cons, List.length_nil, endsOf, wipeM, List.map_cons, List.map_nil, ite_true, ite_false, eq_self_iff_true, false_and, Nat.reduceAdd, decide_true, decide_false, tyM_l hf', withL_eq hf']
          refine ⟨by rw [sz24, List.length_map]; omega, ?_⟩
          refine ih (e2 :: es2) (fd ++ [none]) _ _ _ _ _ (by omega) (hx.mut nf) (by rw [updM_same]; simp [stv]) (by rw [updM_ne ne.symm]; exact hs') hes (by rw [List.length_append]; simp only [List.length_cons, List.length_nil]; omega) ?_ hq
          rw [← ho]
          simp [Fo.st]
      | cons nm bb rr =>
        have hlt : at_ < l.length := by
          have := congrArg List.length hR
          rw [List.length_drop] at this
          simp [Fo.pv] at this
          omega
        rw [if_pos (by omega)]
        rw [List.drop_eq_getElem_cons hlt, Fo.pv] at hR
        injection hR with hR1 hR2
        have hat : atI l (at_ : Int) = some (.tup [.str nm, .tup bb.pv]) := by
          rw [← hR1]; exact atI_nat (List.getElem?_eq_getElem hlt)
        rw [Fo.cnt] at hm hl
        simp only [mSeq, mAsg, mOp, mUn, mVar, mC, mCB, mCons, mNil, mTup, mLst_n, mB, mTru, mNot, mAnd, mOr, mAndV, mOrV, mNotV, mIf, mIfS, mRet, mRetN, mDrop, mNext, mBreak, mCont, mBM, mBM0, mCall, mFor, mLc, mYes, iSeq, iRng, iRng2, iRevRng, gNameM, gSubM, mAug, mIsi, mSl, mPart, mNoPart, mRaise, getS_0, getS_s, isB_bl, truP_t, truP_b, sIx_t, sIx_o, sIx_r, sIx_s, sAdd_ii, sAdd_ss, sAdd_tt, sAdd_rr, sIAdd_ii, sIAdd_ss, sMul_ii, sMul_si, sI2_ii, sLen_t, sLen_o, sLen_r, sLen_s, sInt_i, sAbs_i, sMin2_i, sMax2_i, sStrI_i, sTupOf_t, sTupOf_r, sLstOf_t, sLstOf_r, sAppend_r, sPop_r, sPopAt_r, sInsert_r, sSet_r, sEq_ii, sEq_ss, sNe_ii, sNe_ss, sIn_ss, sIn_st, sIn_sr, sIs_n, sIsNot_n, isNonP_n, isNonP_t, isNonP_s, isNonP_i, isNonP_r, sNeg_i, sJoin_r, sSl_r, mDict0_n, mDict1_n, gTupM_t, gConsM_c, gNilM_n, seqP_t, seqP_o, seqP_r, withL_upd, upd_upd, dec_if, true_and, and_true, List.set_cons_zero, List.set_cons_succ, atI_0, atI_1, atI_2, ixN_30, ixN_31, ixN_32, ixN_s0, Option.some.injEq, exists_eq_left', exists_eq_left, Bool.not_true, Bool.not_false, if_true, if_false, Bool.false_eq_true, reduceCtorEq, List.length_cons, List.length_nil, endsOf, wipeM, List.map_cons, List.map_nil, ite_true, ite_false, eq_self_iff_true, false_and, Nat.reduceAdd, decide_true, decide_false, tyM_l hs', withL_eq hs']
        refine ⟨by decide, by rw [sz24]; simp; omega, _, hat, ?_⟩
        have hx2 := hx.mut n2 (o := .lst (es.reverse.map enc2 ++ [.tup [.tup l, .int (at_ + 1)]]))
        have hf2 : updM M1 ps (.lst (es.reverse.map enc2 ++ [.tup [.tup l, .int (at_ + 1)]])) pf = some (.lst (fd.map stv)) := by rw [updM_ne ne]; exact hf'
        have hs2 : updM M1 ps (.lst (es.reverse.map enc2 ++ [.tup [.tup l, .int (at_ + 1)]])) ps = some (.lst (es.reverse.map enc2 ++ [.tup [.tup l, .int (at_ + 1)]])) := updM_same
        generalize updM M1 ps (.lst (es.reverse.map enc2 ++ [.tup [.tup l, .int (at_ + 1)]])) = M2 at hx2 hf2 hs2
        simp only [mSeq, mAsg, mOp, mUn, mVar, mC, mCB, mCons, mNil, mTup, mLst_n, mB, mTru, mNot, mAnd, mOr, mAndV, mOrV, mNotV, mIf, mIfS, mRet, mRetN, mDrop, mNext, mBreak, mCont, mBM, mBM0, mCall, mFor, mLc, mYes, iSeq, iRng, iRng2, iRevRng, gNameM, gSubM, mAug, mIsi, mSl, mPart, mNoPart, mRaise, getS_0, getS_s, isB_bl, truP_t, truP_b, sIx_t, sIx_o, sIx_r, sIx_s, sAdd_ii, sAdd_ss, sAdd_tt, sAdd_rr, sIAdd_ii, sIAdd_ss, sMul_ii, sMul_si, sI2_ii, sLen_t, sLen_o, sLen_r, sLen_s, sInt_i, sAbs_i, sMin2_i, sMax2_i, sStrI_i, sTupOf_t, sTupOf_r, sLstOf_t, sLstOf_r, sAppend_r, sPop_r, sPopAt_r, sInsert_r, sSet_r, sEq_ii, sEq_ss, sNe_ii, sNe_ss, sIn_ss, sIn_st, sIn_sr, sIs_n, sIsNot_n, isNonP_n, isNonP_t, isNonP_s, isNonP_i, isNonP_r, sNeg_i, sJoin_r, sSl_r, mDict0_n, mDict1_n, gTupM_t, gConsM_c, gNilM_n, seqP_t, seqP_o, seqP_r, withL_upd, upd_upd, dec_if, true_and, and_true, List.set_cons_zero, List.set_cons_succ, atI_0, atI_1, atI_2, ixN_30, ixN_31, ixN_32, ixN_s0, Option.some.injEq, exists_eq_left', exists_eq_left, Bool.not_true, Bool.not_false, if_true, if_false, Bool.false_eq_true, reduceCtorEq, List.length_cons, List.length_nil, endsOf, wipeM, List.map_cons, List.map_nil, ite_true, ite_false, eq_self_iff_true, false_and, Nat.reduceAdd, decide_true, decide_false, tyM_l hf2, withL_eq hf2]
        refine ⟨by rw [sz24, List.length_map]; omega, ?_⟩
        have hx3 := hx2.mut nf (o := .lst (fd.map stv ++ [.str nm]))
        have hf3 : updM M2 pf (.lst (fd.map stv ++ [.str nm])) pf = some (.lst ((fd ++ [some nm]).map stv)) := by rw [updM_same]; simp [stv]
        have hs3 : updM M2 pf (.lst (fd.map stv ++ [.str nm])) ps = some (.lst (es.reverse.map enc2 ++ [.tup [.tup l, .int (at_ + 1)]])) := by rw [updM_ne ne.symm]; exact hs2
        generalize updM M2 pf (.lst (fd.map stv ++ [.str nm])) = M3 at hx3 hf3 hs3
        simp only [mSeq, mAsg, mOp, mUn, mVar, mC, mCB, mCons, mNil, mTup, mLst_n, mB, mTru, mNot, mAnd, mOr, mAndV, mOrV, mNotV, mIf, mIfS, mRet, mRetN, mDrop, mNext, mBreak, mCont, mBM, mBM0, mCall, mFor, mLc, mYes, iSeq, iRng, iRng2, iRevRng, gNameM, gSubM, mAug, mIsi, mSl, mPart, mNoPart, mRaise, getS_0, getS_s, isB_bl, truP_t, truP_b, sIx_t, sIx_o, sIx_r, sIx_s, sAdd_ii, sAdd_ss, sAdd_tt, sAdd_rr, sIAdd_ii, sIAdd_ss, sMul_ii, sMul_si, sI2_ii, sLen_t, sLen_o, sLen_r, sLen_s, sInt_i, sAbs_i, sMin2_i, sMax2_i, sStrI_i, sTupOf_t, sTupOf_r, sLstOf_t, sLstOf_r, sAppend_r, sPop_r, sPopAt_r, sInsert_r, sSet_r, sEq_ii, sEq_ss, sNe_ii, sNe_ss, sIn_ss, sIn_st, sIn_sr, sIs_n, sIsNot_n, isNonP_n, isNonP_t, isNonP_s, isNonP_i, isNonP_r, sNeg_i, sJoin_r, sSl_r, mDict0_n, mDict1_n, gTupM_t, gConsM_c, gNilM_n, seqP_t, seqP_o, seqP_r, withL_upd, upd_upd, dec_if, true_and, and_true, List.set_cons_zero, List.set_cons_succ, atI_0, atI_1, atI_2, ixN_30, ixN_31, ixN_32, ixN_s0, Option.some.injEq, exists_eq_left', exists_eq_left, Bool.not_true, Bool.not_false, if_true, if_false, Bool.false_eq_true, reduceCtorEq, List.length_cons, List.length_nil, endsOf, wipeM, List.map_cons, List.map_nil, ite_true, ite_false, eq_self_iff_true, false_and, Nat.reduceAdd, decide_true, decide_false, tyM_l hs3, withL_eq hs3]
        refine ⟨by decide, by rw [sz24]; simp; omega, ?_⟩
        refine ih (⟨bb.pv, 0, bb⟩ :: ⟨l, at_ + 1, rr⟩ :: es) (fd ++ [some nm]) _ _ _ _ _ (by rw [mea2, mea2]; simp only; omega) (hx3.mut n2) (by rw [updM_ne ne]; exact hf3) (by rw [updM_same]; simp [enc2]) ?_ (by rw [mea2, mea2, List.length_append]; simp only [List.length_cons, List.length_nil]; omega) ?_ hq
        · intro e me
          rcases List.mem_cons.mp me with rfl | me
          · rfl
          · rcases List.mem_cons.mp me with rfl | me
            · exact hR2
            · exact hes e me
        · rw [← ho]
          simp [out2, Fo.st]
theorem d_steps : ∀ xs M Q E, sp_steps xs M Q E → m_steps (endsOf Q E) (startM N_steps xs) M := by
  rintro _ M Q E ⟨F, rfl, hc, q⟩
  show m_steps (endsOf Q E) [some (.tup F.pv), none, none, none, none, none, none] M
  unfold m_steps
  refine seq_i fun N1 hN1 => ?_
  simp only [mSeq, mAsg, mOp, mUn, mVar, mC, mCB, mCons, mNil, mTup, mLst_n, mB, mTru, mNot, mAnd, mOr, mAndV, mOrV, mNotV, mIf, mIfS, mRet, mRetN, mDrop, mNext, mBreak, mCont, mBM, mBM0, mCall, mFor, mLc, mYes, iSeq, iRng, iRng2, iRevRng, gNameM, gSubM, mAug, mIsi, mSl, mPart, mNoPart, mRaise, getS_0, getS_s, isB_bl, truP_t, truP_b, sIx_t, sIx_o, sIx_r, sIx_s, sAdd_ii, sAdd_ss, sAdd_tt, sAdd_rr, sIAdd_ii, sIAdd_ss, sMul_ii, sMul_si, sI2_ii, sLen_t, sLen_o, sLen_r, sLen_s, sInt_i, sAbs_i, sMin2_i, sMax2_i, sStrI_i, sTupOf_t, sTupOf_r, sLstOf_t, sLstOf_r, sAppend_r, sPop_r, sPopAt_r, sInsert_r, sSet_r, sEq_ii, sEq_ss, sNe_ii, sNe_ss, sIn_ss, sIn_st, sIn_sr, sIs_n, sIsNot_n, isNonP_n, isNonP_t, isNonP_s, isNonP_i, isNonP_r, sNeg_i, sJoin_r, sSl_r, mDict0_n, mDict1_n, gTupM_t, gConsM_c, gNilM_n, seqP_t, seqP_o, seqP_r, withL_upd, upd_upd, dec_if, true_and, and_true, List.set_cons_zero, List.set_cons_succ, atI_0, atI_1, atI_2, ixN_30, ixN_31, ixN_32, ixN_s0, Option.some.injEq, exists_eq_left', exists_eq_left, Bool.not_true, Bool.not_false, if_true, if_false, Bool.false_eq_true, reduceCtorEq, List.length_cons, List.length_nil, endsOf, wipeM, List.map_cons, List.map_nil, ite_true, ite_false, eq_self_iff_true, false_and, Nat.reduceAdd, decide_true, decide_false]
  refine ⟨by decide, newL_i fun pf M1 n1 h1 x1 => hN1 _ _ ?_⟩
  clear hN1 N1
  refine seq_i fun N1 hN1 => ?_
  simp only [mSeq, mAsg, mOp, mUn, mVar, mC, mCB, mCons, mNil, mTup, mLst_n, mB, mTru, mNot, mAnd, mOr, mAndV, mOrV, mNotV, mIf, mIfS, mRet, mRetN, mDrop, mNext, mBreak, mCont, mBM, mBM0, mCall, mFor, mLc, mYes, iSeq, iRng, iRng2, iRevRng, gNameM, gSubM, mAug, mIsi, mSl, mPart, mNoPart, mRaise, getS_0, getS_s, isB_bl, truP_t, truP_b, sIx_t, sIx_o, sIx_r, sIx_s, sAdd_ii, sAdd_ss, sAdd_tt, sAdd_rr, sIAdd_ii, sIAdd_ss, sMul_ii, sMul_si, sI2_ii, sLen_t, sLen_o, sLen_r, sLen_s, sInt_i, sAbs_i, sMin2_i, sMax2_i, sStrI_i, sTupOf_t, sTupOf_r, sLstOf_t, sLstOf_r, sAppend_r, sPop_r, sPopAt_r, sInsert_r, sSet_r, sEq_ii, sEq_ss, sNe_ii, sNe_ss, sIn_ss, sIn_st, sIn_sr, sIs_n, sIsNot_n, isNonP_n, isNonP_t, isNonP_s, isNonP_i, isNonP_r, sNeg_i, sJoin_r, sSl_r, mDict0_n, mDict1_n, gTupM_t, gConsM_c, gNilM_n, seqP_t, seqP_o, seqP_r, withL_upd, upd_upd, dec_if, true_and, and_true, List.set_cons_zero, List.set_cons_succ, atI_0, atI_1, atI_2, ixN_30, ixN_31, ixN_32, ixN_s0, Option.some.injEq, exists_eq_left', exists_eq_left, Bool.not_true, Bool.not_false, if_true, if_false, Bool.false_eq_true, reduceCtorEq, List.length_cons, List.length_nil, endsOf, wipeM, List.map_cons, List.map_nil, ite_true, ite_false, eq_self_iff_true, false_and, Nat.reduceAdd, decide_true, decide_false]
  refine ⟨by decide, by decide, newL_i fun ps M2 n2 h2 x2 => hN1 _ _ ?_⟩
  clear hN1 N1
  refine seq_i fun N1 hN1 => ?_
  have ne : pf ≠ ps := fun z => by rw [z, n2] at h1; cases h1
  refine ⟨_, steps_wh (F := F) n1 (x1.none n2) ne (1 + 2 * F.cnt) [⟨F.pv, 0, F⟩] [] none none none none M2 (by simp [mea2]) (x1.trans x2) (x2 _ _ h1) h2 (fun e me => by cases List.mem_singleton.mp me; rfl) (by simp [mea2]; omega) (by simp [out2]) fun r a n b M' x hf => hN1 _ _ ?_⟩
  simp only [mSeq, mAsg, mOp, mUn, mVar, mC, mCB, mCons, mNil, mTup, mLst_n, mB, mTru, mNot, mAnd, mOr, mAndV, mOrV, mNotV, mIf, mIfS, mRet, mRetN, mDrop, mNext, mBreak, mCont, mBM, mBM0, mCall, mFor, mLc, mYes, iSeq, iRng, iRng2, iRevRng, gNameM, gSubM, mAug, mIsi, mSl, mPart, mNoPart, mRaise, getS_0, getS_s, isB_bl, truP_t, truP_b, sIx_t, sIx_o, sIx_r, sIx_s, sAdd_ii, sAdd_ss, sAdd_tt, sAdd_rr, sIAdd_ii, sIAdd_ss, sMul_ii, sMul_si, sI2_ii, sLen_t, sLen_o, sLen_r, sLen_s, sInt_i, sAbs_i, sMin2_i, sMax2_i, sStrI_i, sTupOf_t, sTupOf_r, sLstOf_t, sLstOf_r, sAppend_r, sPop_r, sPopAt_r, sInsert_r, sSet_r, sEq_ii, sEq_ss, sNe_ii, sNe_ss, sIn_ss, sIn_st, sIn_sr, sIs_n, sIsNot_n, isNonP_n, isNonP_t, isNonP_s, isNonP_i, isNonP_r, sNeg_i, sJoin_r, sSl_r, mDict0_n, mDict1_n, gTupM_t, gConsM_c, gNilM_n, seqP_t, seqP_o, seqP_r, withL_upd, upd_upd, dec_if, true_and, and_true, List.set_cons_zero, List.set_cons_succ, atI_0, atI_1, atI_2, ixN_30, ixN_31, ixN_32, ixN_s0, Option.some.injEq, exists_eq_left', exists_eq_left, Bool.not_true, Bool.not_false, if_true, if_false, Bool.false_eq_true, reduceCtorEq, List.length_cons, List.length_nil, endsOf, wipeM, List.map_cons, List.map_nil, ite_true, ite_false, eq_self_iff_true, false_and, Nat.reduceAdd, decide_true, decide_false]
  exact q _ _ x n1 hf
def sp_write_forest : MSp := fun xs M Q _ => ∃ F : Fo, xs = [.tup F.pv] ∧ F.cnt ≤ 2000 ∧ F.All NmOk ∧ ∀ M', Ext M M' → Q (.str (mk F.txt)) M'
/-- write_forest: slots 0 forest, 1 parts, 2 before, 3 step -/
def N_write_forest : List Str := ["forest", "parts", "before", "step"]
def m_write_forest : MS :=
    (mSeq (mAsg (mLst mNil) (gNameM 1))
    (mSeq (mAsg (mC (.str "")) (gNameM 2))
    (mSeq (mFor (iSeq (mCall sp_steps (mCons (mVar 0) mNil))) (gNameM 3)
    (mIfS (mB (mOp sIs (mVar 3) (mC .non))) (mSeq (mIfS (mB (mOp sEq (mVar 2) (mC (.str "end")))) (mDrop (mBM "list" sAppend (mVar 1) (mCons (mC (.str ")")) mNil))) mNext)
    (mAsg (mC (.str "end")) (gNameM 2))) (mSeq (mIfS (mB (mOp sEq (mVar 2) (mC (.str "begin")))) (mDrop (mBM "list" sAppend (mVar 1) (mCons (mC (.str "(")) mNil))) (mIfS (mB (mOp sEq (mVar 2) (mC (.str "end")))) (mDrop (mBM "list" sAppend (mVar 1) (mCons (mC (.str " ")) mNil))) mNext))
    (mSeq (mDrop (mBM "list" sAppend (mVar 1) (mCons (mVar 3) mNil)))
    (mAsg (mC (.str "begin")) (gNameM 2))))))
    (mRet (mBM "str" sJoin (mC (.str "")) (mCons (mVar 1) mNil))))))

end K02
end PL
end L2
set_option maxRecDepth 100000
set_option maxHeartbeats 2000000
namespace L2
namespace PL
namespace K02
open PySem PySem.Spec PyProof.Rows K01 F
def bs : Nat → Str
  | 0 => ""
  | 1 => "begin"
  | _ => "end"
theorem bs_e : ∀ b, b ≤ 2 → decide (bs b = ("end" : Str)) = decide (b = 2)
  | 0, _ => by decide +kernel
  | 1, _ => by decide +kernel
  | 2, _ => by decide +kernel
  | n + 3, h => by omega
theorem bs_b : ∀ b, b ≤ 2 → decide (bs b = ("begin" : Str)) = decide (b = 1)
  | 0, _ => by decide +kernel
  | 1, _ => by decide +kernel
  | 2, _ => by decide +kernel
  | n + 3, h => by omega
theorem wend_le : ∀ (l : List (Option Str)) (b : Nat), b ≤ 2 → wend b l ≤ 2
  | [], b, h => h
  | some _ :: r, b, _ => wend_le r 1 (by decide)
  | none :: r, b, _ => wend_le r 2 (by decide)
theorem wr_len : ∀ (l : List (Option Str)) (b : Nat), (wr b l).length ≤ 2 * l.length
  | [], b => by simp [wr]
  | some n :: r, b => by
    have := wr_len r 1
    have h1 : (wsep b).length ≤ 1 := by unfold wsep; split <;> simp
    rw [wr, List.length_append, List.length_cons, List.length_cons]; omega
  | none :: r, b => by
    have := wr_len r 2
    have h1 : (if b = 2 then [(")" : Str)] else []).length ≤ 1 := by split <;> simp
    rw [wr, List.length_append, List.length_cons]; omega
theorem st_len : ∀ F : Fo, F.st.length = 2 * F.cnt
  | .nil => rfl
  | .cons n b r => by rw [Fo.st, Fo.cnt, List.length_append, List.length_cons, List.length_cons, st_len b, st_len r]; omega
theorem sum_cl {l : List Str} : (l.map (·.length)).sum = ((l.map cl).flatten).length := by
  induction l with
  | nil => rfl
  | cons a l ih => rw [List.map_cons, List.sum_cons, List.map_cons, List.flatten_cons, List.length_append, ih, len_cl]
theorem d_write : ∀ xs M Q E, sp_write_forest xs M Q E → m_write_forest (endsOf Q E) (startM N_write_forest xs) M := by
  rintro _ M Q E ⟨F, rfl, hc, ha, q⟩
  show m_write_forest (endsOf Q E) [some (.tup F.pv), none, none, none] M
  unfold m_write_forest
  refine seq_i fun N1 hN1 => ?_
  simp only [mSeq, mAsg, mOp, mUn, mVar, mC, mCB, mCons, mNil, mTup, mLst_n, mB, mTru, mNot, mAnd, mOr, mAndV, mOrV, mNotV, mIf, mIfS, mRet, mRetN, mDrop, mNext, mBreak, mCont, mBM, mBM0, mCall, mFor, mLc, mYes, iSeq, iRng, iRng2, iRevRng, gNameM, gSubM, mAug, mIsi, mSl, mPart, mNoPart, mRaise, getS_0, getS_s, isB_bl, truP_t, truP_b, sIx_t, sIx_o, sIx_r, sIx_s, sAdd_ii, sAdd_ss, sAdd_tt, sAdd_rr, sIAdd_ii, sIAdd_ss, sMul_ii, sMul_si, sI2_ii, sLen_t, sLen_o, sLen_r, sLen_s, sInt_i, sAbs_i, sMin2_i, sMax2_i, sStrI_i, sTupOf_t, sTupOf_r, sLstOf_t, sLstOf_r, sAppend_r, sPop_r, sPopAt_r, sInsert_r, sSet_r, sEq_ii, sEq_ss, sNe_ii, sNe_ss, sIn_ss, sIn_st, sIn_sr, sIs_n, sIsNot_n, isNonP_n, isNonP_t, isNonP_s, isNonP_i, isNonP_r, sNeg_i, sJoin_r, sSl_r, mDict0_n, mDict1_n, gTupM_t, gConsM_c, gNilM_n, seqP_t, seqP_o, seqP_r, withL_upd, upd_upd, dec_if, true_and, and_true, List.set_cons_zero, List.set_cons_succ, atI_0, atI_1, atI_2, ixN_30, ixN_31, ixN_32, ixN_s0, Option.some.injEq, exists_eq_left', exists_eq_left, Bool.not_true, Bool.not_false, if_true, if_false, Bool.false_eq_true, reduceCtorEq, List.length_cons, List.length_nil, endsOf, wipeM, List.map_cons, List.map_nil, ite_true, ite_false, eq_self_iff_true, false_and, Nat.reduceAdd, decide_true, decide_false]
  refine ⟨by decide, newL_i fun p M1 n1 h1 x1 => hN1 _ _ ?_⟩
  clear hN1 N1
  refine seq_i fun N1 hN1 => ?_
  simp only [mSeq, mAsg, mOp, mUn, mVar, mC, mCB, mCons, mNil, mTup, mLst_n, mB, mTru, mNot, mAnd, mOr, mAndV, mOrV, mNotV, mIf, mIfS, mRet, mRetN, mDrop, mNext, mBreak, mCont, mBM, mBM0, mCall, mFor, mLc, mYes, iSeq, iRng, iRng2, iRevRng, gNameM, gSubM, mAug, mIsi, mSl, mPart, mNoPart, mRaise, getS_0, getS_s, isB_bl, truP_t, truP_b, sIx_t, sIx_o, sIx_r, sIx_s, sAdd_ii, sAdd_ss, sAdd_tt, sAdd_rr, sIAdd_ii, sIAdd_ss, sMul_ii, sMul_si, sI2_ii, sLen_t, sLen_o, sLen_r, sLen_s, sInt_i, sAbs_i, sMin2_i, sMax2_i, sStrI_i, sTupOf_t, sTupOf_r, sLstOf_t, sLstOf_r, sAppend_r, sPop_r, sPopAt_r, sInsert_r, sSet_r, sEq_ii, sEq_ss, sNe_ii, sNe_ss, sIn_ss, sIn_st, sIn_sr, sIs_n, sIsNot_n, isNonP_n, isNonP_t, isNonP_s, isNonP_i, isNonP_r, sNeg_i, sJoin_r, sSl_r, mDict0_n, mDict1_n, gTupM_t, gConsM_c, gNilM_n, seqP_t, seqP_o, seqP_r, withL_upd, upd_upd, dec_if, true_and, and_true, List.set_cons_zero, List.set_cons_succ, atI_0, atI_1, atI_2, ixN_30, ixN_31, ixN_32, ixN_s0, Option.some.injEq, exists_eq_left', exists_eq_left, Bool.not_true, Bool.not_false, if_true, if_false, Bool.false_eq_true, reduceCtorEq, List.length_cons, List.length_nil, endsOf, wipeM, List.map_cons, List.map_nil, ite_true, ite_false, eq_self_iff_true, false_and, Nat.reduceAdd, decide_true, decide_false]
  refine hN1 _ _ ?_
  clear hN1 N1
  refine seq_i fun N1 hN1 => ?_
  simp only [mSeq, mAsg, mOp, mUn, mVar, mC, mCB, mCons, mNil, mTup, mLst_n, mB, mTru, mNot, mAnd, mOr, mAndV, mOrV, mNotV, mIf, mIfS, mRet, mRetN, mDrop, mNext, mBreak, mCont, mBM, mBM0, mCall, mFor, mLc, mYes, iSeq, iRng, iRng2, iRevRng, gNameM, gSubM, mAug, mIsi, mSl, mPart, mNoPart, mRaise, getS_0, getS_s, isB_bl, truP_t, truP_b, sIx_t, sIx_o, sIx_r, sIx_s, sAdd_ii, sAdd_ss, sAdd_tt, sAdd_rr, sIAdd_ii, sIAdd_ss, sMul_ii, sMul_si, sI2_ii, sLen_t, sLen_o, sLen_r, sLen_s, sInt_i, sAbs_i, sMin2_i, sMax2_i, sStrI_i, sTupOf_t, sTupOf_r, sLstOf_t, sLstOf_r, sAppend_r, sPop_r, sPopAt_r, sInsert_r, sSet_r, sEq_ii, sEq_ss, sNe_ii, sNe_ss, sIn_ss, sIn_st, sIn_sr, sIs_n, sIsNot_n, isNonP_n, isNonP_t, isNonP_s, isNonP_i, isNonP_r, sNeg_i, sJoin_r, sSl_r, mDict0_n, mDict1_n, gTupM_t, gConsM_c, gNilM_n, seqP_t, seqP_o, seqP_r, withL_upd, upd_upd, dec_if, true_and, and_true, List.set_cons_zero, List.set_cons_succ, atI_0, atI_1, atI_2, ixN_30, ixN_31, ixN_32, ixN_s0, Option.some.injEq, exists_eq_left', exists_eq_left, Bool.not_true, Bool.not_false, if_true, if_false, Bool.false_eq_true, reduceCtorEq, List.length_cons, List.length_nil, endsOf, wipeM, List.map_cons, List.map_nil, ite_true, ite_false, eq_self_iff_true, false_and, Nat.reduceAdd, decide_true, decide_false]
  refine ⟨F, rfl, hc, fun ps M2 x2 n2 h2 => ?_⟩
  simp only [mSeq, mAsg, mOp, mUn, mVar, mC, mCB, mCons, mNil, mTup, mLst_n, mB, mTru, mNot, mAnd, mOr, mAndV, mOrV, mNotV, mIf, mIfS, mRet, mRetN, mDrop, mNext, mBreak, mCont, mBM, mBM0, mCall, mFor, mLc, mYes, iSeq, iRng, iRng2, iRevRng, gNameM, gSubM, mAug, mIsi, mSl, mPart, mNoPart, mRaise, getS_0, getS_s, isB_bl, truP_t, truP_b, sIx_t, sIx_o, sIx_r, sIx_s, sAdd_ii, sAdd_ss, sAdd_tt, sAdd_rr, sIAdd_ii, sIAdd_ss, sMul_ii, sMul_si, sI2_ii, sLen_t, sLen_o, sLen_r, sLen_s, sInt_i, sAbs_i, sMin2_i, sMax2_i, sStrI_i, sTupOf_t, sTupOf_r, sLstOf_t, sLstOf_r, sAppend_r, sPop_r, sPopAt_r, sInsert_r, sSet_r, sEq_ii, sEq_ss, sNe_ii, sNe_ss, sIn_ss, sIn_st, sIn_sr, sIs_n, sIsNot_n, isNonP_n, isNonP_t, isNonP_s, isNonP_i, isNonP_r, sNeg_i, sJoin_r, sSl_r, mDict0_n, mDict1_n, gTupM_t, gConsM_c, gNilM_n, seqP_t, seqP_o, seqP_r, withL_upd, upd_upd, dec_if, true_and, and_true, List.set_cons_zero, List.set_cons_succ, atI_0, atI_1, atI_2, ixN_30, ixN_31, ixN_32, ixN_s0, Option.some.injEq, exists_eq_left', exists_eq_left, Bool.not_true, Bool.not_false, if_true, if_false, Bool.false_eq_true, reduceCtorEq, List.length_cons, List.length_nil, endsOf, wipeM, List.map_cons, List.map_nil, ite_true, ite_false, eq_self_iff_true, false_and, Nat.reduceAdd, decide_true, decide_false, withL_eq h2]
  have hp0 := x2 _ _ h1
  have ne : ps ≠ p := fun z => by rw [z, h1] at n2; cases n2
  have hsl := st_len F
  refine loopG_ind (it := .live ps (F.st.map stv)) (fun i μ M' => ∃ t, μ = [some (.tup F.pv), some (.ref p), some (.str (bs (wend 0 (F.st.take i)))), t] ∧ Ext M M' ∧ M' p = some (.lst (pss (wr 0 (F.st.take i)))) ∧ M' ps = some (.lst (F.st.map stv)))
    (fun i x μ M' L ex h hl => ?_) (fun μ M' h => ?_) ⟨none, rfl, x1.trans x2, hp0, h2⟩
  · obtain ⟨t, rfl, xM, hp, hps⟩ := h
    refine ⟨hps, ?_⟩
    have ex : (F.st.map stv)[i]? = some x := ex
    rw [List.getElem?_map] at ex
    cases eo : F.st[i]? with
    | none => rw [eo] at ex; cases ex
    | some o =>
      rw [eo] at ex
      cases ex
      have hlt := (List.getElem?_eq_some_iff.mp eo).1
      have tk : F.st.take (i + 1) = F.st.take i ++ [o] := by rw [List.take_succ, eo]; rfl
      have w1 : wr 0 (F.st.take (i + 1)) = wr 0 (F.st.take i) ++ wr (wend 0 (F.st.take i)) [o] := by rw [tk, wr_app]
      have w2 : wend 0 (F.st.take (i + 1)) = wend (wend 0 (F.st.take i)) [o] := by rw [tk, wend_app]
      have wl := wr_len (F.st.take i) 0
      have tl : (F.st.take i).length ≤ F.st.length := by rw [List.length_take]; omega
      have we := wend_le (F.st.take i) 0 (by decide)
      have go : ∀ t P M2, Ext M M2 → P = wr 0 (F.st.take i) ++ wr (wend 0 (F.st.take i)) [o] → M2 p = some (.lst (pss P)) → M2 ps = some (.lst (F.st.map stv)) → L [some (.tup F.pv), some (.ref p), some (.str (bs (wend (wend 0 (F.st.take i)) [o]))), t] M2 := fun t P M2 x e h1 h2 =>
        hl _ _ ⟨t, by rw [w2], x, by rw [w1, ← e]; exact h1, h2⟩
      clear w1 w2
      generalize wend 0 (F.st.take i) = b at we go hp
      generalize wr 0 (F.st.take i) = P at wl go hp
      have szP : (pss P).length < sizeLine := by rw [sz24]; simp [pss]; omega
      cases o with
      | none =>
        simp only [stv, mSeq, mAsg, mOp, mUn, mVar, mC, mCB, mCons, mNil, mTup, mLst_n, mB, mTru, mNot, mAnd, mOr, mAndV, mOrV, mNotV, mIf, mIfS, mRet, mRetN, mDrop, mNext, mBreak, mCont, mBM, mBM0, mCall, mFor, mLc, mYes, iSeq, iRng, iRng2, iRevRng, gNameM, gSubM, mAug, mIsi, mSl, mPart, mNoPart, mRaise, getS_0, getS_s, isB_bl, truP_t, truP_b, sIx_t, sIx_o, sIx_r, sIx_s, sAdd_ii, sAdd_ss, sAdd_tt, sAdd_rr, sIAdd_ii, sIAdd_ss, sMul_ii, sMul_si, sI2_ii, sLen_t, sLen_o, sLen_r, sLen_s, sInt_i, sAbs_i, sMin2_i, sMax2_i, sStrI_i, sTupOf_t, sTupOf_r, sLstOf_t, sLstOf_r, sAppend_r, sPop_r, sPopAt_r, sInsert_r, sSet_r, sEq_ii, sEq_ss, sNe_ii, sNe_ss, sIn_ss, sIn_st, sIn_sr, sIs_n, sIsNot_n, isNonP_n, isNonP_t, isNonP_s, isNonP_i, isNonP_r, sNeg_i, sJoin_r, sSl_r, mDict0_n, mDict1_n, gTupM_t, gConsM_c, gNilM_n, seqP_t, seqP_o, seqP_r, withL_upd, upd_upd, dec_if, true_and, and_true, List.set_cons_zero, List.set_cons_succ, atI_0, atI_1, atI_2, ixN_30, ixN_31, ixN_32, ixN_s0, Option.some.injEq, exists_eq_left', exists_eq_left, Bool.not_true, Bool.not_false, if_true, if_false, Bool.false_eq_true, reduceCtorEq, List.length_cons, List.length_nil, endsOf, wipeM, List.map_cons, List.map_nil, ite_true, ite_false, eq_self_iff_true, false_and, Nat.reduceAdd, decide_true, decide_false, bs_e b we]
        by_cases hb : b = 2
        · rw [if_pos hb]
          simp only [mSeq, mAsg, mOp, mUn, mVar, mC, mCB, mCons, mNil, mTup, mLst_n, mB, mTru, mNot, mAnd, mOr, mAndV, mOrV, mNotV, mIf, mIfS, mRet, mRetN, mDrop, mNext, mBreak, mCont, mBM, mBM0, mCall, mFor, mLc, mYes, iSeq, iRng, iRng2, iRevRng, gNameM, gSubM, mAug, mIsi, mSl, mPart, mNoPart, mRaise, getS_0, getS_s, isB_bl, truP_t, truP_b, sIx_t, sIx_o, sIx_r, sIx_s, sAdd_ii, sAdd_ss, sAdd_tt, sAdd_rr, sIAdd_ii, sIAdd_ss, sMul_ii, sMul_si, sI2_ii, sLen_t, sLen_o, sLen_r, sLen_s, sInt_i, sAbs_i, sMin2_i, sMax2_i, sStrI_i, sTupOf_t, sTupOf_r, sLstOf_t, sLstOf_r, sAppend_r, sPop_r, sPopAt_r, sInsert_r, sSet_r, sEq_ii, sEq_ss, sNe_ii, sNe_ss, sIn_ss, sIn_st, sIn_sr, sIs_n, sIsNot_n, isNonP_n, isNonP_t, isNonP_s, isNonP_i, isNonP_r, sNeg_i, sJoin_r, sSl_r, mDict0_n, mDict1_n, gTupM_t, gConsM_c, gNilM_n, seqP_t, seqP_o, seqP_r, withL_upd, upd_upd, dec_if, true_and, and_true, List.set_cons_zero, List.set_cons_succ, atI_0, atI_1, atI_2, ixN_30, ixN_31, ixN_32, ixN_s0, Option.some.injEq, exists_eq_left', exists_eq_left, Bool.not_true, Bool.not_false, if_true, if_false, Bool.false_eq_true, reduceCtorEq, List.length_cons, List.length_nil, endsOf, wipeM, List.map_cons, List.map_nil, ite_true, ite_false, eq_self_iff_true, false_and, Nat.reduceAdd, decide_true, decide_false, tyM_l hp, withL_eq hp]
          refine ⟨szP, go _ (P ++ [(")" : Str)]) _ (xM.mut n1) (by simp [wr, hb]) (by rw [updM_same]; simp [pss]) (by rw [updM_ne ne]; exact hps)⟩
        · rw [if_neg hb]
          exact go _ P _ xM (by simp [wr, hb]) hp hps
      | some n =>
        simp only [stv, mSeq, mAsg, mOp, mUn, mVar, mC, mCB, mCons, mNil, mTup, mLst_n, mB, mTru, mNot, mAnd, mOr, mAndV, mOrV, mNotV, mIf, mIfS, mRet, mRetN, mDrop, mNext, mBreak, mCont, mBM, mBM0, mCall, mFor, mLc, mYes, iSeq, iRng, iRng2, iRevRng, gNameM, gSubM, mAug, mIsi, mSl, mPart, mNoPart, mRaise, getS_0, getS_s, isB_bl, truP_t, truP_b, sIx_t, sIx_o, sIx_r, sIx_s, sAdd_ii, sAdd_ss, sAdd_tt, sAdd_rr, sIAdd_ii, sIAdd_ss, sMul_ii, sMul_si, sI2_ii, sLen_t, sLen_o, sLen_r, sLen_s, sInt_i, sAbs_i, sMin2_i, sMax2_i, sStrI_i, sTupOf_t, sTupOf_r, sLstOf_t, sLstOf_r, sAppend_r, sPop_r, sPopAt_r, sInsert_r, sSet_r, sEq_ii, sEq_ss, sNe_ii, sNe_ss, sIn_ss, sIn_st, sIn_sr, sIs_n, sIsNot_n, isNonP_n, isNonP_t, isNonP_s, isNonP_i, isNonP_r, sNeg_i, sJoin_r, sSl_r, mDict0_n, mDict1_n, gTupM_t, gConsM_c, gNilM_n, seqP_t, seqP_o, seqP_r, withL_upd, upd_upd, dec_if, true_and, and_true, List.set_cons_zero, List.set_cons_succ, atI_0, atI_1, atI_2, ixN_30, ixN_31, ixN_32, ixN_s0, Option.some.injEq, exists_eq_left', exists_eq_left, Bool.not_true, Bool.not_false, if_true, if_false, Bool.false_eq_true, reduceCtorEq, List.length_cons, List.length_nil, endsOf, wipeM, List.map_cons, List.map_nil, ite_true, ite_false, eq_self_iff_true, false_and, Nat.reduceAdd, decide_true, decide_false, bs_e b we, bs_b b we]
        by_cases hb1 : b = 1
        · rw [if_pos hb1]
          simp only [mSeq, mAsg, mOp, mUn, mVar, mC, mCB, mCons, mNil, mTup, mLst_n, mB, mTru, mNot, mAnd, mOr, mAndV, mOrV, mNotV, mIf, mIfS, mRet, mRetN, mDrop, mNext, mBreak, mCont, mBM, mBM0, mCall, mFor, mLc, mYes, iSeq, iRng, iRng2, iRevRng, gNameM, gSubM, mAug, mIsi, mSl, mPart, mNoPart, mRaise, getS_0, getS_s, isB_bl, truP_t, truP_b, sIx_t, sIx_o, sIx_r, sIx_s, sAdd_ii, sAdd_ss, sAdd_tt, sAdd_rr, sIAdd_ii, sIAdd_ss, sMul_ii, sMul_si, sI2_ii, sLen_t, sLen_o, sLen_r, sLen_s, sInt_i, sAbs_i, sMin2_i, sMax2_i, sStrI_i, sTupOf_t, sTupOf_r, sLstOf_t, sLstOf_r, sAppend_r, sPop_r, sPopAt_r, sInsert_r, sSet_r, sEq_ii, sEq_ss, sNe_ii, sNe_ss, sIn_ss, sIn_st, sIn_sr, sIs_n, sIsNot_n, isNonP_n, isNonP_t, isNonP_s, isNonP_i, isNonP_r, sNeg_i, sJoin_r, sSl_r, mDict0_n, mDict1_n, gTupM_t, gConsM_c, gNilM_n, seqP_t, seqP_o, seqP_r, withL_upd, upd_upd, dec_if, true_and, and_true, List.set_cons_zero, List.set_cons_succ, atI_0, atI_1, atI_2, ixN_30, ixN_31, ixN_32, ixN_s0, Option.some.injEq, exists_eq_left', exists_eq_left, Bool.not_true, Bool.not_false, if_true, if_false, Bool.false_eq_true, reduceCtorEq, List.length_cons, List.length_nil, endsOf, wipeM, List.map_cons, List.map_nil, ite_true, ite_false, eq_self_iff_true, false_and, Nat.reduceAdd, decide_true, decide_false, tyM_l hp, withL_eq hp]
          refine ⟨szP, ?_⟩
          simp only [mSeq, mAsg, mOp, mUn, mVar, mC, mCB, mCons, mNil, mTup, mLst_n, mB, mTru, mNot, mAnd, mOr, mAndV, mOrV, mNotV, mIf, mIfS, mRet, mRetN, mDrop, mNext, mBreak, mCont, mBM, mBM0, mCall, mFor, mLc, mYes, iSeq, iRng, iRng2, iRevRng, gNameM, gSubM, mAug, mIsi, mSl, mPart, mNoPart, mRaise, getS_0, getS_s, isB_bl, truP_t, truP_b, sIx_t, sIx_o, sIx_r, sIx_s, sAdd_ii, sAdd_ss, sAdd_tt, sAdd_rr, sIAdd_ii, sIAdd_ss, sMul_ii, sMul_si, sI2_ii, sLen_t, sLen_o, sLen_r, sLen_s, sInt_i, sAbs_i, sMin2_i, sMax2_i, sStrI_i, sTupOf_t, sTupOf_r, sLstOf_t, sLstOf_r, sAppend_r, sPop_r, sPopAt_r, sInsert_r, sSet_r, sEq_ii, sEq_ss, sNe_ii, sNe_ss, sIn_ss, sIn_st, sIn_sr, sIs_n, sIsNot_n, isNonP_n, isNonP_t, isNonP_s, isNonP_i, isNonP_r, sNeg_i, sJoin_r, sSl_r, mDict0_n, mDict1_n, gTupM_t, gConsM_c, gNilM_n, seqP_t, seqP_o, seqP_r, withL_upd, upd_upd, dec_if, true_and, and_true, List.set_cons_zero, List.set_cons_succ, atI_0, atI_1, atI_2, ixN_30, ixN_31, ixN_32, ixN_s0, Option.some.injEq, exists_eq_left', exists_eq_left, Bool.not_true, Bool.not_false, if_true, if_false, Bool.false_eq_true, reduceCtorEq, List.length_cons, List.length_nil, endsOf, wipeM, List.map_cons, List.map_nil, ite_true, ite_false, eq_self_iff_true, false_and, Nat.reduceAdd, decide_true, decide_false, tyM_l updM_same]
          refine ⟨by rw [sz24]; simp [pss]; omega, go _ (P ++ [("(" : Str)] ++ [n]) _ (xM.mut n1) (by simp [wr, wsep, hb1]) (by rw [updM_same]; simp [pss]) (by rw [updM_ne ne]; exact hps)⟩
        · rw [if_neg hb1]
          by_cases hb2 : b = 2
          · rw [if_pos hb2]
            simp only [mSeq, mAsg, mOp, mUn, mVar, mC, mCB, mCons, mNil, mTup, mLst_n, mB, mTru, mNot, mAnd, mOr, mAndV, mOrV, mNotV, mIf, mIfS, mRet, mRetN, mDrop, mNext, mBreak, mCont, mBM, mBM0, mCall, mFor, mLc, mYes, iSeq, iRng, iRng2, iRevRng, gNameM, gSubM, mAug, mIsi, mSl, mPart, mNoPart, mRaise, getS_0, getS_s, isB_bl, truP_t, truP_b, sIx_t, sIx_o, sIx_r, sIx_s, sAdd_ii, sAdd_ss, sAdd_tt, sAdd_rr, sIAdd_ii, sIAdd_ss, sMul_ii, sMul_si, sI2_ii, sLen_t, sLen_o, sLen_r, sLen_s, sInt_i, sAbs_i, sMin2_i, sMax2_i, sStrI_i, sTupOf_t, sTupOf_r, sLstOf_t, sLstOf_r, sAppend_r, sPop_r, sPopAt_r, sInsert_r, sSet_r, sEq_ii, sEq_ss, sNe_ii, sNe_ss, sIn_ss, sIn_st, sIn_sr, sIs_n, sIsNot_n, isNonP_n, isNonP_t, isNonP_s, isNonP_i, isNonP_r, sNeg_i, sJoin_r, sSl_r, mDict0_n, mDict1_n, gTupM_t, gConsM_c, gNilM_n, seqP_t, seqP_o, seqP_r, withL_upd, upd_upd, dec_if, true_and, and_true, List.set_cons_zero, List.set_cons_succ, atI_0, atI_1, atI_2, ixN_30, ixN_31, ixN_32, ixN_s0, Option.some.injEq, exists_eq_left', exists_eq_left, Bool.not_true, Bool.not_false, if_true, if_false, Bool.false_eq_true, reduceCtorEq, List.length_cons, List.length_nil, endsOf, wipeM, List.map_cons, List.map_nil, ite_true, ite_false, eq_self_iff_true, false_and, Nat.reduceAdd, decide_true, decide_false, tyM_l hp, withL_eq hp]
            refine ⟨szP, ?_⟩
            simp only [mSeq, mAsg, mOp, mUn, mVar, mC, mCB, mCons, mNil, mTup, mLst_n, mB, mTru, mNot, mAnd, mOr, mAndV, mOrV, mNotV, mIf, mIfS, mRet, mRetN, mDrop, mNext, mBreak, mCont, mBM, mBM0, mCall, mFor, mLc, mYes, iSeq, iRng, iRng2, iRevRng, gNameM, gSubM, mAug, mIsi, mSl, mPart, mNoPart, mRaise, getS_0, getS_s, isB_bl, truP_t, truP_b, sIx_t, sIx_o, sIx_r, sIx_s, sAdd_ii, sAdd_ss, sAdd_tt, sAdd_rr, sIAdd_ii, sIAdd_ss, sMul_ii, sMul_si, sI2_ii, sLen_t, sLen_o, sLen_r, sLen_s, sInt_i, sAbs_i, sMin2_i, sMax2_i, sStrI_i, sTupOf_t, sTupOf_r, sLstOf_t, sLstOf_r, sAppend_r, sPop_r, sPopAt_r, sInsert_r, sSet_r, sEq_ii, sEq_ss, sNe_ii, sNe_ss, sIn_ss, sIn_st, sIn_sr, sIs_n, sIsNot_n, isNonP_n, isNonP_t, isNonP_s, isNonP_i, isNonP_r, sNeg_i, sJoin_r, sSl_r, mDict0_n, mDict1_n, gTupM_t, gConsM_c, gNilM_n, seqP_t, seqP_o, seqP_r, withL_upd, upd_upd, dec_if, true_and, and_true, List.set_cons_zero, List.set_cons_succ, atI_0, atI_1, atI_2, ixN_30, ixN_31, ixN_32, ixN_s0, Option.some.injEq, exists_eq_left', exists_eq_left, Bool.not_true, Bool.not_false, if_true, if_false, Bool.false_eq_true, reduceCtorEq, List.length_cons, List.length_nil, endsOf, wipeM, List.map_cons, List.map_nil, ite_true, ite_false, eq_self_iff_true, false_and, Nat.reduceAdd, decide_true, decide_false, tyM_l updM_same]
            refine ⟨by rw [sz24]; simp [pss]; omega, go _ (P ++ [(" " : Str)] ++ [n]) _ (xM.mut n1) (by simp [wr, wsep, hb2]) (by rw [updM_same]; simp [pss]) (by rw [updM_ne ne]; exact hps)⟩
          · rw [if_neg hb2]
            simp only [mSeq, mAsg, mOp, mUn, mVar, mC, mCB, mCons, mNil, mTup, mLst_n, mB, mTru, mNot, mAnd, mOr, mAndV, mOrV, mNotV, mIf, mIfS, mRet, mRetN, mDrop, mNext, mBreak, mCont, mBM, mBM0, mCall, mFor, mLc, mYes, iSeq, iRng, iRng2, iRevRng, gNameM, gSubM, mAug, mIsi, mSl, mPart, mNoPart, mRaise, getS_0, getS_s, isB_bl, truP_t, truP_b, sIx_t, sIx_o, sIx_r, sIx_s, sAdd_ii, sAdd_ss, sAdd_tt, sAdd_rr, sIAdd_ii, sIAdd_ss, sMul_ii, sMul_si, sI2_ii, sLen_t, sLen_o, sLen_r, sLen_s, sInt_i, sAbs_i, sMin2_i, sMax2_i, sStrI_i, sTupOf_t, sTupOf_r, sLstOf_t, sLstOf_r, sAppend_r, sPop_r, sPopAt_r, sInsert_r, sSet_r, sEq_ii, sEq_ss, sNe_ii, sNe_ss, sIn_ss, sIn_st, sIn_sr, sIs_n, sIsNot_n, isNonP_n, isNonP_t, isNonP_s, isNonP_i, isNonP_r, sNeg_i, sJoin_r, sSl_r, mDict0_n, mDict1_n, gTupM_t, gConsM_c, gNilM_n, seqP_t, seqP_o, seqP_r, withL_upd, upd_upd, dec_if, true_and, and_true, List.set_cons_zero, List.set_cons_succ, atI_0, atI_1, atI_2, ixN_30, ixN_31, ixN_32, ixN_s0, Option.some.injEq, exists_eq_left', exists_eq_left, Bool.not_true, Bool.not_false, if_true, if_false, Bool.false_eq_true, reduceCtorEq, List.length_cons, List.length_nil, endsOf, wipeM, List.map_cons, List.map_nil, ite_true, ite_false, eq_self_iff_true, false_and, Nat.reduceAdd, decide_true, decide_false, tyM_l hp, withL_eq hp]
            have hb0 : b = 0 := by omega
            refine ⟨szP, go _ (P ++ [n]) _ (xM.mut n1) (by simp [wr, wsep, hb0]) (by rw [updM_same]; simp [pss]) (by rw [updM_ne ne]; exact hps)⟩
  · obtain ⟨t, rfl, xM, hp, hps⟩ := h
    have el : (MIt.items (.live ps (F.st.map stv))).length = F.st.length := by show (F.st.map stv).length = _; rw [List.length_map]
    rw [el, List.take_of_length_le (Nat.le_refl _)] at hp
    refine ⟨hps, hN1 _ _ ?_⟩
    simp only [mSeq, mAsg, mOp, mUn, mVar, mC, mCB, mCons, mNil, mTup, mLst_n, mB, mTru, mNot, mAnd, mOr, mAndV, mOrV, mNotV, mIf, mIfS, mRet, mRetN, mDrop, mNext, mBreak, mCont, mBM, mBM0, mCall, mFor, mLc, mYes, iSeq, iRng, iRng2, iRevRng, gNameM, gSubM, mAug, mIsi, mSl, mPart, mNoPart, mRaise, getS_0, getS_s, isB_bl, truP_t, truP_b, sIx_t, sIx_o, sIx_r, sIx_s, sAdd_ii, sAdd_ss, sAdd_tt, sAdd_rr, sIAdd_ii, sIAdd_ss, sMul_ii, sMul_si, sI2_ii, sLen_t, sLen_o, sLen_r, sLen_s, sInt_i, sAbs_i, sMin2_i, sMax2_i, sStrI_i, sTupOf_t, sTupOf_r, sLstOf_t, sLstOf_r, sAppend_r, sPop_r, sPopAt_r, sInsert_r, sSet_r, sEq_ii, sEq_ss, sNe_ii, sNe_ss, sIn_ss, sIn_st, sIn_sr, sIs_n, sIsNot_n, isNonP_n, isNonP_t, isNonP_s, isNonP_i, isNonP_r, sNeg_i, sJoin_r, sSl_r, mDict0_n, mDict1_n, gTupM_t, gConsM_c, gNilM_n, seqP_t, seqP_o, seqP_r, withL_upd, upd_upd, dec_if, true_and, and_true, List.set_cons_zero, List.set_cons_succ, atI_0, atI_1, atI_2, ixN_30, ixN_31, ixN_32, ixN_s0, Option.some.injEq, exists_eq_left', exists_eq_left, Bool.not_true, Bool.not_false, if_true, if_false, Bool.false_eq_true, reduceCtorEq, List.length_cons, List.length_nil, endsOf, wipeM, List.map_cons, List.map_nil, ite_true, ite_false, eq_self_iff_true, false_and, Nat.reduceAdd, decide_true, decide_false, withL_eq hp]
    refine ⟨rfl, wr 0 F.st, rfl, ?_, ?_⟩
    · show ((wr 0 F.st).map (·.length)).sum + (wr 0 F.st).length * ("" : Str).length ≤ 16777216
      have e0 : ("" : Str).length = 0 := by rw [len_cl, cl_e]; rfl
      have e1 := wr_st F 0
      have e2 := txt_len ha
      rw [sum_cl, e1, e0]
      have e3 : (if F.isNil = true then [] else pre 0 ++ F.txt).length ≤ F.txt.length := by split <;> simp [pre]
      omega
    · rw [write_txt]; exact q _ xM
end K02
end PL
end L2
set_option maxRecDepth 100000
set_option maxHeartbeats 2000000
namespace L2
namespace PL
namespace K02
open PySem PySem.Spec PyProof.Rows K01 F
/-! _law_same, of like values -/
def plain : Nat → PV → Prop
  | 0, _ => False
  | d + 1, .tup l => l.length ≤ 100000 ∧ ∀ x ∈ l, plain d x
  | _ + 1, .str _ => True
  | _ + 1, _ => False
def sp_same (d : Nat) : MSp := fun xs M Q _ => ∃ v, xs = [v, v] ∧ plain d v ∧ Q (.bl true) M
def sp__law_same : MSp := sp_same 122
/-- _law_same: slots 0 actual, 1 due, 2 k -/
def N__law_same : List Str := ["actual", "due", "k"]
def m__law_same (self : MSp) : MS :=
    (mSeq (mIfS (mTru (mIsi "tuple" (mVar 1))) (mSeq (mIfS (mOr (mNot (mTru (mIsi "tuple" (mVar 0)))) (mB (mOp sNe (mCB sLen (mCons (mVar 0) mNil)) (mCB sLen (mCons (mVar 1) mNil))))) (mRet (mC (.bl false))) mNext)
    (mSeq (mFor (iRng (mCons (mCB sLen (mCons (mVar 1) mNil)) mNil)) (gNameM 2)
    (mIfS (mNot (mTru (mCall self (mCons (mOp sIx (mVar 0) (mVar 2)) (mCons (mOp sIx (mVar 1) (mVar 2)) mNil))))) (mRet (mC (.bl false))) mNext))
    (mRet (mC (.bl true))))) mNext)
    (mSeq (mIfS (mB (mOp sIs (mVar 1) (mC .non))) (mRet (mOp sIs (mVar 0) (mC .non))) mNext)
    (mSeq (mIfS (mTru (mIsi "str" (mVar 1))) (mRet (mAndV (mIsi "str" (mVar 0)) (mOp sEq (mVar 0) (mVar 1)))) mNext)
    (mRet (mAndV (mIsi "int" (mVar 0)) (mAndV (mNotV (mIsi "bool" (mVar 0))) (mOp sEq (mVar 0) (mVar 1))))))))

theorem sIsi_tt {l : List PV} {M : MHp} {Q : MQ} : sIsi "tuple" (.tup l) M Q = Q (.bl true) M := rfl
theorem sIsi_ts {l : Str} {M : MHp} {Q : MQ} : sIsi "tuple" (.str l) M Q = Q (.bl false) M := rfl
theorem sIsi_ss {l : Str} {M : MHp} {Q : MQ} : sIsi "str" (.str l) M Q = Q (.bl true) M := rfl
theorem d_same (d : Nat) : ∀ xs M Q E, sp_same (d + 1) xs M Q E → m__law_same (sp_same d) (endsOf Q E) (startM N__law_same xs) M := by
  rintro _ M Q E ⟨v, rfl, hp, q⟩
  show m__law_same (sp_same d) (endsOf Q E) [some v, some v, none] M
  unfold m__law_same
  refine seq_i fun N1 hN1 => ?_
  cases v with
  | tup l =>
    obtain ⟨hl, hp⟩ := hp
    simp only [mSeq, mAsg, mOp, mUn, mVar, mC, mCB, mCons, mNil, mTup, mLst_n, mB, mTru, mNot, mAnd, mOr, mAndV, mOrV, mNotV, mIf, mIfS, mRet, mRetN, mDrop, mNext, mBreak, mCont, mBM, mBM0, mCall, mFor, mLc, mYes, iSeq, iRng, iRng2, iRevRng, gNameM, gSubM, mAug, mIsi, mSl, mPart, mNoPart, mRaise, getS_0, getS_s, isB_bl, truP_t, truP_b, sIx_t, sIx_o, sIx_r, sIx_s, sAdd_ii, sAdd_ss, sAdd_tt, sAdd_rr, sIAdd_ii, sIAdd_ss, sMul_ii, sMul_si, sI2_ii, sLen_t, sLen_o, sLen_r, sLen_s, sInt_i, sAbs_i, sMin2_i, sMax2_i, sStrI_i, sTupOf_t, sTupOf_r, sLstOf_t, sLstOf_r, sAppend_r, sPop_r, sPopAt_r, sInsert_r, sSet_r, sEq_ii, sEq_ss, sNe_ii, sNe_ss, sIn_ss, sIn_st, sIn_sr, sIs_n, sIsNot_n, isNonP_n, isNonP_t, isNonP_s, isNonP_i, isNonP_r, sNeg_i, sJoin_r, sSl_r, mDict0_n, mDict1_n, gTupM_t, gConsM_c, gNilM_n, seqP_t, seqP_o, seqP_r, withL_upd, upd_upd, dec_if, true_and, and_true, List.set_cons_zero, List.set_cons_succ, atI_0, atI_1, atI_2, ixN_30, ixN_31, ixN_32, ixN_s0, Option.some.injEq, exists_eq_left', exists_eq_left, Bool.not_true, Bool.not_false, if_true, if_false, Bool.false_eq_true, reduceCtorEq, List.length_cons, List.length_nil, endsOf, wipeM, List.map_cons, List.map_nil, ite_true, ite_false, eq_self_iff_true, false_and, Nat.reduceAdd, decide_true, decide_false, sIsi_tt]
    refine ⟨⟨by omega, by omega⟩, ?_⟩
    have e2 : ((l.length : Int)).toNat = l.length := by omega
    rw [e2]
    refine for_rng (fun i μ M' => ∃ k, μ = [some (.tup l), some (.tup l), k] ∧ M' = M) (fun i μ M' L hi h hl' => ?_) (fun μ M' h => ?_) ⟨none, rfl, rfl⟩
    · obtain ⟨k, rfl, rfl⟩ := h
      have a1 := atI_nat (xs := l) (j := i) (List.getElem?_eq_getElem hi)
      simp only [mSeq, mAsg, mOp, mUn, mVar, mC, mCB, mCons, mNil, mTup, mLst_n, mB, mTru, mNot, mAnd, mOr, mAndV, mOrV, mNotV, mIf, mIfS, mRet, mRetN, mDrop, mNext, mBreak, mCont, mBM, mBM0, mCall, mFor, mLc, mYes, iSeq, iRng, iRng2, iRevRng, gNameM, gSubM, mAug, mIsi, mSl, mPart, mNoPart, mRaise, getS_0, getS_s, isB_bl, truP_t, truP_b, sIx_t, sIx_o, sIx_r, sIx_s, sAdd_ii, sAdd_ss, sAdd_tt, sAdd_rr, sIAdd_ii, sIAdd_ss, sMul_ii, sMul_si, sI2_ii, sLen_t, sLen_o, sLen_r, sLen_s, sInt_i, sAbs_i, sMin2_i, sMax2_i, sStrI_i, sTupOf_t, sTupOf_r, sLstOf_t, sLstOf_r, sAppend_r, sPop_r, sPopAt_r, sInsert_r, sSet_r, sEq_ii, sEq_ss, sNe_ii, sNe_ss, sIn_ss, sIn_st, sIn_sr, sIs_n, sIsNot_n, isNonP_n, isNonP_t, isNonP_s, isNonP_i, isNonP_r, sNeg_i, sJoin_r, sSl_r, mDict0_n, mDict1_n, gTupM_t, gConsM_c, gNilM_n, seqP_t, seqP_o, seqP_r, withL_upd, upd_upd, dec_if, true_and, and_true, List.set_cons_zero, List.set_cons_succ, atI_0, atI_1, atI_2, ixN_30, ixN_31, ixN_32, ixN_s0, Option.some.injEq, exists_eq_left', exists_eq_left, Bool.not_true, Bool.not_false, if_true, if_false, Bool.false_eq_true, reduceCtorEq, List.length_cons, List.length_nil, endsOf, wipeM, List.map_cons, List.map_nil, ite_true, ite_false, eq_self_iff_true, false_and, Nat.reduceAdd, decide_true, decide_false]
      refine ⟨_, a1, _, a1, _, rfl, hp _ (List.getElem_mem hi), ?_⟩
      simp only [mSeq, mAsg, mOp, mUn, mVar, mC, mCB, mCons, mNil, mTup, mLst_n, mB, mTru, mNot, mAnd, mOr, mAndV, mOrV, mNotV, mIf, mIfS, mRet, mRetN, mDrop, mNext, mBreak, mCont, mBM, mBM0, mCall, mFor, mLc, mYes, iSeq, iRng, iRng2, iRevRng, gNameM, gSubM, mAug, mIsi, mSl, mPart, mNoPart, mRaise, getS_0, getS_s, isB_bl, truP_t, truP_b, sIx_t, sIx_o, sIx_r, sIx_s, sAdd_ii, sAdd_ss, sAdd_tt, sAdd_rr, sIAdd_ii, sIAdd_ss, sMul_ii, sMul_si, sI2_ii, sLen_t, sLen_o, sLen_r, sLen_s, sInt_i, sAbs_i, sMin2_i, sMax2_i, sStrI_i, sTupOf_t, sTupOf_r, sLstOf_t, sLstOf_r, sAppend_r, sPop_r, sPopAt_r, sInsert_r, sSet_r, sEq_ii, sEq_ss, sNe_ii, sNe_ss, sIn_ss, sIn_st, sIn_sr, sIs_n, sIsNot_n, isNonP_n, isNonP_t, isNonP_s, isNonP_i, isNonP_r, sNeg_i, sJoin_r, sSl_r, mDict0_n, mDict1_n, gTupM_t, gConsM_c, gNilM_n, seqP_t, seqP_o, seqP_r, withL_upd, upd_upd, dec_if, true_and, and_true, List.set_cons_zero, List.set_cons_succ, atI_0, atI_1, atI_2, ixN_30, ixN_31, ixN_32, ixN_s0, Option.some.injEq, exists_eq_left', exists_eq_left, Bool.not_true, Bool.not_false, if_true, if_false, Bool.false_eq_true, reduceCtorEq, List.length_cons, List.length_nil, endsOf, wipeM, List.map_cons, List.map_nil, ite_true, ite_false, eq_self_iff_true, false_and, Nat.reduceAdd, decide_true, decide_false]
      exact hl' _ _ ⟨_, rfl, rfl⟩
    · obtain ⟨k, rfl, rfl⟩ := h
      exact q
  | str s =>
    simp only [mSeq, mAsg, mOp, mUn, mVar, mC, mCB, mCons, mNil, mTup, mLst_n, mB, mTru, mNot, mAnd, mOr, mAndV, mOrV, mNotV, mIf, mIfS, mRet, mRetN, mDrop, mNext, mBreak, mCont, mBM, mBM0, mCall, mFor, mLc, mYes, iSeq, iRng, iRng2, iRevRng, gNameM, gSubM, mAug, mIsi, mSl, mPart, mNoPart, mRaise, getS_0, getS_s, isB_bl, truP_t, truP_b, sIx_t, sIx_o, sIx_r, sIx_s, sAdd_ii, sAdd_ss, sAdd_tt, sAdd_rr, sIAdd_ii, sIAdd_ss, sMul_ii, sMul_si, sI2_ii, sLen_t, sLen_o, sLen_r, sLen_s, sInt_i, sAbs_i, sMin2_i, sMax2_i, sStrI_i, sTupOf_t, sTupOf_r, sLstOf_t, sLstOf_r, sAppend_r, sPop_r, sPopAt_r, sInsert_r, sSet_r, sEq_ii, sEq_ss, sNe_ii, sNe_ss, sIn_ss, sIn_st, sIn_sr, sIs_n, sIsNot_n, isNonP_n, isNonP_t, isNonP_s, isNonP_i, isNonP_r, sNeg_i, sJoin_r, sSl_r, mDict0_n, mDict1_n, gTupM_t, gConsM_c, gNilM_n, seqP_t, seqP_o, seqP_r, withL_upd, upd_upd, dec_if, true_and, and_true, List.set_cons_zero, List.set_cons_succ, atI_0, atI_1, atI_2, ixN_30, ixN_31, ixN_32, ixN_s0, Option.some.injEq, exists_eq_left', exists_eq_left, Bool.not_true, Bool.not_false, if_true, if_false, Bool.false_eq_true, reduceCtorEq, List.length_cons, List.length_nil, endsOf, wipeM, List.map_cons, List.map_nil, ite_true, ite_false, eq_self_iff_true, false_and, Nat.reduceAdd, decide_true, decide_false, sIsi_ts]
    refine hN1 _ _ ?_
    refine seq_i fun N2 hN2 => ?_
    simp only [mSeq, mAsg, mOp, mUn, mVar, mC, mCB, mCons, mNil, mTup, mLst_n, mB, mTru, mNot, mAnd, mOr, mAndV, mOrV, mNotV, mIf, mIfS, mRet, mRetN, mDrop, mNext, mBreak, mCont, mBM, mBM0, mCall, mFor, mLc, mYes, iSeq, iRng, iRng2, iRevRng, gNameM, gSubM, mAug, mIsi, mSl, mPart, mNoPart, mRaise, getS_0, getS_s, isB_bl, truP_t, truP_b, sIx_t, sIx_o, sIx_r, sIx_s, sAdd_ii, sAdd_ss, sAdd_tt, sAdd_rr, sIAdd_ii, sIAdd_ss, sMul_ii, sMul_si, sI2_ii, sLen_t, sLen_o, sLen_r, sLen_s, sInt_i, sAbs_i, sMin2_i, sMax2_i, sStrI_i, sTupOf_t, sTupOf_r, sLstOf_t, sLstOf_r, sAppend_r, sPop_r, sPopAt_r, sInsert_r, sSet_r, sEq_ii, sEq_ss, sNe_ii, sNe_ss, sIn_ss, sIn_st, sIn_sr, sIs_n, sIsNot_n, isNonP_n, isNonP_t, isNonP_s, isNonP_i, isNonP_r, sNeg_i, sJoin_r, sSl_r, mDict0_n, mDict1_n, gTupM_t, gConsM_c, gNilM_n, seqP_t, seqP_o, seqP_r, withL_upd, upd_upd, dec_if, true_and, and_true, List.set_cons_zero, List.set_cons_succ, atI_0, atI_1, atI_2, ixN_30, ixN_31, ixN_32, ixN_s0, Option.some.injEq, exists_eq_left', exists_eq_left, Bool.not_true, Bool.not_false, if_true, if_false, Bool.false_eq_true, reduceCtorEq, List.length_cons, List.length_nil, endsOf, wipeM, List.map_cons, List.map_nil, ite_true, ite_false, eq_self_iff_true, false_and, Nat.reduceAdd, decide_true, decide_false]
    refine hN2 _ _ ?_
    refine seq_i fun N3 hN3 => ?_
    simp only [mSeq, mAsg, mOp, mUn, mVar, mC, mCB, mCons, mNil, mTup, mLst_n, mB, mTru, mNot, mAnd, mOr, mAndV, mOrV, mNotV, mIf, mIfS, mRet, mRetN, mDrop, mNext, mBreak, mCont, mBM, mBM0, mCall, mFor, mLc, mYes, iSeq, iRng, iRng2, iRevRng, gNameM, gSubM, mAug, mIsi, mSl, mPart, mNoPart, mRaise, getS_0, getS_s, isB_bl, truP_t, truP_b, sIx_t, sIx_o, sIx_r, sIx_s, sAdd_ii, sAdd_ss, sAdd_tt, sAdd_rr, sIAdd_ii, sIAdd_ss, sMul_ii, sMul_si, sI2_ii, sLen_t, sLen_o, sLen_r, sLen_s, sInt_i, sAbs_i, sMin2_i, sMax2_i, sStrI_i, sTupOf_t, sTupOf_r, sLstOf_t, sLstOf_r, sAppend_r, sPop_r, sPopAt_r, sInsert_r, sSet_r, sEq_ii, sEq_ss, sNe_ii, sNe_ss, sIn_ss, sIn_st, sIn_sr, sIs_n, sIsNot_n, isNonP_n, isNonP_t, isNonP_s, isNonP_i, isNonP_r, sNeg_i, sJoin_r, sSl_r, mDict0_n, mDict1_n, gTupM_t, gConsM_c, gNilM_n, seqP_t, seqP_o, seqP_r, withL_upd, upd_upd, dec_if, true_and, and_true, List.set_cons_zero, List.set_cons_succ, atI_0, atI_1, atI_2, ixN_30, ixN_31, ixN_32, ixN_s0, Option.some.injEq, exists_eq_left', exists_eq_left, Bool.not_true, Bool.not_false, if_true, if_false, Bool.false_eq_true, reduceCtorEq, List.length_cons, List.length_nil, endsOf, wipeM, List.map_cons, List.map_nil, ite_true, ite_false, eq_self_iff_true, false_and, Nat.reduceAdd, decide_true, decide_false, sIsi_ss]
    exact q
  | _ => exact hp.elim
theorem plain_F : ∀ (F : Fo) (d : Nat), F.cnt ≤ 2000 → 2 * F.dep + 1 ≤ d → plain d (.tup F.pv) := by
  intro F d hc hd
  have key : ∀ (F : Fo) (d : Nat), F.cnt ≤ 2000 → 2 * F.dep ≤ d → ∀ x ∈ F.pv, plain d x := by
    intro F
    induction F with
    | nil => intro d _ _ x hx; cases hx
    | cons n b r hb hr =>
      intro d hc hd x hx
      rw [Fo.cnt] at hc
      rw [Fo.dep] at hd
      rcases List.mem_cons.mp hx with rfl | hx
      · obtain ⟨d, rfl⟩ : ∃ e, d = e + 2 := ⟨d - 2, by omega⟩
        refine ⟨by simp, fun y hy => ?_⟩
        rcases List.mem_cons.mp hy with rfl | hy
        · exact trivial
        · cases List.mem_singleton.mp hy
          have := pv_length b
          exact ⟨by omega, hb d (by omega) (by omega)⟩
      · exact hr d (by omega) (by omega) x hx
  obtain ⟨d, rfl⟩ : ∃ e, d = e + 1 := ⟨d - 1, by omega⟩
  have := pv_length F
  exact ⟨by omega, key F d hc (by omega)⟩

/-! ### tokens: the plain law -/
def low (c : Nat) : Bool := decide (97 ≤ c) && decide (c ≤ 122)
def upp (c : Nat) : Bool := decide (65 ≤ c) && decide (c ≤ 90)
/-- sort and word at a place that is neither blank nor line feed -/
def tokOf : List Nat → Str × Str
  | [] => ("", "")
  | c :: cs => if low c then ("name", mk ((c :: cs).takeWhile wch)) else if upp c then ("Name", mk ((c :: cs).takeWhile wch)) else if c = 40 ∨ c = 41 then (⟨#[c]⟩, ⟨#[c]⟩) else ("bad", ⟨#[c]⟩)
structure Tk where
  s : Str
  w : Str
  l : Nat
  c : Nat
/-- tokens(text, False): code points, line, place in the line -/
def tkz : Nat → List Nat → Nat → Nat → List Tk
  | 0, _, _, _ => []
  | _ + 1, [], l, k => [⟨"", "", l, k + 1⟩]
  | n + 1, c :: cs, l, k => if c = 10 then tkz n cs (l + 1) 0 else if c = 32 then tkz n cs l (k + 1) else
      ⟨(tokOf (c :: cs)).1, (tokOf (c :: cs)).2, l, k + 1⟩ :: if (tokOf (c :: cs)).1 = ("bad" : Str) then [] else tkz n ((c :: cs).drop (tokOf (c :: cs)).2.length) l (k + (tokOf (c :: cs)).2.length)
theorem takeWhile_stop {p : Nat → Bool} : ∀ {w : List Nat} {r : List Nat}, (∀ x ∈ w, p x = true) → (∀ c s, r = c :: s → p c = false) → (w ++ r).takeWhile p = w
  | [], [], _, _ => rfl
  | [], c :: s, _, h => by rw [List.nil_append, List.takeWhile_cons, h c s rfl]; rfl
  | a :: w, r, hw, h => by
    rw [List.cons_append, List.takeWhile_cons, hw a List.mem_cons_self]
    simp [takeWhile_stop (w := w) (fun x m => hw x (List.mem_cons_of_mem _ m)) h]
end K02
end PL
end L2
set_option maxRecDepth 100000
set_option maxHeartbeats 2000000
namespace L2
namespace PL
namespace K02
open PySem PySem.Spec PyProof.Rows K01 F
abbrev WITH : Str := "abcdefghijklmnopqrstuvwxyzABCDEFGHIJKLMNOPQRSTUVWXYZ0123456789_"
theorem dec_mem {l : List Nat} {p : Nat → Bool} (h : ∀ c, c ∈ l ↔ p c = true) (c : Nat) : decide (c ∈ l) = p c := by
  cases hp : p c with
  | true => exact decide_eq_true ((h c).mpr hp)
  | false => exact decide_eq_false fun m => by rw [(h c).mp m] at hp; cases hp
theorem cl_low : cl ("abcdefghijklmnopqrstuvwxyz" : Str) = (List.range 26).map (· + 97) := by decide +kernel
theorem cl_upp : cl ("ABCDEFGHIJKLMNOPQRSTUVWXYZ" : Str) = (List.range 26).map (· + 65) := by decide +kernel
theorem cl_with : cl WITH = (List.range 26).map (· + 97) ++ (List.range 26).map (· + 65) ++ (List.range 10).map (· + 48) ++ [95] := by decide +kernel
theorem rg_iff {n o c : Nat} : c ∈ (List.range n).map (· + o) ↔ o ≤ c ∧ c < o + n := by
  rw [List.mem_map]
  constructor
  · rintro ⟨a, h, rfl⟩; have := List.mem_range.mp h; omega
  · rintro ⟨h1, h2⟩; exact ⟨c - o, List.mem_range.mpr (by omega), by omega⟩
theorem in_low (c : Nat) : strIn ⟨#[c]⟩ ("abcdefghijklmnopqrstuvwxyz" : Str) = low c := by
  rw [strIn_one]
  refine dec_mem (fun c => ?_) c
  show c ∈ cl ("abcdefghijklmnopqrstuvwxyz" : Str) ↔ _
  rw [cl_low, rg_iff]; simp [low]; omega
theorem in_upp (c : Nat) : strIn ⟨#[c]⟩ ("ABCDEFGHIJKLMNOPQRSTUVWXYZ" : Str) = upp c := by
  rw [strIn_one]
  refine dec_mem (fun c => ?_) c
  show c ∈ cl ("ABCDEFGHIJKLMNOPQRSTUVWXYZ" : Str) ↔ _
  rw [cl_upp, rg_iff]; simp [upp]; omega
theorem in_with (c : Nat) : strIn ⟨#[c]⟩ WITH = wch c := by
  rw [strIn_one]
  refine dec_mem (fun c => ?_) c
  show c ∈ cl WITH ↔ _
  rw [cl_with, List.mem_append, List.mem_append, List.mem_append, rg_iff, rg_iff, rg_iff]
  simp [wch]; omega
theorem cl_par : cl ("()" : Str) = [40, 41] := by decide +kernel
theorem in_par (c : Nat) : strIn ⟨#[c]⟩ ("()" : Str) = decide (c = 40 ∨ c = 41) := by
  rw [strIn_one]
  refine dec_of (α := Nat) ?_
  show c ∈ cl ("()" : Str) ↔ _
  rw [cl_par]; simp
theorem one_eq (c : Nat) {s : Str} {k : Nat} (h : cl s = [k]) : decide ((⟨#[c]⟩ : Str) = s) = decide (c = k) := by
  refine dec_of (α := Nat) ?_
  constructor
  · rintro rfl; rw [cl_one] at h; injection h
  · rintro rfl; exact cl_inj (by rw [h, cl_one])
/-! name_end -/
def sp_name_end : MSp := fun xs M Q _ => ∃ (z : Str) (at_ : Nat), xs = [.str z, .int at_] ∧ at_ ≤ (cl z).length ∧ (cl z).length ≤ 16000000 ∧ Q (.int ((at_ + (((cl z).drop at_).takeWhile wch).length : Nat) : Int)) M
/-- name_end: slots 0 text, 1 at, 2 end -/
def N_name_end : List Str := ["text", "at", "end"]
def m_name_end : MS :=
    (mSeq (mAsg (mVar 1) (gNameM 2))
    (mSeq (mWhile (mAnd (mB (mOp sLt (mVar 2) (mCB sLen (mCons (mVar 0) mNil)))) (mB (mOp (sIn false) (mOp sIx (mVar 0) (mVar 2)) (mC (.str "abcdefghijklmnopqrstuvwxyzABCDEFGHIJKLMNOPQRSTUVWXYZ0123456789_")))))
    (mAug 2 sIAdd (mC (.int 1))))
    (mRet (mVar 2))))

theorem d_name_end : ∀ xs M Q E, sp_name_end xs M Q E → m_name_end (endsOf Q E) (startM N_name_end xs) M := by
  rintro _ M Q E ⟨z, at_, rfl, h1, h2, q⟩
  show m_name_end (endsOf Q E) [some (.str z), some (.int at_), none] M
  unfold m_name_end
  refine seq_i fun N1 hN1 => ?_
  simp only [mSeq, mAsg, mOp, mUn, mVar, mC, mCB, mCons, mNil, mTup, mLst_n, mB, mTru, mNot, mAnd, mOr, mAndV, mOrV, mNotV, mIf, mIfS, mRet, mRetN, mDrop, mNext, mBreak, mCont, mBM, mBM0, mCall, mFor, mLc, mYes, iSeq, iRng, iRng2, iRevRng, gNameM, gSubM, mAug, mIsi, mSl, mPart, mNoPart, mRaise, getS_0, getS_s, isB_bl, truP_t, truP_b, sIx_t, sIx_o, sIx_r, sIx_s, sAdd_ii, sAdd_ss, sAdd_tt, sAdd_rr, sIAdd_ii, sIAdd_ss, sMul_ii, sMul_si, sI2_ii, sLen_t, sLen_o, sLen_r, sLen_s, sInt_i, sAbs_i, sMin2_i, sMax2_i, sStrI_i, sTupOf_t, sTupOf_r, sLstOf_t, sLstOf_r, sAppend_r, sPop_r, sPopAt_r, sInsert_r, sSet_r, sEq_ii, sEq_ss, sNe_ii, sNe_ss, sIn_ss, sIn_st, sIn_sr, sIs_n, sIsNot_n, isNonP_n, isNonP_t, isNonP_s, isNonP_i, isNonP_r, sNeg_i, sJoin_r, sSl_r, mDict0_n, mDict1_n, gTupM_t, gConsM_c, gNilM_n, seqP_t, seqP_o, seqP_r, withL_upd, upd_upd, dec_if, true_and, and_true, List.set_cons_zero, List.set_cons_succ, atI_0, atI_1, atI_2, ixN_30, ixN_31, ixN_32, ixN_s0, Option.some.injEq, exists_eq_left', exists_eq_left, Bool.not_true, Bool.not_false, if_true, if_false, Bool.false_eq_true, reduceCtorEq, List.length_cons, List.length_nil, endsOf, wipeM, List.map_cons, List.map_nil, ite_true, ite_false, eq_self_iff_true, false_and, Nat.reduceAdd, decide_true, decide_false]
  refine hN1 _ _ ?_
  clear hN1 N1
  refine seq_i fun N1 hN1 => ?_
  have key : ∀ (n : Nat) (e : Nat), (cl z).length - e ≤ n → e ≤ (cl z).length → e + (((cl z).drop e).takeWhile wch).length = at_ + (((cl z).drop at_).takeWhile wch).length →
      whileN (mAnd (mB (mOp sLt (mVar 2) (mCB sLen (mCons (mVar 0) mNil)))) (mB (mOp (sIn false) (mOp sIx (mVar 0) (mVar 2)) (mC (.str WITH))))) (mAug 2 sIAdd (mC (.int 1))) { endsOf Q E with nx := N1 } (n + 1) [some (.str z), some (.int at_), some (.int e)] M := by
    intro n
    induction n with
    | zero =>
      intro e hn he hk
      have : e = (cl z).length := by omega
      unfold whileN
      simp only [mSeq, mAsg, mOp, mUn, mVar, mC, mCB, mCons, mNil, mTup, mLst_n, mB, mTru, mNot, mAnd, mOr, mAndV, mOrV, mNotV, mIf, mIfS, mRet, mRetN, mDrop, mNext, mBreak, mCont, mBM, mBM0, mCall, mFor, mLc, mYes, iSeq, iRng, iRng2, iRevRng, gNameM, gSubM, mAug, mIsi, mSl, mPart, mNoPart, mRaise, getS_0, getS_s, isB_bl, truP_t, truP_b, sIx_t, sIx_o, sIx_r, sIx_s, sAdd_ii, sAdd_ss, sAdd_tt, sAdd_rr, sIAdd_ii, sIAdd_ss, sMul_ii, sMul_si, sI2_ii, sLen_t, sLen_o, sLen_r, sLen_s, sInt_i, sAbs_i, sMin2_i, sMax2_i, sStrI_i, sTupOf_t, sTupOf_r, sLstOf_t, sLstOf_r, sAppend_r, sPop_r, sPopAt_r, sInsert_r, sSet_r, sEq_ii, sEq_ss, sNe_ii, sNe_ss, sIn_ss, sIn_st, sIn_sr, sIs_n, sIsNot_n, isNonP_n, isNonP_t, isNonP_s, isNonP_i, isNonP_r, sNeg_i, sJoin_r, sSl_r, mDict0_n, mDict1_n, gTupM_t, gConsM_c, gNilM_n, seqP_t, seqP_o, seqP_r, withL_upd, upd_upd, dec_if, true_and, and_true, List.set_cons_zero, List.set_cons_succ, atI_0, atI_1, atI_2, ixN_30, ixN_31, ixN_32, ixN_s0, Option.some.injEq, exists_eq_left', exists_eq_left, Bool.not_true, Bool.not_false, if_true, if_false, Bool.false_eq_true, reduceCtorEq, List.length_cons, List.length_nil, endsOf, wipeM, List.map_cons, List.map_nil, ite_true, ite_false, eq_self_iff_true, false_and, Nat.reduceAdd, decide_true, decide_false]
      rw [len_cl z]
      refine ⟨by rw [sz24]; omega, ?_⟩
      rw [if_neg (by omega)]
      refine hN1 _ _ ?_
      simp only [mSeq, mAsg, mOp, mUn, mVar, mC, mCB, mCons, mNil, mTup, mLst_n, mB, mTru, mNot, mAnd, mOr, mAndV, mOrV, mNotV, mIf, mIfS, mRet, mRetN, mDrop, mNext, mBreak, mCont, mBM, mBM0, mCall, mFor, mLc, mYes, iSeq, iRng, iRng2, iRevRng, gNameM, gSubM, mAug, mIsi, mSl, mPart, mNoPart, mRaise, getS_0, getS_s, isB_bl, truP_t, truP_b, sIx_t, sIx_o, sIx_r, sIx_s, sAdd_ii, sAdd_ss, sAdd_tt, sAdd_rr, sIAdd_ii, sIAdd_ss, sMul_ii, sMul_si, sI2_ii, sLen_t, sLen_o, sLen_r, sLen_s, sInt_i, sAbs_i, sMin2_i, sMax2_i, sStrI_i, sTupOf_t, sTupOf_r, sLstOf_t, sLstOf_r, sAppend_r, sPop_r, sPopAt_r, sInsert_r, sSet_r, sEq_ii, sEq_ss, sNe_ii, sNe_ss, sIn_ss, sIn_st, sIn_sr, sIs_n, sIsNot_n, isNonP_n, isNonP_t, isNonP_s, isNonP_i, isNonP_r, sNeg_i, sJoin_r, sSl_r, mDict0_n, mDict1_n, gTupM_t, gConsM_c, gNilM_n, seqP_t, seqP_o, seqP_r, withL_upd, upd_upd, dec_if, true_and, and_true, List.set_cons_zero, List.set_cons_succ, atI_0, atI_1, atI_2, ixN_30, ixN_31, ixN_32, ixN_s0, Option.some.injEq, exists_eq_left', exists_eq_left, Bool.not_true, Bool.not_false, if_true, if_false, Bool.false_eq_true, reduceCtorEq, List.length_cons, List.length_nil, endsOf, wipeM, List.map_cons, List.map_nil, ite_true, ite_false, eq_self_iff_true, false_and, Nat.reduceAdd, decide_true, decide_false]
      rw [this, List.drop_length] at hk
      simp only [List.takeWhile_nil, List.length_nil, Nat.add_zero] at hk
      rw [← hk] at q
      rw [this]; exact q
    | succ n ih =>
      intro e hn he hk
      unfold whileN
      simp only [mSeq, mAsg, mOp, mUn, mVar, mC, mCB, mCons, mNil, mTup, mLst_n, mB, mTru, mNot, mAnd, mOr, mAndV, mOrV, mNotV, mIf, mIfS, mRet, mRetN, mDrop, mNext, mBreak, mCont, mBM, mBM0, mCall, mFor, mLc, mYes, iSeq, iRng, iRng2, iRevRng, gNameM, gSubM, mAug, mIsi, mSl, mPart, mNoPart, mRaise, getS_0, getS_s, isB_bl, truP_t, truP_b, sIx_t, sIx_o, sIx_r, sIx_s, sAdd_ii, sAdd_ss, sAdd_tt, sAdd_rr, sIAdd_ii, sIAdd_ss, sMul_ii, sMul_si, sI2_ii, sLen_t, sLen_o, sLen_r, sLen_s, sInt_i, sAbs_i, sMin2_i, sMax2_i, sStrI_i, sTupOf_t, sTupOf_r, sLstOf_t, sLstOf_r, sAppend_r, sPop_r, sPopAt_r, sInsert_r, sSet_r, sEq_ii, sEq_ss, sNe_ii, sNe_ss, sIn_ss, sIn_st, sIn_sr, sIs_n, sIsNot_n, isNonP_n, isNonP_t, isNonP_s, isNonP_i, isNonP_r, sNeg_i, sJoin_r, sSl_r, mDict0_n, mDict1_n, gTupM_t, gConsM_c, gNilM_n, seqP_t, seqP_o, seqP_r, withL_upd, upd_upd, dec_if, true_and, and_true, List.set_cons_zero, List.set_cons_succ, atI_0, atI_1, atI_2, ixN_30, ixN_31, ixN_32, ixN_s0, Option.some.injEq, exists_eq_left', exists_eq_left, Bool.not_true, Bool.not_false, if_true, if_false, Bool.false_eq_true, reduceCtorEq, List.length_cons, List.length_nil, endsOf, wipeM, List.map_cons, List.map_nil, ite_true, ite_false, eq_self_iff_true, false_and, Nat.reduceAdd, decide_true, decide_false]
      rw [len_cl z]
      refine ⟨by rw [sz24]; omega, ?_⟩
      by_cases hlt : e < (cl z).length
      · rw [if_pos (by omega)]
        refine ⟨by rw [sz24]; omega, (cl z)[e], atI_nat (List.getElem?_eq_getElem hlt), ?_⟩
        rw [in_with]
        rw [List.drop_eq_getElem_cons hlt, List.takeWhile_cons] at hk
        cases hw : wch (cl z)[e] with
        | true =>
          rw [hw] at hk
          simp only [mSeq, mAsg, mOp, mUn, mVar, mC, mCB, mCons, mNil, mTup, mLst_n, mB, mTru, mNot, mAnd, mOr, mAndV, mOrV, mNotV, mIf, mIfS, mRet, mRetN, mDrop, mNext, mBreak, mCont, mBM, mBM0, mCall, mFor, mLc, mYes, iSeq, iRng, iRng2, iRevRng, gNameM, gSubM, mAug, mIsi, mSl, mPart, mNoPart, mRaise, getS_0, getS_s, isB_bl, truP_t, truP_b, sIx_t, sIx_o, sIx_r, sIx_s, sAdd_ii, sAdd_ss, sAdd_tt, sAdd_rr, sIAdd_ii, sIAdd_ss, sMul_ii, sMul_si, sI2_ii, sLen_t, sLen_o, sLen_r, sLen_s, sInt_i, sAbs_i, sMin2_i, sMax2_i, sStrI_i, sTupOf_t, sTupOf_r, sLstOf_t, sLstOf_r, sAppend_r, sPop_r, sPopAt_r, sInsert_r, sSet_r, sEq_ii, sEq_ss, sNe_ii, sNe_ss, sIn_ss, sIn_st, sIn_sr, sIs_n, sIsNot_n, isNonP_n, isNonP_t, isNonP_s, isNonP_i, isNonP_r, sNeg_i, sJoin_r, sSl_r, mDict0_n, mDict1_n, gTupM_t, gConsM_c, gNilM_n, seqP_t, seqP_o, seqP_r, withL_upd, upd_upd, dec_if, true_and, and_true, List.set_cons_zero, List.set_cons_succ, atI_0, atI_1, atI_2, ixN_30, ixN_31, ixN_32, ixN_s0, Option.some.injEq, exists_eq_left', exists_eq_left, Bool.not_true, Bool.not_false, if_true, if_false, Bool.false_eq_true, reduceCtorEq, List.length_cons, List.length_nil, endsOf, wipeM, List.map_cons, List.map_nil, ite_true, ite_false, eq_self_iff_true, false_and, Nat.reduceAdd, decide_true, decide_false] at hk
          try simp only [mSeq, mAsg, mOp, mUn, mVar, mC, mCB, mCons, mNil, mTup, mLst_n, mB, mTru, mNot, mAnd, mOr, mAndV, mOrV, mNotV, mIf, mIfS, mRet, mRetN, mDrop, mNext, mBreak, mCont, mBM, mBM0, mCall, mFor, mLc, mYes, iSeq, iRng, iRng2, iRevRng, gNameM, gSubM, mAug, mIsi, mSl, mPart, mNoPart, mRaise, getS_0, getS_s, isB_bl, truP_t, truP_b, sIx_t, sIx_o, sIx_r, sIx_s, sAdd_ii, sAdd_ss, sAdd_tt, sAdd_rr, sIAdd_ii, sIAdd_ss, sMul_ii, sMul_si, sI2_ii, sLen_t, sLen_o, sLen_r, sLen_s, sInt_i, sAbs_i, sMin2_i, sMax2_i, sStrI_i, sTupOf_t, sTupOf_r, sLstOf_t, sLstOf_r, sAppend_r, sPop_r, sPopAt_r, sInsert_r, sSet_r, sEq_ii, sEq_ss, sNe_ii, sNe_ss, sIn_ss, sIn_st, sIn_sr, sIs_n, sIsNot_n, isNonP_n, isNonP_t, isNonP_s, isNonP_i, isNonP_r, sNeg_i, sJoin_r, sSl_r, mDict0_n, mDict1_n, gTupM_t, gConsM_c, gNilM_n, seqP_t, seqP_o, seqP_r, withL_upd, upd_upd, dec_if, true_and, and_true, List.set_cons_zero, List.set_cons_succ, atI_0, atI_1, atI_2, ixN_30, ixN_31, ixN_32, ixN_s0, Option.some.injEq, exists_eq_left', exists_eq_left, Bool.not_true, Bool.not_false, if_true, if_false, Bool.false_eq_true, reduceCtorEq, List.length_cons, List.length_nil, endsOf, wipeM, List.map_cons, List.map_nil, ite_true, ite_false, eq_self_iff_true, false_and, Nat.reduceAdd, decide_true, decide_false]
          have := ih (e + 1) (by omega) hlt (by omega)
          exact this
        | false =>
          rw [hw] at hk
          simp only [mSeq, mAsg, mOp, mUn, mVar, mC, mCB, mCons, mNil, mTup, mLst_n, mB, mTru, mNot, mAnd, mOr, mAndV, mOrV, mNotV, mIf, mIfS, mRet, mRetN, mDrop, mNext, mBreak, mCont, mBM, mBM0, mCall, mFor, mLc, mYes, iSeq, iRng, iRng2, iRevRng, gNameM, gSubM, mAug, mIsi, mSl, mPart, mNoPart, mRaise, getS_0, getS_s, isB_bl, truP_t, truP_b, sIx_t, sIx_o, sIx_r, sIx_s, sAdd_ii, sAdd_ss, sAdd_tt, sAdd_rr, sIAdd_ii, sIAdd_ss, sMul_ii, sMul_si, sI2_ii, sLen_t, sLen_o, sLen_r, sLen_s, sInt_i, sAbs_i, sMin2_i, sMax2_i, sStrI_i, sTupOf_t, sTupOf_r, sLstOf_t, sLstOf_r, sAppend_r, sPop_r, sPopAt_r, sInsert_r, sSet_r, sEq_ii, sEq_ss, sNe_ii, sNe_ss, sIn_ss, sIn_st, sIn_sr, sIs_n, sIsNot_n, isNonP_n, isNonP_t, isNonP_s, isNonP_i, isNonP_r, sNeg_i, sJoin_r, sSl_r, mDict0_n, mDict1_n, gTupM_t, gConsM_c, gNilM_n, seqP_t, seqP_o, seqP_r, withL_upd, upd_upd, dec_if, true_and, and_true, List.set_cons_zero, List.set_cons_succ, atI_0, atI_1, atI_2, ixN_30, ixN_31, ixN_32, ixN_s0, Option.some.injEq, exists_eq_left', exists_eq_left, Bool.not_true, Bool.not_false, if_true, if_false, Bool.false_eq_true, reduceCtorEq, List.length_cons, List.length_nil, endsOf, wipeM, List.map_cons, List.map_nil, ite_true, ite_false, eq_self_iff_true, false_and, Nat.reduceAdd, decide_true, decide_false] at hk
          try simp only [mSeq, mAsg, mOp, mUn, mVar, mC, mCB, mCons, mNil, mTup, mLst_n, mB, mTru, mNot, mAnd, mOr, mAndV, mOrV, mNotV, mIf, mIfS, mRet, mRetN, mDrop, mNext, mBreak, mCont, mBM, mBM0, mCall, mFor, mLc, mYes, iSeq, iRng, iRng2, iRevRng, gNameM, gSubM, mAug, mIsi, mSl, mPart, mNoPart, mRaise, getS_0, getS_s, isB_bl, truP_t, truP_b, sIx_t, sIx_o, sIx_r, sIx_s, sAdd_ii, sAdd_ss, sAdd_tt, sAdd_rr, sIAdd_ii, sIAdd_ss, sMul_ii, sMul_si, sI2_ii, sLen_t, sLen_o, sLen_r, sLen_s, sInt_i, sAbs_i, sMin2_i, sMax2_i, sStrI_i, sTupOf_t, sTupOf_r, sLstOf_t, sLstOf_r, sAppend_r, sPop_r, sPopAt_r, sInsert_r, sSet_r, sEq_ii, sEq_ss, sNe_ii, sNe_ss, sIn_ss, sIn_st, sIn_sr, sIs_n, sIsNot_n, isNonP_n, isNonP_t, isNonP_s, isNonP_i, isNonP_r, sNeg_i, sJoin_r, sSl_r, mDict0_n, mDict1_n, gTupM_t, gConsM_c, gNilM_n, seqP_t, seqP_o, seqP_r, withL_upd, upd_upd, dec_if, true_and, and_true, List.set_cons_zero, List.set_cons_succ, atI_0, atI_1, atI_2, ixN_30, ixN_31, ixN_32, ixN_s0, Option.some.injEq, exists_eq_left', exists_eq_left, Bool.not_true, Bool.not_false, if_true, if_false, Bool.false_eq_true, reduceCtorEq, List.length_cons, List.length_nil, endsOf, wipeM, List.map_cons, List.map_nil, ite_true, ite_false, eq_self_iff_true, false_and, Nat.reduceAdd, decide_true, decide_false]
          refine hN1 _ _ ?_
          simp only [mSeq, mAsg, mOp, mUn, mVar, mC, mCB, mCons, mNil, mTup, mLst_n, mB, mTru, mNot, mAnd, mOr, mAndV, mOrV, mNotV, mIf, mIfS, mRet, mRetN, mDrop, mNext, mBreak, mCont, mBM, mBM0, mCall, mFor, mLc, mYes, iSeq, iRng, iRng2, iRevRng, gNameM, gSubM, mAug, mIsi, mSl, mPart, mNoPart, mRaise, getS_0, getS_s, isB_bl, truP_t, truP_b, sIx_t, sIx_o, sIx_r, sIx_s, sAdd_ii, sAdd_ss, sAdd_tt, sAdd_rr, sIAdd_ii, sIAdd_ss, sMul_ii, sMul_si, sI2_ii, sLen_t, sLen_o, sLen_r, sLen_s, sInt_i, sAbs_i, sMin2_i, sMax2_i, sStrI_i, sTupOf_t, sTupOf_r, sLstOf_t, sLstOf_r, sAppend_r, sPop_r, sPopAt_r, sInsert_r, sSet_r, sEq_ii, sEq_ss, sNe_ii, sNe_ss, sIn_ss, sIn_st, sIn_sr, sIs_n, sIsNot_n, isNonP_n, isNonP_t, isNonP_s, isNonP_i, isNonP_r, sNeg_i, sJoin_r, sSl_r, mDict0_n, mDict1_n, gTupM_t, gConsM_c, gNilM_n, seqP_t, seqP_o, seqP_r, withL_upd, upd_upd, dec_if, true_and, and_true, List.set_cons_zero, List.set_cons_succ, atI_0, atI_1, atI_2, ixN_30, ixN_31, ixN_32, ixN_s0, Option.some.injEq, exists_eq_left', exists_eq_left, Bool.not_true, Bool.not_false, if_true, if_false, Bool.false_eq_true, reduceCtorEq, List.length_cons, List.length_nil, endsOf, wipeM, List.map_cons, List.map_nil, ite_true, ite_false, eq_self_iff_true, false_and, Nat.reduceAdd, decide_true, decide_false]
          rw [← hk] at q
          exact q
      · rw [if_neg (by omega)]
        have : e = (cl z).length := by omega
        refine hN1 _ _ ?_
        simp only [mSeq, mAsg, mOp, mUn, mVar, mC, mCB, mCons, mNil, mTup, mLst_n, mB, mTru, mNot, mAnd, mOr, mAndV, mOrV, mNotV, mIf, mIfS, mRet, mRetN, mDrop, mNext, mBreak, mCont, mBM, mBM0, mCall, mFor, mLc, mYes, iSeq, iRng, iRng2, iRevRng, gNameM, gSubM, mAug, mIsi, mSl, mPart, mNoPart, mRaise, getS_0, getS_s, isB_bl, truP_t, truP_b, sIx_t, sIx_o, sIx_r, sIx_s, sAdd_ii, sAdd_ss, sAdd_tt, sAdd_rr, sIAdd_ii, sIAdd_ss, sMul_ii, sMul_si, sI2_ii, sLen_t, sLen_o, sLen_r, sLen_s, sInt_i, sAbs_i, sMin2_i, sMax2_i, sStrI_i, sTupOf_t, sTupOf_r, sLstOf_t, sLstOf_r, sAppend_r, sPop_r, sPopAt_r, sInsert_r, sSet_r, sEq_ii, sEq_ss, sNe_ii, sNe_ss, sIn_ss, sIn_st, sIn_sr, sIs_n, sIsNot_n, isNonP_n, isNonP_t, isNonP_s, isNonP_i, isNonP_r, sNeg_i, sJoin_r, sSl_r, mDict0_n, mDict1_n, gTupM_t, gConsM_c, gNilM_n, seqP_t, seqP_o, seqP_r, withL_upd, upd_upd, dec_if, true_and, and_true, List.set_cons_zero, List.set_cons_succ, atI_0, atI_1, atI_2, ixN_30, ixN_31, ixN_32, ixN_s0, Option.some.injEq, exists_eq_left', exists_eq_left, Bool.not_true, Bool.not_false, if_true, if_false, Bool.false_eq_true, reduceCtorEq, List.length_cons, List.length_nil, endsOf, wipeM, List.map_cons, List.map_nil, ite_true, ite_false, eq_self_iff_true, false_and, Nat.reduceAdd, decide_true, decide_false]
        rw [this, List.drop_length] at hk
        simp only [List.takeWhile_nil, List.length_nil, Nat.add_zero] at hk
        rw [← hk] at q
        rw [this]; exact q
  exact ⟨_, key ((cl z).length - at_) at_ (Nat.le_refl _) h1 rfl⟩
/-! token_at -/
def sp_token_at : MSp := fun xs M Q _ => ∃ (z : Str) (at_ : Nat), xs = [.str z, .int at_, .bl false] ∧ at_ < (cl z).length ∧ (cl z).length ≤ 16000000 ∧ Q (.tup [.str (tokOf ((cl z).drop at_)).1, .str (tokOf ((cl z).drop at_)).2]) M
/-- token_at: slots 0 text, 1 at, 2 project, 3 sign, 4 word -/
def N_token_at : List Str := ["text", "at", "project", "sign", "word"]
def m_token_at : MS :=
    (mSeq (mAsg (mOp sIx (mVar 0) (mVar 1)) (gNameM 3))
    (mSeq (mIfS (mOr (mB (mOp (sIn false) (mVar 3) (mC (.str "abcdefghijklmnopqrstuvwxyz")))) (mB (mOp (sIn false) (mVar 3) (mC (.str "ABCDEFGHIJKLMNOPQRSTUVWXYZ"))))) (mSeq (mAsg (mSl (mVar 0) (mPart (mVar 1)) (mPart (mCall sp_name_end (mCons (mVar 0) (mCons (mVar 1) mNil))))) (gNameM 4))
    (mSeq (mIfS (mAnd (mTru (mVar 2)) (mB (mOp (sIn false) (mVar 4) mNeverE))) (mRet (mTup (mCons (mVar 4) (mCons (mVar 4) mNil)))) mNext)
    (mRet (mTup (mCons (mIf (mB (mOp (sIn false) (mVar 3) (mC (.str "abcdefghijklmnopqrstuvwxyz")))) (mC (.str "name")) (mC (.str "Name"))) (mCons (mVar 4) mNil)))))) mNext)
    (mSeq (mIfS (mAnd (mTru (mVar 2)) (mB (mOp sEq (mSl (mVar 0) (mPart (mVar 1)) (mPart (mOp sAdd (mVar 1) (mC (.int 2))))) (mC (.str "=>"))))) (mRet (mTup (mCons (mC (.str "=>")) (mCons (mC (.str "=>")) mNil)))) mNext)
    (mSeq (mIfS (mB (mOp (sIn false) (mVar 3) (mIf (mTru (mVar 2)) (mC (.str "=;,()|*+?")) (mC (.str "()"))))) (mRet (mTup (mCons (mVar 3) (mCons (mVar 3) mNil)))) mNext)
    (mRet (mTup (mCons (mC (.str "bad")) (mCons (mVar 3) mNil))))))))

theorem cut_mk {z : Str} {a n : Nat} (h : a + n ≤ (cl z).length) : cutS z (some (a : Int)) (some ((a + n : Nat) : Int)) = mk (((cl z).drop a).take n) := by
  unfold cutS mk
  rw [HT.sIx_nat, HT.sIx_nat, len_cl]
  have e1 : min a (cl z).length = a := by omega
  have e2 : min (a + n) (cl z).length = a + n := by omega
  have e3 : a + n - a = n := by omega
  rw [e1, e2, e3]
theorem take_tw {p : Nat → Bool} : ∀ l : List Nat, l.take (l.takeWhile p).length = l.takeWhile p
  | [] => rfl
  | a :: l => by
    rw [List.takeWhile_cons]
    split
    · rw [List.length_cons, List.take_succ_cons, take_tw l]
    · rfl
theorem sSl_s {z : Str} {lo hi : Option Int} {M : MHp} {Q : MQ} : sSl (.str z) lo hi M Q = (z.length ≤ sizeLine ∧ Q (.str (cutS z lo hi)) M) := rfl
theorem tw_len {p : Nat → Bool} : ∀ l : List Nat, (l.takeWhile p).length ≤ l.length
  | [] => Nat.le_refl _
  | a :: l => by
    rw [List.takeWhile_cons]
    split
    · have := tw_len (p := p) l; simp only [List.length_cons]; omega
    · simp
theorem tokOf_cons {c : Nat} {cs : List Nat} : tokOf (c :: cs) = if low c then (("name" : Str), mk ((c :: cs).takeWhile wch)) else if upp c then (("Name" : Str), mk ((c :: cs).takeWhile wch)) else if c = 40 ∨ c = 41 then ((⟨#[c]⟩ : Str), (⟨#[c]⟩ : Str)) else (("bad" : Str), (⟨#[c]⟩ : Str)) := rfl
theorem d_token_at : ∀ xs M Q E, sp_token_at xs M Q E → m_token_at (endsOf Q E) (startM N_token_at xs) M := by
  rintro _ M Q E ⟨z, at_, rfl, h1, h2, q⟩
  show m_token_at (endsOf Q E) [some (.str z), some (.int at_), some (.bl false), none, none] M
  have hd : (cl z).drop at_ = (cl z)[at_] :: (cl z).drop (at_ + 1) := List.drop_eq_getElem_cons h1
  have hat : atI z.cps.toList (at_ : Int) = some (cl z)[at_] := atI_nat (List.getElem?_eq_getElem h1)
  have tl := tw_len (p := wch) ((cl z).drop at_)
  rw [List.length_drop] at tl
  have cut := cut_mk (z := z) (a := at_) (n := (((cl z).drop at_).takeWhile wch).length) (by omega)
  rw [take_tw] at cut
  unfold m_token_at
  refine seq_i fun N1 hN1 => ?_
  simp only [mSeq, mAsg, mOp, mUn, mVar, mC, mCB, mCons, mNil, mTup, mLst_n, mB, mTru, mNot, mAnd, mOr, mAndV, mOrV, mNotV, mIf, mIfS, mRet, mRetN, mDrop, mNext, mBreak, mCont, mBM, mBM0, mCall, mFor, mLc, mYes, iSeq, iRng, iRng2, iRevRng, gNameM, gSubM, mAug, mIsi, mSl, mPart, mNoPart, mRaise, getS_0, getS_s, isB_bl, truP_t, truP_b, sIx_t, sIx_o, sIx_r, sIx_s, sAdd_ii, sAdd_ss, sAdd_tt, sAdd_rr, sIAdd_ii, sIAdd_ss, sMul_ii, sMul_si, sI2_ii, sLen_t, sLen_o, sLen_r, sLen_s, sInt_i, sAbs_i, sMin2_i, sMax2_i, sStrI_i, sTupOf_t, sTupOf_r, sLstOf_t, sLstOf_r, sAppend_r, sPop_r, sPopAt_r, sInsert_r, sSet_r, sEq_ii, sEq_ss, sNe_ii, sNe_ss, sIn_ss, sIn_st, sIn_sr, sIs_n, sIsNot_n, isNonP_n, isNonP_t, isNonP_s, isNonP_i, isNonP_r, sNeg_i, sJoin_r, sSl_r, mDict0_n, mDict1_n, gTupM_t, gConsM_c, gNilM_n, seqP_t, seqP_o, seqP_r, withL_upd, upd_upd, dec_if, true_and, and_true, List.set_cons_zero, List.set_cons_succ, atI_0, atI_1, atI_2, ixN_30, ixN_31, ixN_32, ixN_s0, Option.some.injEq, exists_eq_left', exists_eq_left, Bool.not_true, Bool.not_false, if_true, if_false, Bool.false_eq_true, reduceCtorEq, List.length_cons, List.length_nil, endsOf, wipeM, List.map_cons, List.map_nil, ite_true, ite_false, eq_self_iff_true, false_and, Nat.reduceAdd, decide_true, decide_false]
  refine ⟨by rw [len_cl, sz24]; omega, (cl z)[at_], hat, hN1 _ _ ?_⟩
  clear hN1 N1
  have q' := q
  rw [hd, tokOf_cons, ← hd] at q'
  clear q
  generalize (cl z)[at_] = c at q'
  refine seq_i fun N1 hN1 => ?_
  simp only [mSeq, mAsg, mOp, mUn, mVar, mC, mCB, mCons, mNil, mTup, mLst_n, mB, mTru, mNot, mAnd, mOr, mAndV, mOrV, mNotV, mIf, mIfS, mRet, mRetN, mDrop, mNext, mBreak, mCont, mBM, mBM0, mCall, mFor, mLc, mYes, iSeq, iRng, iRng2, iRevRng, gNameM, gSubM, mAug, mIsi, mSl, mPart, mNoPart, mRaise, getS_0, getS_s, isB_bl, truP_t, truP_b, sIx_t, sIx_o, sIx_r, sIx_s, sAdd_ii, sAdd_ss, sAdd_tt, sAdd_rr, sIAdd_ii, sIAdd_ss, sMul_ii, sMul_si, sI2_ii, sLen_t, sLen_o, sLen_r, sLen_s, sInt_i, sAbs_i, sMin2_i, sMax2_i, sStrI_i, sTupOf_t, sTupOf_r, sLstOf_t, sLstOf_r, sAppend_r, sPop_r, sPopAt_r, sInsert_r, sSet_r, sEq_ii, sEq_ss, sNe_ii, sNe_ss, sIn_ss, sIn_st, sIn_sr, sIs_n, sIsNot_n, isNonP_n, isNonP_t, isNonP_s, isNonP_i, isNonP_r, sNeg_i, sJoin_r, sSl_r, mDict0_n, mDict1_n, gTupM_t, gConsM_c, gNilM_n, seqP_t, seqP_o, seqP_r, withL_upd, upd_upd, dec_if, true_and, and_true, List.set_cons_zero, List.set_cons_succ, atI_0, atI_1, atI_2, ixN_30, ixN_31, ixN_32, ixN_s0, Option.some.injEq, exists_eq_left', exists_eq_left, Bool.not_true, Bool.not_false, if_true, if_false, Bool.false_eq_true, reduceCtorEq, List.length_cons, List.length_nil, endsOf, wipeM, List.map_cons, List.map_nil, ite_true, ite_false, eq_self_iff_true, false_and, Nat.reduceAdd, decide_true, decide_false, in_low, in_upp]
  cases hl : low c with
  | true =>
    rw [hl] at q'
    simp only [mSeq, mAsg, mOp, mUn, mVar, mC, mCB, mCons, mNil, mTup, mLst_n, mB, mTru, mNot, mAnd, mOr, mAndV, mOrV, mNotV, mIf, mIfS, mRet, mRetN, mDrop, mNext, mBreak, mCont, mBM, mBM0, mCall, mFor, mLc, mYes, iSeq, iRng, iRng2, iRevRng, gNameM, gSubM, mAug, mIsi, mSl, mPart, mNoPart, mRaise, getS_0, getS_s, isB_bl, truP_t, truP_b, sIx_t, sIx_o, sIx_r, sIx_s, sAdd_ii, sAdd_ss, sAdd_tt, sAdd_rr, sIAdd_ii, sIAdd_ss, sMul_ii, sMul_si, sI2_ii, sLen_t, sLen_o, sLen_r, sLen_s, sInt_i, sAbs_i, sMin2_i, sMax2_i, sStrI_i, sTupOf_t, sTupOf_r, sLstOf_t, sLstOf_r, sAppend_r, sPop_r, sPopAt_r, sInsert_r, sSet_r, sEq_ii, sEq_ss, sNe_ii, sNe_ss, sIn_ss, sIn_st, sIn_sr, sIs_n, sIsNot_n, isNonP_n, isNonP_t, isNonP_s, isNonP_i, isNonP_r, sNeg_i, sJoin_r, sSl_r, mDict0_n, mDict1_n, gTupM_t, gConsM_c, gNilM_n, seqP_t, seqP_o, seqP_r, withL_upd, upd_upd, dec_if, true_and, and_true, List.set_cons_zero, List.set_cons_succ, atI_0, atI_1, atI_2, ixN_30, ixN_31, ixN_32, ixN_s0, Option.some.injEq, exists_eq_left', exists_eq_left, Bool.not_true, Bool.not_false, if_true, if_false, Bool.false_eq_true, reduceCtorEq, List.length_cons, List.length_nil, endsOf, wipeM, List.map_cons, List.map_nil, ite_true, ite_false, eq_self_iff_true, false_and, Nat.reduceAdd, decide_true, decide_false] at q' ⊢
    refine ⟨z, at_, rfl, by omega, h2, ?_⟩
    simp only [mSeq, mAsg, mOp, mUn, mVar, mC, mCB, mCons, mNil, mTup, mLst_n, mB, mTru, mNot, mAnd, mOr, mAndV, mOrV, mNotV, mIf, mIfS, mRet, mRetN, mDrop, mNext, mBreak, mCont, mBM, mBM0, mCall, mFor, mLc, mYes, iSeq, iRng, iRng2, iRevRng, gNameM, gSubM, mAug, mIsi, mSl, mPart, mNoPart, mRaise, getS_0, getS_s, isB_bl, truP_t, truP_b, sIx_t, sIx_o, sIx_r, sIx_s, sAdd_ii, sAdd_ss, sAdd_tt, sAdd_rr, sIAdd_ii, sIAdd_ss, sMul_ii, sMul_si, sI2_ii, sLen_t, sLen_o, sLen_r, sLen_s, sInt_i, sAbs_i, sMin2_i, sMax2_i, sStrI_i, sTupOf_t, sTupOf_r, sLstOf_t, sLstOf_r, sAppend_r, sPop_r, sPopAt_r, sInsert_r, sSet_r, sEq_ii, sEq_ss, sNe_ii, sNe_ss, sIn_ss, sIn_st, sIn_sr, sIs_n, sIsNot_n, isNonP_n, isNonP_t, isNonP_s, isNonP_i, isNonP_r, sNeg_i, sJoin_r, sSl_r, mDict0_n, mDict1_n, gTupM_t, gConsM_c, gNilM_n, seqP_t, seqP_o, seqP_r, withL_upd, upd_upd, dec_if, true_and, and_true, List.set_cons_zero, List.set_cons_succ, atI_0, atI_1, atI_2, ixN_30, ixN_31, ixN_32, ixN_s0, Option.some.injEq, exists_eq_left', exists_eq_left, Bool.not_true, Bool.not_false, if_true, if_false, Bool.false_eq_true, reduceCtorEq, List.length_cons, List.length_nil, endsOf, wipeM, List.map_cons, List.map_nil, ite_true, ite_false, eq_self_iff_true, false_and, Nat.reduceAdd, decide_true, decide_false, sSl_s, in_low, hl]
    refine ⟨by rw [len_cl, sz24]; omega, by decide, ?_⟩
    rw [cut]; exact q'
  | false =>
    rw [hl] at q'
    simp only [mSeq, mAsg, mOp, mUn, mVar, mC, mCB, mCons, mNil, mTup, mLst_n, mB, mTru, mNot, mAnd, mOr, mAndV, mOrV, mNotV, mIf, mIfS, mRet, mRetN, mDrop, mNext, mBreak, mCont, mBM, mBM0, mCall, mFor, mLc, mYes, iSeq, iRng, iRng2, iRevRng, gNameM, gSubM, mAug, mIsi, mSl, mPart, mNoPart, mRaise, getS_0, getS_s, isB_bl, truP_t, truP_b, sIx_t, sIx_o, sIx_r, sIx_s, sAdd_ii, sAdd_ss, sAdd_tt, sAdd_rr, sIAdd_ii, sIAdd_ss, sMul_ii, sMul_si, sI2_ii, sLen_t, sLen_o, sLen_r, sLen_s, sInt_i, sAbs_i, sMin2_i, sMax2_i, sStrI_i, sTupOf_t, sTupOf_r, sLstOf_t, sLstOf_r, sAppend_r, sPop_r, sPopAt_r, sInsert_r, sSet_r, sEq_ii, sEq_ss, sNe_ii, sNe_ss, sIn_ss, sIn_st, sIn_sr, sIs_n, sIsNot_n, isNonP_n, isNonP_t, isNonP_s, isNonP_i, isNonP_r, sNeg_i, sJoin_r, sSl_r, mDict0_n, mDict1_n, gTupM_t, gConsM_c, gNilM_n, seqP_t, seqP_o, seqP_r, withL_upd, upd_upd, dec_if, true_and, and_true, List.set_cons_zero, List.set_cons_succ, atI_0, atI_1, atI_2, ixN_30, ixN_31, ixN_32, ixN_s0, Option.some.injEq, exists_eq_left', exists_eq_left, Bool.not_true, Bool.not_false, if_true, if_false, Bool.false_eq_true, reduceCtorEq, List.length_cons, List.length_nil, endsOf, wipeM, List.map_cons, List.map_nil, ite_true, ite_false, eq_self_iff_true, false_and, Nat.reduceAdd, decide_true, decide_false] at q' ⊢
    cases hu : upp c with
    | true =>
      rw [hu] at q'
      simp only [mSeq, mAsg, mOp, mUn, mVar, mC, mCB, mCons, mNil, mTup, mLst_n, mB, mTru, mNot, mAnd, mOr, mAndV, mOrV, mNotV, mIf, mIfS, mRet, mRetN, mDrop, mNext, mBreak, mCont, mBM, mBM0, mCall, mFor, mLc, mYes, iSeq, iRng, iRng2, iRevRng, gNameM, gSubM, mAug, mIsi, mSl, mPart, mNoPart, mRaise, getS_0, getS_s, isB_bl, truP_t, truP_b, sIx_t, sIx_o, sIx_r, sIx_s, sAdd_ii, sAdd_ss, sAdd_tt, sAdd_rr, sIAdd_ii, sIAdd_ss, sMul_ii, sMul_si, sI2_ii, sLen_t, sLen_o, sLen_r, sLen_s, sInt_i, sAbs_i, sMin2_i, sMax2_i, sStrI_i, sTupOf_t, sTupOf_r, sLstOf_t, sLstOf_r, sAppend_r, sPop_r, sPopAt_r, sInsert_r, sSet_r, sEq_ii, sEq_ss, sNe_ii, sNe_ss, sIn_ss, sIn_st, sIn_sr, sIs_n, sIsNot_n, isNonP_n, isNonP_t, isNonP_s, isNonP_i, isNonP_r, sNeg_i, sJoin_r, sSl_r, mDict0_n, mDict1_n, gTupM_t, gConsM_c, gNilM_n, seqP_t, seqP_o, seqP_r, withL_upd, upd_upd, dec_if, true_and, and_true, List.set_cons_zero, List.set_cons_succ, atI_0, atI_1, atI_2, ixN_30, ixN_31, ixN_32, ixN_s0, Option.some.injEq, exists_eq_left', exists_eq_left, Bool.not_true, Bool.not_false, if_true, if_false, Bool.false_eq_true, reduceCtorEq, List.length_cons, List.length_nil, endsOf, wipeM, List.map_cons, List.map_nil, ite_true, ite_false, eq_self_iff_true, false_and, Nat.reduceAdd, decide_true, decide_false] at q' ⊢
      refine ⟨z, at_, rfl, by omega, h2, ?_⟩
      simp only [mSeq, mAsg, mOp, mUn, mVar, mC, mCB, mCons, mNil, mTup, mLst_n, mB, mTru, mNot, mAnd, mOr, mAndV, mOrV, mNotV, mIf, mIfS, mRet, mRetN, mDrop, mNext, mBreak, mCont, mBM, mBM0, mCall, mFor, mLc, mYes, iSeq, iRng, iRng2, iRevRng, gNameM, gSubM, mAug, mIsi, mSl, mPart, mNoPart, mRaise, getS_0, getS_s, isB_bl, truP_t, truP_b, sIx_t, sIx_o, sIx_r, sIx_s, sAdd_ii, sAdd_ss, sAdd_tt, sAdd_rr, sIAdd_ii, sIAdd_ss, sMul_ii, sMul_si, sI2_ii, sLen_t, sLen_o, sLen_r, sLen_s, sInt_i, sAbs_i, sMin2_i, sMax2_i, sStrI_i, sTupOf_t, sTupOf_r, sLstOf_t, sLstOf_r, sAppend_r, sPop_r, sPopAt_r, sInsert_r, sSet_r, sEq_ii, sEq_ss, sNe_ii, sNe_ss, sIn_ss, sIn_st, sIn_sr, sIs_n, sIsNot_n, isNonP_n, isNonP_t, isNonP_s, isNonP_i, isNonP_r, sNeg_i, sJoin_r, sSl_r, mDict0_n, mDict1_n, gTupM_t, gConsM_c, gNilM_n, seqP_t, seqP_o, seqP_r, withL_upd, upd_upd, dec_if, true_and, and_true, List.set_cons_zero, List.set_cons_succ, atI_0, atI_1, atI_2, ixN_30, ixN_31, ixN_32, ixN_s0, Option.some.injEq, exists_eq_left', exists_eq_left, Bool.not_true, Bool.not_false, if_true, if_false, Bool.false_eq_true, reduceCtorEq, List.length_cons, List.length_nil, endsOf, wipeM, List.map_cons, List.map_nil, ite_true, ite_false, eq_self_iff_true, false_and, Nat.reduceAdd, decide_true, decide_false, sSl_s, in_low, hl]
      refine ⟨by rw [len_cl, sz24]; omega, by decide, ?_⟩
      rw [cut]; exact q'
    | false =>
      rw [hu] at q'
      simp only [mSeq, mAsg, mOp, mUn, mVar, mC, mCB, mCons, mNil, mTup, mLst_n, mB, mTru, mNot, mAnd, mOr, mAndV, mOrV, mNotV, mIf, mIfS, mRet, mRetN, mDrop, mNext, mBreak, mCont, mBM, mBM0, mCall, mFor, mLc, mYes, iSeq, iRng, iRng2, iRevRng, gNameM, gSubM, mAug, mIsi, mSl, mPart, mNoPart, mRaise, getS_0, getS_s, isB_bl, truP_t, truP_b, sIx_t, sIx_o, sIx_r, sIx_s, sAdd_ii, sAdd_ss, sAdd_tt, sAdd_rr, sIAdd_ii, sIAdd_ss, sMul_ii, sMul_si, sI2_ii, sLen_t, sLen_o, sLen_r, sLen_s, sInt_i, sAbs_i, sMin2_i, sMax2_i, sStrI_i, sTupOf_t, sTupOf_r, sLstOf_t, sLstOf_r, sAppend_r, sPop_r, sPopAt_r, sInsert_r, sSet_r, sEq_ii, sEq_ss, sNe_ii, sNe_ss, sIn_ss, sIn_st, sIn_sr, sIs_n, sIsNot_n, isNonP_n, isNonP_t, isNonP_s, isNonP_i, isNonP_r, sNeg_i, sJoin_r, sSl_r, mDict0_n, mDict1_n, gTupM_t, gConsM_c, gNilM_n, seqP_t, seqP_o, seqP_r, withL_upd, upd_upd, dec_if, true_and, and_true, List.set_cons_zero, List.set_cons_succ, atI_0, atI_1, atI_2, ixN_30, ixN_31, ixN_32, ixN_s0, Option.some.injEq, exists_eq_left', exists_eq_left, Bool.not_true, Bool.not_false, if_true, if_false, Bool.false_eq_true, reduceCtorEq, List.length_cons, List.length_nil, endsOf, wipeM, List.map_cons, List.map_nil, ite_true, ite_false, eq_self_iff_true, false_and, Nat.reduceAdd, decide_true, decide_false] at q' ⊢
      refine hN1 _ _ ?_
      clear hN1 N1
      refine seq_i fun N1 hN1 => ?_
      simp only [mSeq, mAsg, mOp, mUn, mVar, mC, mCB, mCons, mNil, mTup, mLst_n, mB, mTru, mNot, mAnd, mOr, mAndV, mOrV, mNotV, mIf, mIfS, mRet, mRetN, mDrop, mNext, mBreak, mCont, mBM, mBM0, mCall, mFor, mLc, mYes, iSeq, iRng, iRng2, iRevRng, gNameM, gSubM, mAug, mIsi, mSl, mPart, mNoPart, mRaise, getS_0, getS_s, isB_bl, truP_t, truP_b, sIx_t, sIx_o, sIx_r, sIx_s, sAdd_ii, sAdd_ss, sAdd_tt, sAdd_rr, sIAdd_ii, sIAdd_ss, sMul_ii, sMul_si, sI2_ii, sLen_t, sLen_o, sLen_r, sLen_s, sInt_i, sAbs_i, sMin2_i, sMax2_i, sStrI_i, sTupOf_t, sTupOf_r, sLstOf_t, sLstOf_r, sAppend_r, sPop_r, sPopAt_r, sInsert_r, sSet_r, sEq_ii, sEq_ss, sNe_ii, sNe_ss, sIn_ss, sIn_st, sIn_sr, sIs_n, sIsNot_n, isNonP_n, isNonP_t, isNonP_s, isNonP_i, isNonP_r, sNeg_i, sJoin_r, sSl_r, mDict0_n, mDict1_n, gTupM_t, gConsM_c, gNilM_n, seqP_t, seqP_o, seqP_r, withL_upd, upd_upd, dec_if, true_and, and_true, List.set_cons_zero, List.set_cons_succ, atI_0, atI_1, atI_2, ixN_30, ixN_31, ixN_32, ixN_s0, Option.some.injEq, exists_eq_left', exists_eq_left, Bool.not_true, Bool.not_false, if_true, if_false, Bool.false_eq_true, reduceCtorEq, List.length_cons, List.length_nil, endsOf, wipeM, List.map_cons, List.map_nil, ite_true, ite_false, eq_self_iff_true, false_and, Nat.reduceAdd, decide_true, decide_false]
      refine hN1 _ _ ?_
      clear hN1 N1
      refine seq_i fun N1 hN1 => ?_
      simp only [mSeq, mAsg, mOp, mUn, mVar, mC, mCB, mCons, mNil, mTup, mLst_n, mB, mTru, mNot, mAnd, mOr, mAndV, mOrV, mNotV, mIf, mIfS, mRet, mRetN, mDrop, mNext, mBreak, mCont, mBM, mBM0, mCall, mFor, mLc, mYes, iSeq, iRng, iRng2, iRevRng, gNameM, gSubM, mAug, mIsi, mSl, mPart, mNoPart, mRaise, getS_0, getS_s, isB_bl, truP_t, truP_b, sIx_t, sIx_o, sIx_r, sIx_s, sAdd_ii, sAdd_ss, sAdd_tt, sAdd_rr, sIAdd_ii, sIAdd_ss, sMul_ii, sMul_si, sI2_ii, sLen_t, sLen_o, sLen_r, sLen_s, sInt_i, sAbs_i, sMin2_i, sMax2_i, sStrI_i, sTupOf_t, sTupOf_r, sLstOf_t, sLstOf_r, sAppend_r, sPop_r, sPopAt_r, sInsert_r, sSet_r, sEq_ii, sEq_ss, sNe_ii, sNe_ss, sIn_ss, sIn_st, sIn_sr, sIs_n, sIsNot_n, isNonP_n, isNonP_t, isNonP_s, isNonP_i, isNonP_r, sNeg_i, sJoin_r, sSl_r, mDict0_n, mDict1_n, gTupM_t, gConsM_c, gNilM_n, seqP_t, seqP_o, seqP_r, withL_upd, upd_upd, dec_if, true_and, and_true, List.set_cons_zero, List.set_cons_succ, atI_0, atI_1, atI_2, ixN_30, ixN_31, ixN_32, ixN_s0, Option.some.injEq, exists_eq_left', exists_eq_left, Bool.not_true, Bool.not_false, if_true, if_false, Bool.false_eq_true, reduceCtorEq, List.length_cons, List.length_nil, endsOf, wipeM, List.map_cons, List.map_nil, ite_true, ite_false, eq_self_iff_true, false_and, Nat.reduceAdd, decide_true, decide_false, in_par]
      by_cases hp : c = 40 ∨ c = 41
      · rw [if_pos hp] at q' ⊢
        exact ⟨by decide, q'⟩
      · rw [if_neg hp] at q' ⊢
        refine hN1 _ _ ?_
        simp only [mSeq, mAsg, mOp, mUn, mVar, mC, mCB, mCons, mNil, mTup, mLst_n, mB, mTru, mNot, mAnd, mOr, mAndV, mOrV, mNotV, mIf, mIfS, mRet, mRetN, mDrop, mNext, mBreak, mCont, mBM, mBM0, mCall, mFor, mLc, mYes, iSeq, iRng, iRng2, iRevRng, gNameM, gSubM, mAug, mIsi, mSl, mPart, mNoPart, mRaise, getS_0, getS_s, isB_bl, truP_t, truP_b, sIx_t, sIx_o, sIx_r, sIx_s, sAdd_ii, sAdd_ss, sAdd_tt, sAdd_rr, sIAdd_ii, sIAdd_ss, sMul_ii, sMul_si, sI2_ii, sLen_t, sLen_o, sLen_r, sLen_s, sInt_i, sAbs_i, sMin2_i, sMax2_i, sStrI_i, sTupOf_t, sTupOf_r, sLstOf_t, sLstOf_r, sAppend_r, sPop_r, sPopAt_r, sInsert_r, sSet_r, sEq_ii, sEq_ss, sNe_ii, sNe_ss, sIn_ss, sIn_st, sIn_sr, sIs_n, sIsNot_n, isNonP_n, isNonP_t, isNonP_s, isNonP_i, isNonP_r, sNeg_i, sJoin_r, sSl_r, mDict0_n, mDict1_n, gTupM_t, gConsM_c, gNilM_n, seqP_t, seqP_o, seqP_r, withL_upd, upd_upd, dec_if, true_and, and_true, List.set_cons_zero, List.set_cons_succ, atI_0, atI_1, atI_2, ixN_30, ixN_31, ixN_32, ixN_s0, Option.some.injEq, exists_eq_left', exists_eq_left, Bool.not_true, Bool.not_false, if_true, if_false, Bool.false_eq_true, reduceCtorEq, List.length_cons, List.length_nil, endsOf, wipeM, List.map_cons, List.map_nil, ite_true, ite_false, eq_self_iff_true, false_and, Nat.reduceAdd, decide_true, decide_false]
        exact ⟨by decide, q'⟩
end K02
end PL
end L2
set_option maxRecDepth 100000
set_option maxHeartbeats 2000000
namespace L2
namespace PL
namespace K02
open PySem PySem.Spec PyProof.Rows K01 F
def tkv (t : Tk) : PV := .tup [.str t.s, .str t.w, .int t.l, .int t.c]
def sp_tokens : MSp := fun xs M Q _ => ∃ z : Str, xs = [.str z, .bl false] ∧ (cl z).length ≤ 1000000 ∧ ∀ p M', Ext M M' → M p = none → M' p = some (.lst ((tkz ((cl z).length + 1) (cl z) 1 0).map tkv)) → Q (.ref p) M'
/-- tokens: slots 0 text, 1 project, 2 found, 3 line, 4 start, 5 at, 6 sort, 7 word -/
def N_tokens : List Str := ["text", "project", "found", "line", "start", "at", "sort", "word"]
def m_tokens : MS :=
    (mSeq (mAsg (mLst mNil) (gNameM 2))
    (mSeq (mAsg (mC (.int 1)) (gNameM 3))
    (mSeq (mAsg (mC (.int 0)) (gNameM 4))
    (mSeq (mAsg (mC (.int 0)) (gNameM 5))
    (mSeq (mWhile (mB (mOp sLt (mVar 5) (mCB sLen (mCons (mVar 0) mNil))))
    (mIfS (mB (mOp sEq (mOp sIx (mVar 0) (mVar 5)) (mC (.str "\n")))) (mSeq (mAug 3 sIAdd (mC (.int 1)))
    (mSeq (mAug 5 sIAdd (mC (.int 1)))
    (mAsg (mVar 5) (gNameM 4)))) (mIfS (mB (mOp sEq (mOp sIx (mVar 0) (mVar 5)) (mC (.str " ")))) (mAug 5 sIAdd (mC (.int 1))) (mIfS (mAnd (mTru (mVar 1)) (mB (mOp sEq (mOp sIx (mVar 0) (mVar 5)) (mC (.str "#"))))) (mSeq (mAsg mNeverE (gNameM 5))
    (mIfS (mAnd (mB (mOp sLt (mVar 5) (mCB sLen (mCons (mVar 0) mNil)))) (mB (mOp sNe (mOp sIx (mVar 0) (mVar 5)) (mC (.str "\n"))))) (mSeq (mDrop (mBM "list" sAppend (mVar 2) (mCons (mTup (mCons (mC (.str "bad")) (mCons (mOp sIx (mVar 0) (mVar 5)) (mCons (mVar 3) (mCons (mOp sAdd (mOp sSub (mVar 5) (mVar 4)) (mC (.int 1))) mNil))))) mNil)))
    (mRet (mVar 2))) mNext)) (mSeq (mAsg (mCall sp_token_at (mCons (mVar 0) (mCons (mVar 5) (mCons (mVar 1) mNil)))) (gTupM 2 (gConsM (gNameM 6) (gConsM (gNameM 7) gNilM))))
    (mSeq (mDrop (mBM "list" sAppend (mVar 2) (mCons (mTup (mCons (mVar 6) (mCons (mVar 7) (mCons (mVar 3) (mCons (mOp sAdd (mOp sSub (mVar 5) (mVar 4)) (mC (.int 1))) mNil))))) mNil)))
    (mSeq (mIfS (mB (mOp sEq (mVar 6) (mC (.str "bad")))) (mRet (mVar 2)) mNext)
    (mAug 5 sIAdd (mCB sLen (mCons (mVar 7) mNil))))))))))
    (mSeq (mDrop (mBM "list" sAppend (mVar 2) (mCons (mTup (mCons (mC (.str "")) (mCons (mC (.str "")) (mCons (mVar 3) (mCons (mOp sAdd (mOp sSub (mCB sLen (mCons (mVar 0) mNil)) (mVar 4)) (mC (.int 1))) mNil))))) mNil)))
    (mRet (mVar 2))))))))

def tkC : MT := (mB (mOp sLt (mVar 5) (mCB sLen (mCons (mVar 0) mNil))))
def tkB : MS := (mIfS (mB (mOp sEq (mOp sIx (mVar 0) (mVar 5)) (mC (.str "\n")))) (mSeq (mAug 3 sIAdd (mC (.int 1)))
    (mSeq (mAug 5 sIAdd (mC (.int 1)))
    (mAsg (mVar 5) (gNameM 4)))) (mIfS (mB (mOp sEq (mOp sIx (mVar 0) (mVar 5)) (mC (.str " ")))) (mAug 5 sIAdd (mC (.int 1))) (mIfS (mAnd (mTru (mVar 1)) (mB (mOp sEq (mOp sIx (mVar 0) (mVar 5)) (mC (.str "#"))))) (mSeq (mAsg mNeverE (gNameM 5))
    (mIfS (mAnd (mB (mOp sLt (mVar 5) (mCB sLen (mCons (mVar 0) mNil)))) (mB (mOp sNe (mOp sIx (mVar 0) (mVar 5)) (mC (.str "\n"))))) (mSeq (mDrop (mBM "list" sAppend (mVar 2) (mCons (mTup (mCons (mC (.str "bad")) (mCons (mOp sIx (mVar 0) (mVar 5)) (mCons (mVar 3) (mCons (mOp sAdd (mOp sSub (mVar 5) (mVar 4)) (mC (.int 1))) mNil))))) mNil)))
    (mRet (mVar 2))) mNext)) (mSeq (mAsg (mCall sp_token_at (mCons (mVar 0) (mCons (mVar 5) (mCons (mVar 1) mNil)))) (gTupM 2 (gConsM (gNameM 6) (gConsM (gNameM 7) gNilM))))
    (mSeq (mDrop (mBM "list" sAppend (mVar 2) (mCons (mTup (mCons (mVar 6) (mCons (mVar 7) (mCons (mVar 3) (mCons (mOp sAdd (mOp sSub (mVar 5) (mVar 4)) (mC (.int 1))) mNil))))) mNil)))
    (mSeq (mIfS (mB (mOp sEq (mVar 6) (mC (.str "bad")))) (mRet (mVar 2)) mNext)
    (mAug 5 sIAdd (mCB sLen (mCons (mVar 7) mNil)))))))))
theorem one_eqP {c : Nat} {s : Str} {k : Nat} (h : cl s = [k]) : ((⟨#[c]⟩ : Str) = s) = (c = k) := by
  have := one_eq c h
  exact propext (by simpa using this)
theorem low_not {c : Nat} (h : low c = true) : wch c = true := by simp [low] at h; simp [wch, h]
theorem upp_not {c : Nat} (h : upp c = true) : wch c = true := by simp [upp] at h; simp [wch, h]
theorem bad_ne : ((("name" : Str) = ("bad" : Str)) → False) ∧ ((("Name" : Str) = ("bad" : Str)) → False) := by decide +kernel
theorem tok_len {c : Nat} {cs : List Nat} : 1 ≤ (cl (tokOf (c :: cs)).2).length ∧ (cl (tokOf (c :: cs)).2).length ≤ (c :: cs).length := by
  have h1 := tw_len (p := wch) (c :: cs)
  rw [tokOf_cons]
  by_cases hl : low c = true
  · rw [if_pos hl, cl_mk]
    refine ⟨?_, h1⟩
    rw [List.takeWhile_cons, low_not hl]; simp
  · rw [if_neg hl]
    by_cases hu : upp c = true
    · rw [if_pos hu, cl_mk]
      refine ⟨?_, h1⟩
      rw [List.takeWhile_cons, upp_not hu]; simp
    · rw [if_neg hu]
      by_cases hp : c = 40 ∨ c = 41
      · rw [if_pos hp, cl_one]; simp
      · rw [if_neg hp, cl_one]; simp
theorem tkz_cons {n c : Nat} {cs : List Nat} {l k : Nat} : tkz (n + 1) (c :: cs) l k = if c = 10 then tkz n cs (l + 1) 0 else if c = 32 then tkz n cs l (k + 1) else
      ⟨(tokOf (c :: cs)).1, (tokOf (c :: cs)).2, l, k + 1⟩ :: if (tokOf (c :: cs)).1 = ("bad" : Str) then [] else tkz n ((c :: cs).drop (tokOf (c :: cs)).2.length) l (k + (tokOf (c :: cs)).2.length) := rfl
theorem tk_wh {z : Str} {M : MHp} {p : Addr} {D : MEnds} (hz : (cl z).length ≤ 1000000) (np : M p = none) (T : List Tk)
    (hrt : ∀ M', Ext M M' → M' p = some (.lst (T.map tkv)) → D.rt (.ref p) M')
    (hnx : ∀ (line start : Nat) fd s w M', start ≤ (cl z).length → Ext M M' → M' p = some (.lst (fd.map tkv)) → fd.length ≤ (cl z).length → T = fd ++ [⟨"", "", line, (cl z).length - start + 1⟩] → D.nx [some (.str z), some (.bl false), some (.ref p), some (.int (line : Nat)), some (.int (start : Nat)), some (.int (cl z).length), s, w] M') :
    ∀ (n at_ start line : Nat) (fd : List Tk) (s w : Option PV) (M' : MHp), (cl z).length - at_ < n → at_ ≤ (cl z).length → start ≤ at_ → Ext M M' → M' p = some (.lst (fd.map tkv)) → fd.length ≤ at_ → fd ++ tkz n ((cl z).drop at_) line (at_ - start) = T →
      whileN tkC tkB D n [some (.str z), some (.bl false), some (.ref p), some (.int (line : Nat)), some (.int (start : Nat)), some (.int (at_ : Nat)), s, w] M' := by
  intro n
  induction n with
  | zero => intro at_ start line fd s w M' h; omega
  | succ n ih =>
    intro at_ start line fd s w M' hn hat hst x hp hfl hT
    unfold whileN tkC
    simp only [mSeq, mAsg, mOp, mUn, mVar, mC, mCB, mCons, mNil, mTup, mLst_n, mB, mTru, mNot, mAnd, mOr, mAndV, mOrV, mNotV, mIf, mIfS, mRet, mRetN, mDrop, mNext, mBreak, mCont, mBM, mBM0, mCall, mFor, mLc, mYes, iSeq, iRng, iRng2, iRevRng, gNameM, gSubM, mAug, mIsi, mSl, mPart, mNoPart, mRaise, getS_0, getS_s, isB_bl, truP_t, truP_b, sIx_t, sIx_o, sIx_r, sIx_s, sAdd_ii, sAdd_ss, sAdd_tt, sAdd_rr, sIAdd_ii, sIAdd_ss, sMul_ii, sMul_si, sI2_ii, sLen_t, sLen_o, sLen_r, sLen_s, sInt_i, sAbs_i, sMin2_i, sMax2_i, sStrI_i, sTupOf_t, sTupOf_r, sLstOf_t, sLstOf_r, sAppend_r, sPop_r, sPopAt_r, sInsert_r, sSet_r, sEq_ii, sEq_ss, sNe_ii, sNe_ss, sIn_ss, sIn_st, sIn_sr, sIs_n, sIsNot_n, isNonP_n, isNonP_t, isNonP_s, isNonP_i, isNonP_r, sNeg_i, sJoin_r, sSl_r, mDict0_n, mDict1_n, gTupM_t, gConsM_c, gNilM_n, seqP_t, seqP_o, seqP_r, withL_upd, upd_upd, dec_if, true_and, and_true, List.set_cons_zero, List.set_cons_succ, atI_0, atI_1, atI_2, ixN_30, ixN_31, ixN_32, ixN_s0, Option.some.injEq, exists_eq_left', exists_eq_left, Bool.not_true, Bool.not_false, if_true, if_false, Bool.false_eq_true, reduceCtorEq, List.length_cons, List.length_nil, endsOf, wipeM, List.map_cons, List.map_nil, ite_true, ite_false, eq_self_iff_true, false_and, Nat.reduceAdd, decide_true, decide_false]
    rw [len_cl z]
    refine ⟨by rw [sz24]; omega, ?_⟩
    by_cases hlt : at_ < (cl z).length
    · rw [if_pos (by omega)]
      unfold tkB
      have hd : (cl z).drop at_ = (cl z)[at_] :: (cl z).drop (at_ + 1) := List.drop_eq_getElem_cons hlt
      have ha : atI z.cps.toList (at_ : Int) = some (cl z)[at_] := atI_nat (List.getElem?_eq_getElem hlt)
      have zl : z.length ≤ sizeLine := by rw [len_cl, sz24]; omega
      have tl := tok_len (c := (cl z)[at_]) (cs := (cl z).drop (at_ + 1))
      rw [hd, tkz_cons] at hT
      rw [← hd] at hT tl
      rw [List.length_drop] at tl
      generalize (cl z)[at_] = c at ha hT
      simp only [mSeq, mAsg, mOp, mUn, mVar, mC, mCB, mCons, mNil, mTup, mLst_n, mB, mTru, mNot, mAnd, mOr, mAndV, mOrV, mNotV, mIf, mIfS, mRet, mRetN, mDrop, mNext, mBreak, mCont, mBM, mBM0, mCall, mFor, mLc, mYes, iSeq, iRng, iRng2, iRevRng, gNameM, gSubM, mAug, mIsi, mSl, mPart, mNoPart, mRaise, getS_0, getS_s, isB_bl, truP_t, truP_b, sIx_t, sIx_o, sIx_r, sIx_s, sAdd_ii, sAdd_ss, sAdd_tt, sAdd_rr, sIAdd_ii, sIAdd_ss, sMul_ii, sMul_si, sI2_ii, sLen_t, sLen_o, sLen_r, sLen_s, sInt_i, sAbs_i, sMin2_i, sMax2_i, sStrI_i, sTupOf_t, sTupOf_r, sLstOf_t, sLstOf_r, sAppend_r, sPop_r, sPopAt_r, sInsert_r, sSet_r, sEq_ii, sEq_ss, sNe_ii, sNe_ss, sIn_ss, sIn_st, sIn_sr, sIs_n, sIsNot_n, isNonP_n, isNonP_t, isNonP_s, isNonP_i, isNonP_r, sNeg_i, sJoin_r, sSl_r, mDict0_n, mDict1_n, gTupM_t, gConsM_c, gNilM_n, seqP_t, seqP_o, seqP_r, withL_upd, upd_upd, dec_if, true_and, and_true, List.set_cons_zero, List.set_cons_succ, atI_0, atI_1, atI_2, ixN_30, ixN_31, ixN_32, ixN_s0, Option.some.injEq, exists_eq_left', exists_eq_left, Bool.not_true, Bool.not_false, if_true, if_false, Bool.false_eq_true, reduceCtorEq, List.length_cons, List.length_nil, endsOf, wipeM, List.map_cons, List.map_nil, ite_true, ite_false, eq_self_iff_true, false_and, Nat.reduceAdd, decide_true, decide_false]
      refine ⟨zl, c, ha, ?_⟩
      simp only [one_eqP cl_nl]
      by_cases h10 : c = 10
      · rw [if_pos h10] at hT ⊢
        have e1 : (line : Int) + 1 = ((line + 1 : Nat) : Int) := by omega
        have e2 : (at_ : Int) + 1 = ((at_ + 1 : Nat) : Int) := by omega
        rw [e1, e2]
        exact ih (at_ + 1) (at_ + 1) (line + 1) fd s w M' (by omega) hlt (Nat.le_refl _) x hp (by omega) (by rw [Nat.sub_self]; exact hT)
      · rw [if_neg h10] at hT ⊢
        refine ⟨zl, c, ha, ?_⟩
        simp only [one_eqP cl_sp]
        by_cases h32 : c = 32
        · rw [if_pos h32] at hT ⊢
          have e2 : (at_ : Int) + 1 = ((at_ + 1 : Nat) : Int) := by omega
          rw [e2]
          have e3 : at_ + 1 - start = at_ - start + 1 := by omega
          exact ih (at_ + 1) start line fd s w M' (by omega) hlt (by omega) x hp (by omega) (by rw [e3]; exact hT)
        · rw [if_neg h32] at hT ⊢
          refine ⟨z, at_, rfl, hlt, by omega, ?_⟩
          generalize htk : tokOf ((cl z).drop at_) = tk at hT tl
          obtain ⟨ts, tw⟩ := tk
          simp only [mSeq, mAsg, mOp, mUn, mVar, mC, mCB, mCons, mNil, mTup, mLst_n, mB, mTru, mNot, mAnd, mOr, mAndV, mOrV, mNotV, mIf, mIfS, mRet, mRetN, mDrop, mNext, mBreak, mCont, mBM, mBM0, mCall, mFor, mLc, mYes, iSeq, iRng, iRng2, iRevRng, gNameM, gSubM, mAug, mIsi, mSl, mPart, mNoPart, mRaise, getS_0, getS_s, isB_bl, truP_t, truP_b, sIx_t, sIx_o, sIx_r, sIx_s, sAdd_ii, sAdd_ss, sAdd_tt, sAdd_rr, sIAdd_ii, sIAdd_ss, sMul_ii, sMul_si, sI2_ii, sLen_t, sLen_o, sLen_r, sLen_s, sInt_i, sAbs_i, sMin2_i, sMax2_i, sStrI_i, sTupOf_t, sTupOf_r, sLstOf_t, sLstOf_r, sAppend_r, sPop_r, sPopAt_r, sInsert_r, sSet_r, sEq_ii, sEq_ss, sNe_ii, sNe_ss, sIn_ss, sIn_st, sIn_sr, sIs_n, sIsNot_n, isNonP_n, isNonP_t, isNonP_s, isNonP_i, isNonP_r, sNeg_i, sJoin_r, sSl_r, mDict0_n, mDict1_n, gTupM_t, gConsM_c, gNilM_n, seqP_t, seqP_o, seqP_r, withL_upd, upd_upd, dec_if, true_and, and_true, List.set_cons_zero, List.set_cons_succ, atI_0, atI_1, atI_2, ixN_30, ixN_31, ixN_32, ixN_s0, Option.some.injEq, exists_eq_left', exists_eq_left, Bool.not_true, Bool.not_false, if_true, if_false, Bool.false_eq_true, reduceCtorEq, List.length_cons, List.length_nil, endsOf, wipeM, List.map_cons, List.map_nil, ite_true, ite_false, eq_self_iff_true, false_and, Nat.reduceAdd, decide_true, decide_false, tyM_l hp, withL_eq hp]
          refine ⟨by decide, by rw [sz24, List.length_map]; omega, ?_⟩
          have e4 : (at_ : Int) - (start : Int) + 1 = ((at_ - start + 1 : Nat) : Int) := by omega
          rw [e4]
          have ev : fd.map tkv ++ [PV.tup [.str ts, .str tw, .int line, .int ((at_ - start + 1 : Nat) : Int)]] = (fd ++ [Tk.mk ts tw line (at_ - start + 1)]).map tkv := by simp [tkv]
          rw [ev]
          simp only at hT tl
          by_cases hb : ts = ("bad" : Str)
          · rw [if_pos hb] at hT ⊢
            exact hrt _ (x.mut np) (by rw [updM_same, ← hT])
          · rw [if_neg hb] at hT ⊢
            have twl : tw.length = (cl tw).length := len_cl tw
            refine ⟨by rw [twl, sz24]; omega, ?_⟩
            have e5 : (at_ : Int) + (tw.length : Nat) = ((at_ + tw.length : Nat) : Int) := by omega
            rw [e5]
            have e6 : at_ + tw.length - start = at_ - start + tw.length := by omega
            refine ih (at_ + tw.length) start line (fd ++ [Tk.mk ts tw line (at_ - start + 1)]) _ _ _ (by omega) (by omega) (by omega) (x.mut np) updM_same (by simp; omega) ?_
            rw [e6, ← hT, List.drop_drop]
            simp
    · rw [if_neg (by omega)]
      have e : at_ = (cl z).length := by omega
      subst e
      rw [List.drop_length] at hT
      exact hnx line start fd s w M' hst x hp hfl hT.symm
theorem d_tokens : ∀ xs M Q E, sp_tokens xs M Q E → m_tokens (endsOf Q E) (startM N_tokens xs) M := by
  rintro _ M Q E ⟨z, rfl, hz, q⟩
  show m_tokens (endsOf Q E) [some (.str z), some (.bl false), none, none, none, none, none, none] M
  unfold m_tokens
  refine seq_i fun N1 hN1 => ?_
  simp only [mSeq, mAsg, mOp, mUn, mVar, mC, mCB, mCons, mNil, mTup, mLst_n, mB, mTru, mNot, mAnd, mOr, mAndV, mOrV, mNotV, mIf, mIfS, mRet, mRetN, mDrop, mNext, mBreak, mCont, mBM, mBM0, mCall, mFor, mLc, mYes, iSeq, iRng, iRng2, iRevRng, gNameM, gSubM, mAug, mIsi, mSl, mPart, mNoPart, mRaise, getS_0, getS_s, isB_bl, truP_t, truP_b, sIx_t, sIx_o, sIx_r, sIx_s, sAdd_ii, sAdd_ss, sAdd_tt, sAdd_rr, sIAdd_ii, sIAdd_ss, sMul_ii, sMul_si, sI2_ii, sLen_t, sLen_o, sLen_r, sLen_s, sInt_i, sAbs_i, sMin2_i, sMax2_i, sStrI_i, sTupOf_t, sTupOf_r, sLstOf_t, sLstOf_r, sAppend_r, sPop_r, sPopAt_r, sInsert_r, sSet_r, sEq_ii, sEq_ss, sNe_ii, sNe_ss, sIn_ss, sIn_st, sIn_sr, sIs_n, sIsNot_n, isNonP_n, isNonP_t, isNonP_s, isNonP_i, isNonP_r, sNeg_i, sJoin_r, sSl_r, mDict0_n, mDict1_n, gTupM_t, gConsM_c, gNilM_n, seqP_t, seqP_o, seqP_r, withL_upd, upd_upd, dec_if, true_and, and_true, List.set_cons_zero, List.set_cons_succ, atI_0, atI_1, atI_2, ixN_30, ixN_31, ixN_32, ixN_s0, Option.some.injEq, exists_eq_left', exists_eq_left, Bool.not_true, Bool.not_false, if_true, if_false, Bool.false_eq_true, reduceCtorEq, List.length_cons, List.length_nil, endsOf, wipeM, List.map_cons, List.map_nil, ite_true, ite_false, eq_self_iff_true, false_and, Nat.reduceAdd, decide_true, decide_false]
  refine ⟨by decide, newL_i fun p M1 n1 h1 x1 => hN1 _ _ ?_⟩
  clear hN1 N1
  refine seq_i fun N1 hN1 => ?_
  simp only [mSeq, mAsg, mOp, mUn, mVar, mC, mCB, mCons, mNil, mTup, mLst_n, mB, mTru, mNot, mAnd, mOr, mAndV, mOrV, mNotV, mIf, mIfS, mRet, mRetN, mDrop, mNext, mBreak, mCont, mBM, mBM0, mCall, mFor, mLc, mYes, iSeq, iRng, iRng2, iRevRng, gNameM, gSubM, mAug, mIsi, mSl, mPart, mNoPart, mRaise, getS_0, getS_s, isB_bl, truP_t, truP_b, sIx_t, sIx_o, sIx_r, sIx_s, sAdd_ii, sAdd_ss, sAdd_tt, sAdd_rr, sIAdd_ii, sIAdd_ss, sMul_ii, sMul_si, sI2_ii, sLen_t, sLen_o, sLen_r, sLen_s, sInt_i, sAbs_i, sMin2_i, sMax2_i, sStrI_i, sTupOf_t, sTupOf_r, sLstOf_t, sLstOf_r, sAppend_r, sPop_r, sPopAt_r, sInsert_r, sSet_r, sEq_ii, sEq_ss, sNe_ii, sNe_ss, sIn_ss, sIn_st, sIn_sr, sIs_n, sIsNot_n, isNonP_n, isNonP_t, isNonP_s, isNonP_i, isNonP_r, sNeg_i, sJoin_r, sSl_r, mDict0_n, mDict1_n, gTupM_t, gConsM_c, gNilM_n, seqP_t, seqP_o, seqP_r, withL_upd, upd_upd, dec_if, true_and, and_true, List.set_cons_zero, List.set_cons_succ, atI_0, atI_1, atI_2, ixN_30, ixN_31, ixN_32, ixN_s0, Option.some.injEq, exists_eq_left', exists_eq_left, Bool.not_true, Bool.not_false, if_true, if_false, Bool.false_eq_true, reduceCtorEq, List.length_cons, List.length_nil, endsOf, wipeM, List.map_cons, List.map_nil, ite_true, ite_false, eq_self_iff_true, false_and, Nat.reduceAdd, decide_true, decide_false]
  refine hN1 _ _ ?_
  clear hN1 N1
  refine seq_i fun N1 hN1 => ?_
  simp only [mSeq, mAsg, mOp, mUn, mVar, mC, mCB, mCons, mNil, mTup, mLst_n, mB, mTru, mNot, mAnd, mOr, mAndV, mOrV, mNotV, mIf, mIfS, mRet, mRetN, mDrop, mNext, mBreak, mCont, mBM, mBM0, mCall, mFor, mLc, mYes, iSeq, iRng, iRng2, iRevRng, gNameM, gSubM, mAug, mIsi, mSl, mPart, mNoPart, mRaise, getS_0, getS_s, isB_bl, truP_t, truP_b, sIx_t, sIx_o, sIx_r, sIx_s, sAdd_ii, sAdd_ss, sAdd_tt, sAdd_rr, sIAdd_ii, sIAdd_ss, sMul_ii, sMul_si, sI2_ii, sLen_t, sLen_o, sLen_r, sLen_s, sInt_i, sAbs_i, sMin2_i, sMax2_i, sStrI_i, sTupOf_t, sTupOf_r, sLstOf_t, sLstOf_r, sAppend_r, sPop_r, sPopAt_r, sInsert_r, sSet_r, sEq_ii, sEq_ss, sNe_ii, sNe_ss, sIn_ss, sIn_st, sIn_sr, sIs_n, sIsNot_n, isNonP_n, isNonP_t, isNonP_s, isNonP_i, isNonP_r, sNeg_i, sJoin_r, sSl_r, mDict0_n, mDict1_n, gTupM_t, gConsM_c, gNilM_n, seqP_t, seqP_o, seqP_r, withL_upd, upd_upd, dec_if, true_and, and_true, List.set_cons_zero, List.set_cons_succ, atI_0, atI_1, atI_2, ixN_30, ixN_31, ixN_32, ixN_s0, Option.some.injEq, exists_eq_left', exists_eq_left, Bool.not_true, Bool.not_false, if_true, if_false, Bool.false_eq_true, reduceCtorEq, List.length_cons, List.length_nil, endsOf, wipeM, List.map_cons, List.map_nil, ite_true, ite_false, eq_self_iff_true, false_and, Nat.reduceAdd, decide_true, decide_false]
  refine hN1 _ _ ?_
  clear hN1 N1
  refine seq_i fun N1 hN1 => ?_
  simp only [mSeq, mAsg, mOp, mUn, mVar, mC, mCB, mCons, mNil, mTup, mLst_n, mB, mTru, mNot, mAnd, mOr, mAndV, mOrV, mNotV, mIf, mIfS, mRet, mRetN, mDrop, mNext, mBreak, mCont, mBM, mBM0, mCall, mFor, mLc, mYes, iSeq, iRng, iRng2, iRevRng, gNameM, gSubM, mAug, mIsi, mSl, mPart, mNoPart, mRaise, getS_0, getS_s, isB_bl, truP_t, truP_b, sIx_t, sIx_o, sIx_r, sIx_s, sAdd_ii, sAdd_ss, sAdd_tt, sAdd_rr, sIAdd_ii, sIAdd_ss, sMul_ii, sMul_si, sI2_ii, sLen_t, sLen_o, sLen_r, sLen_s, sInt_i, sAbs_i, sMin2_i, sMax2_i, sStrI_i, sTupOf_t, sTupOf_r, sLstOf_t, sLstOf_r, sAppend_r, sPop_r, sPopAt_r, sInsert_r, sSet_r, sEq_ii, sEq_ss, sNe_ii, sNe_ss, sIn_ss, sIn_st, sIn_sr, sIs_n, sIsNot_n, isNonP_n, isNonP_t, isNonP_s, isNonP_i, isNonP_r, sNeg_i, sJoin_r, sSl_r, mDict0_n, mDict1_n, gTupM_t, gConsM_c, gNilM_n, seqP_t, seqP_o, seqP_r, withL_upd, upd_upd, dec_if, true_and, and_true, List.set_cons_zero, List.set_cons_succ, atI_0, atI_1, atI_2, ixN_30, ixN_31, ixN_32, ixN_s0, Option.some.injEq, exists_eq_left', exists_eq_left, Bool.not_true, Bool.not_false, if_true, if_false, Bool.false_eq_true, reduceCtorEq, List.length_cons, List.length_nil, endsOf, wipeM, List.map_cons, List.map_nil, ite_true, ite_false, eq_self_iff_true, false_and, Nat.reduceAdd, decide_true, decide_false]
  refine hN1 _ _ ?_
  clear hN1 N1
  refine seq_i fun N1 hN1 => ?_
  refine ⟨(cl z).length + 1, tk_wh (z := z) (M := M) (p := p) hz n1 (tkz ((cl z).length + 1) (cl z) 1 0) (fun M' x h => q _ _ x n1 h) (fun line start fd s w M' hs x hp hl e => hN1 _ _ ?_) ((cl z).length + 1) 0 0 1 [] none none M1 (by omega) (Nat.zero_le _) (Nat.le_refl _) x1 h1 (Nat.zero_le _) rfl⟩
  refine seq_i fun N2 hN2 => ?_
  simp only [mSeq, mAsg, mOp, mUn, mVar, mC, mCB, mCons, mNil, mTup, mLst_n, mB, mTru, mNot, mAnd, mOr, mAndV, mOrV, mNotV, mIf, mIfS, mRet, mRetN, mDrop, mNext, mBreak, mCont, mBM, mBM0, mCall, mFor, mLc, mYes, iSeq, iRng, iRng2, iRevRng, gNameM, gSubM, mAug, mIsi, mSl, mPart, mNoPart, mRaise, getS_0, getS_s, isB_bl, truP_t, truP_b, sIx_t, sIx_o, sIx_r, sIx_s, sAdd_ii, sAdd_ss, sAdd_tt, sAdd_rr, sIAdd_ii, sIAdd_ss, sMul_ii, sMul_si, sI2_ii, sLen_t, sLen_o, sLen_r, sLen_s, sInt_i, sAbs_i, sMin2_i, sMax2_i, sStrI_i, sTupOf_t, sTupOf_r, sLstOf_t, sLstOf_r, sAppend_r, sPop_r, sPopAt_r, sInsert_r, sSet_r, sEq_ii, sEq_ss, sNe_ii, sNe_ss, sIn_ss, sIn_st, sIn_sr, sIs_n, sIsNot_n, isNonP_n, isNonP_t, isNonP_s, isNonP_i, isNonP_r, sNeg_i, sJoin_r, sSl_r, mDict0_n, mDict1_n, gTupM_t, gConsM_c, gNilM_n, seqP_t, seqP_o, seqP_r, withL_upd, upd_upd, dec_if, true_and, and_true, List.set_cons_zero, List.set_cons_succ, atI_0, atI_1, atI_2, ixN_30, ixN_31, ixN_32, ixN_s0, Option.some.injEq, exists_eq_left', exists_eq_left, Bool.not_true, Bool.not_false, if_true, if_false, Bool.false_eq_true, reduceCtorEq, List.length_cons, List.length_nil, endsOf, wipeM, List.map_cons, List.map_nil, ite_true, ite_false, eq_self_iff_true, false_and, Nat.reduceAdd, decide_true, decide_false, tyM_l hp, withL_eq hp]
  rw [len_cl z]
  refine ⟨by rw [sz24]; omega, by decide, by rw [sz24, List.length_map]; omega, hN2 _ _ ?_⟩
  simp only [mSeq, mAsg, mOp, mUn, mVar, mC, mCB, mCons, mNil, mTup, mLst_n, mB, mTru, mNot, mAnd, mOr, mAndV, mOrV, mNotV, mIf, mIfS, mRet, mRetN, mDrop, mNext, mBreak, mCont, mBM, mBM0, mCall, mFor, mLc, mYes, iSeq, iRng, iRng2, iRevRng, gNameM, gSubM, mAug, mIsi, mSl, mPart, mNoPart, mRaise, getS_0, getS_s, isB_bl, truP_t, truP_b, sIx_t, sIx_o, sIx_r, sIx_s, sAdd_ii, sAdd_ss, sAdd_tt, sAdd_rr, sIAdd_ii, sIAdd_ss, sMul_ii, sMul_si, sI2_ii, sLen_t, sLen_o, sLen_r, sLen_s, sInt_i, sAbs_i, sMin2_i, sMax2_i, sStrI_i, sTupOf_t, sTupOf_r, sLstOf_t, sLstOf_r, sAppend_r, sPop_r, sPopAt_r, sInsert_r, sSet_r, sEq_ii, sEq_ss, sNe_ii, sNe_ss, sIn_ss, sIn_st, sIn_sr, sIs_n, sIsNot_n, isNonP_n, isNonP_t, isNonP_s, isNonP_i, isNonP_r, sNeg_i, sJoin_r, sSl_r, mDict0_n, mDict1_n, gTupM_t, gConsM_c, gNilM_n, seqP_t, seqP_o, seqP_r, withL_upd, upd_upd, dec_if, true_and, and_true, List.set_cons_zero, List.set_cons_succ, atI_0, atI_1, atI_2, ixN_30, ixN_31, ixN_32, ixN_s0, Option.some.injEq, exists_eq_left', exists_eq_left, Bool.not_true, Bool.not_false, if_true, if_false, Bool.false_eq_true, reduceCtorEq, List.length_cons, List.length_nil, endsOf, wipeM, List.map_cons, List.map_nil, ite_true, ite_false, eq_self_iff_true, false_and, Nat.reduceAdd, decide_true, decide_false]
  refine q _ _ (x.mut n1) n1 ?_
  rw [updM_same, e]
  have e4 : ((cl z).length : Int) - (start : Int) + 1 = (((cl z).length - start + 1 : Nat) : Int) := by omega
  rw [e4]
  simp [tkv]
end K02
end PL
end L2
set_option maxRecDepth 100000
set_option maxHeartbeats 2000000
namespace L2
namespace PL
namespace K02
open PySem PySem.Spec PyProof.Rows K01 F
def NameTok (n : Str) : Prop := (∃ c r, cl n = c :: r ∧ low c = true) ∧ (∀ x ∈ cl n, wch x = true) ∧ (cl n).length ≤ 46
abbrev lp : Str := ⟨#[40]⟩
abbrev rp : Str := ⟨#[41]⟩
inductive Laid : List Str → List Nat → Prop
  | nil : Laid [] []
  | gap {ts : List Str} {cs : List Nat} (c : Nat) (h : c = 32 ∨ c = 10) : Laid ts cs → Laid ts (c :: cs)
  | par {ts : List Str} {cs : List Nat} (b : Nat) (h : b = 40 ∨ b = 41) : Laid ts cs → Laid (⟨#[b]⟩ :: ts) (b :: cs)
  | name {ts : List Str} {cs : List Nat} (n : Str) (h : NameTok n) : Laid ts cs → (∀ c s, cs = c :: s → wch c = false) → Laid (n :: ts) (cl n ++ cs)
inductive TokF : Fo → List Str → Prop
  | nil : TokF .nil []
  | leaf {n : Str} {r : Fo} {tr : List Str} : TokF r tr → TokF (.cons n .nil r) (n :: tr)
  | op {n : Str} {b r : Fo} {tb tr : List Str} : TokF b tb → TokF r tr → TokF (.cons n b r) (n :: lp :: (tb ++ rp :: tr))
def pr (t : Tk) : Str × Str := (t.s, t.w)
theorem tok_name {n : Str} {cs : List Nat} (h : NameTok n) (hs : ∀ c s, cs = c :: s → wch c = false) : tokOf (cl n ++ cs) = (("name" : Str), n) := by
  obtain ⟨⟨c, r, e, hl⟩, ha, _⟩ := h
  have tw := takeWhile_stop (p := wch) (w := cl n) (r := cs) ha hs
  rw [e] at tw ⊢
  rw [List.cons_append, tokOf_cons, if_pos hl]
  rw [List.cons_append] at tw
  rw [tw, ← e, mk_cl]
theorem tok_par {b : Nat} {cs : List Nat} (h : b = 40 ∨ b = 41) : tokOf (b :: cs) = (⟨#[b]⟩, ⟨#[b]⟩) := by
  rw [tokOf_cons]
  have h1 : low b = false := by rcases h with rfl | rfl <;> rfl
  have h2 : upp b = false := by rcases h with rfl | rfl <;> rfl
  rw [h1, h2, if_pos h]; rfl
theorem laid_tkz {ts : List Str} {cs : List Nat} (h : Laid ts cs) : ∀ n l k, cs.length < n → (tkz n cs l k).map pr = ts.map (fun t => tokOf (cl t)) ++ [(("" : Str), ("" : Str))] := by
  induction h with
  | nil =>
    intro n l k hn
    cases n with
    | zero => simp at hn
    | succ n => rfl
  | gap c hc _ ih =>
    intro n l k hn
    cases n with
    | zero => simp at hn
    | succ n =>
      have hn' := Nat.lt_of_succ_lt_succ hn
      rw [tkz_cons]
      rcases hc with rfl | rfl
      · rw [if_neg (by decide), if_pos rfl]; exact ih n _ _ hn'
      · rw [if_pos rfl]; exact ih n _ _ hn'
  | par b hb _ ih =>
    intro n l k hn
    cases n with
    | zero => simp at hn
    | succ n =>
      have hn' := Nat.lt_of_succ_lt_succ hn
      rw [tkz_cons, tok_par hb]
      have e10 : b ≠ 10 := by rcases hb with rfl | rfl <;> decide
      have e32 : b ≠ 32 := by rcases hb with rfl | rfl <;> decide
      have eb : (⟨#[b]⟩ : Str) ≠ ("bad" : Str) := fun z => by
        have := congrArg (fun s => (cl s).length) z
        have e3 : (cl ("bad" : Str)).length = 3 := by decide +kernel
        simp only [e3, cl_one] at this
        cases this
      rw [if_neg e10, if_neg e32, if_neg eb, List.map_cons, List.map_cons, List.cons_append]
      have := ih n l (k + 1) hn'
      rw [cl_one, tok_par (cs := []) hb]
      exact congrArg (List.cons _) this
  | name m hm _ hs ih =>
    rename_i ts cs _
    intro n l k hn
    cases n with
    | zero => simp at hn
    | succ n =>
      obtain ⟨⟨c, r, e, hl⟩, ha, hlen⟩ := id hm
      have ht := tok_name hm hs
      have ht0 := tok_name (cs := []) hm (fun c s z => nomatch z)
      rw [List.append_nil] at ht0
      have hd : (cl m ++ cs).drop m.length = cs := by rw [len_cl, List.drop_left]
      have hn2 : (cl m).length + cs.length < n + 1 := by rw [List.length_append] at hn; exact hn
      have h1 : 1 ≤ (cl m).length := by rw [e]; simp
      have := ih n l (k + m.length) (by omega)
      rw [List.map_cons, ht0, List.cons_append, ← this]
      rw [e, List.cons_append] at ht hd ⊢
      have e10 : c ≠ 10 := fun z => by subst z; cases hl
      have e32 : c ≠ 32 := fun z => by subst z; cases hl
      rw [tkz_cons, ht, if_neg e10, if_neg e32, if_neg (fun z => bad_ne.1 z), hd]
      rfl
end K02
end PL
end L2
set_option maxRecDepth 100000
set_option maxHeartbeats 2000000
namespace L2
namespace PL
namespace K02
open PySem PySem.Spec PyProof.Rows K01 F
def sp_read_forest : MSp := fun xs M Q _ => ∃ (z : Str) (F : Fo) (ts : List Str), xs = [.str z] ∧ (cl z).length ≤ 1000000 ∧ Laid ts (cl z) ∧ TokF F ts ∧ F.cnt ≤ 2000 ∧ F.dep ≤ 60 ∧ F.All NameTok ∧ ∀ M', Ext M M' → Q (.tup F.pv) M'
/-- read_forest: slots 0 text, 1 rows, 2 heads, 3 trees, 4 named, 5 sort, 6 word, 7 line, 8 column, 9 head, 10 beneath -/
def N_read_forest : List Str := ["text", "rows", "heads", "trees", "named", "sort", "word", "line", "column", "head", "beneath"]
def m_read_forest : MS :=
    (mSeq (mAsg (mLst (mCons (mLst mNil) mNil)) (gNameM 1))
    (mSeq (mAsg (mLst mNil) (gNameM 2))
    (mSeq (mAsg (mC (.int 0)) (gNameM 3))
    (mSeq (mAsg (mC (.bl false)) (gNameM 4))
    (mSeq (mFor (iSeq (mCall sp_tokens (mCons (mVar 0) (mCons (mC (.bl false)) mNil)))) (gTupM 4 (gConsM (gNameM 5) (gConsM (gNameM 6) (gConsM (gNameM 7) (gConsM (gNameM 8) gNilM)))))
    (mSeq (mIfS (mAnd (mB (mOp sEq (mVar 5) (mC (.str "name")))) (mAnd (mB (mOp sLt (mVar 3) (mC (.int 2000)))) (mB (mOp sLe (mCB sLen (mCons (mVar 1) mNil)) (mC (.int 60)))))) (mSeq (mDrop (mBM "list" sAppend (mOp sIx (mVar 1) (mUn sNeg (mC (.int 1)))) (mCons (mTup (mCons (mVar 6) (mCons (mTup mNil) mNil))) mNil)))
    (mAug 3 sIAdd (mC (.int 1)))) (mIfS (mAnd (mB (mOp sEq (mVar 5) (mC (.str "(")))) (mTru (mVar 4))) (mSeq (mAsg (mBM0 "list" sPop (mOp sIx (mVar 1) (mUn sNeg (mC (.int 1))))) (gNameM 9))
    (mSeq (mDrop (mBM "list" sAppend (mVar 2) (mCons (mOp sIx (mVar 9) (mC (.int 0))) mNil)))
    (mDrop (mBM "list" sAppend (mVar 1) (mCons (mLst mNil) mNil))))) (mIfS (mAnd (mB (mOp sEq (mVar 5) (mC (.str ")")))) (mTru (mVar 2))) (mSeq (mAsg (mCB sTupOf (mCons (mBM0 "list" sPop (mVar 1)) mNil)) (gNameM 10))
    (mDrop (mBM "list" sAppend (mOp sIx (mVar 1) (mUn sNeg (mC (.int 1)))) (mCons (mTup (mCons (mBM0 "list" sPop (mVar 2)) (mCons (mVar 10) mNil))) mNil)))) (mIfS (mOr (mB (mOp sNe (mVar 5) (mC (.str "")))) (mTru (mVar 2))) mNever mNext))))
    (mAsg (mOp sEq (mVar 5) (mC (.str "name"))) (gNameM 4))))
    (mRet (mCB sTupOf (mCons (mOp sIx (mVar 1) (mC (.int 0))) mNil))))))))

def rdG : MG := (gTupM 4 (gConsM (gNameM 5) (gConsM (gNameM 6) (gConsM (gNameM 7) (gConsM (gNameM 8) gNilM)))))
def rdB : MS := (mSeq (mIfS (mAnd (mB (mOp sEq (mVar 5) (mC (.str "name")))) (mAnd (mB (mOp sLt (mVar 3) (mC (.int 2000)))) (mB (mOp sLe (mCB sLen (mCons (mVar 1) mNil)) (mC (.int 60)))))) (mSeq (mDrop (mBM "list" sAppend (mOp sIx (mVar 1) (mUn sNeg (mC (.int 1)))) (mCons (mTup (mCons (mVar 6) (mCons (mTup mNil) mNil))) mNil)))
    (mAug 3 sIAdd (mC (.int 1)))) (mIfS (mAnd (mB (mOp sEq (mVar 5) (mC (.str "(")))) (mTru (mVar 4))) (mSeq (mAsg (mBM0 "list" sPop (mOp sIx (mVar 1) (mUn sNeg (mC (.int 1))))) (gNameM 9))
    (mSeq (mDrop (mBM "list" sAppend (mVar 2) (mCons (mOp sIx (mVar 9) (mC (.int 0))) mNil)))
    (mDrop (mBM "list" sAppend (mVar 1) (mCons (mLst mNil) mNil))))) (mIfS (mAnd (mB (mOp sEq (mVar 5) (mC (.str ")")))) (mTru (mVar 2))) (mSeq (mAsg (mCB sTupOf (mCons (mBM0 "list" sPop (mVar 1)) mNil)) (gNameM 10))
    (mDrop (mBM "list" sAppend (mOp sIx (mVar 1) (mUn sNeg (mC (.int 1)))) (mCons (mTup (mCons (mBM0 "list" sPop (mVar 2)) (mCons (mVar 10) mNil))) mNil)))) (mIfS (mOr (mB (mOp sNe (mVar 5) (mC (.str "")))) (mTru (mVar 2))) mNever mNext))))
    (mAsg (mOp sEq (mVar 5) (mC (.str "name"))) (gNameM 4)))
structure RH (M0 M' : MHp) (pr ph pt : Addr) (toks : List PV) (rows : List (Addr × List PV)) (heads : List Str) : Prop where
  x : Ext M0 M'
  er : M' pr = some (.lst ((rows.map fun e => PV.ref e.1).reverse))
  eh : M' ph = some (.lst (pss heads.reverse))
  et : M' pt = some (.lst toks)
  rw : ∀ e ∈ rows, M' e.1 = some (.lst e.2)
  nd : (rows.map Prod.fst).Nodup
  fr : ∀ e ∈ rows, M0 e.1 = none ∧ e.1 ≠ pr ∧ e.1 ≠ ph ∧ e.1 ≠ pt
structure RA (M0 : MHp) (pr ph pt : Addr) : Prop where
  n1 : M0 pr = none
  n2 : M0 ph = none
  n3 : M0 pt = none
  h1 : pr ≠ ph
  h2 : pr ≠ pt
  h3 : ph ≠ pt
section
variable {M0 M' : MHp} {pr ph pt : Addr} {toks : List PV} {rows : List (Addr × List PV)} {heads : List Str} {a : Addr} {row : List PV}
/-- the top row written -/
theorem RH.top (A : RA M0 pr ph pt) (h : RH M0 M' pr ph pt toks ((a, row) :: rows) heads) (row' : List PV) : RH M0 (updM M' a (.lst row')) pr ph pt toks ((a, row') :: rows) heads := by
  obtain ⟨f0, f1, f2, f3⟩ := h.fr (a, row) List.mem_cons_self
  refine ⟨h.x.mut f0, by rw [updM_ne (Ne.symm f1)]; exact h.er, by rw [updM_ne (Ne.symm f2)]; exact h.eh, by rw [updM_ne (Ne.symm f3)]; exact h.et, fun e me => ?_, h.nd, fun e me => ?_⟩
  · rcases List.mem_cons.mp me with rfl | me
    · exact updM_same
    · have nn := (List.nodup_cons.mp h.nd).1
      rw [updM_ne (fun z => nn (List.mem_map.mpr ⟨e, me, z⟩))]
      exact h.rw e (List.mem_cons_of_mem _ me)
  · rcases List.mem_cons.mp me with rfl | me
    · exact ⟨f0, f1, f2, f3⟩
    · exact h.fr e (List.mem_cons_of_mem _ me)
theorem RH.hd (A : RA M0 pr ph pt) (h : RH M0 M' pr ph pt toks rows heads) (heads' : List Str) : RH M0 (updM M' ph (.lst (pss heads'.reverse))) pr ph pt toks rows heads' :=
  ⟨h.x.mut A.n2, by rw [updM_ne A.h1]; exact h.er, updM_same, by rw [updM_ne A.h3.symm]; exact h.et, fun e me => by rw [updM_ne (h.fr e me).2.2.1]; exact h.rw e me, h.nd, h.fr⟩
/-- a row more -/
theorem RH.push (A : RA M0 pr ph pt) (h : RH M0 M' pr ph pt toks rows heads) {q : Addr} {M1 : MHp} (nq : M' q = none) (x1 : Ext M' M1) (hq : M1 q = some (.lst [])) : RH M0 (updM M1 pr (.lst ((((q, ([] : List PV)) :: rows).map fun e => PV.ref e.1).reverse))) pr ph pt toks ((q, []) :: rows) heads := by
  have q1 : q ≠ pr := fun z => by rw [z, h.er] at nq; cases nq
  have q2 : q ≠ ph := fun z => by rw [z, h.eh] at nq; cases nq
  have q3 : q ≠ pt := fun z => by rw [z, h.et] at nq; cases nq
  refine ⟨(h.x.trans x1).mut A.n1, updM_same, by rw [updM_ne A.h1.symm]; exact x1 _ _ h.eh, by rw [updM_ne A.h2.symm]; exact x1 _ _ h.et, fun e me => ?_, ?_, fun e me => ?_⟩
  · rcases List.mem_cons.mp me with rfl | me
    · rw [updM_ne q1]; exact hq
    · rw [updM_ne (h.fr e me).2.1]; exact x1 _ _ (h.rw e me)
  · refine List.nodup_cons.mpr ⟨fun m => ?_, h.nd⟩
    obtain ⟨e, me, z⟩ := List.mem_map.mp m
    have := h.rw e me
    rw [z, nq] at this; cases this
  · rcases List.mem_cons.mp me with rfl | me
    · exact ⟨h.x.none nq, q1, q2, q3⟩
    · exact h.fr e me
/-- the top row away -/
theorem RH.pop (A : RA M0 pr ph pt) (h : RH M0 M' pr ph pt toks ((a, row) :: rows) heads) : RH M0 (updM M' pr (.lst ((rows.map fun e => PV.ref e.1).reverse))) pr ph pt toks rows heads :=
  ⟨h.x.mut A.n1, updM_same, by rw [updM_ne A.h1.symm]; exact h.eh, by rw [updM_ne A.h2.symm]; exact h.et, fun e me => by rw [updM_ne (h.fr e (List.mem_cons_of_mem _ me)).2.1]; exact h.rw e (List.mem_cons_of_mem _ me), (List.nodup_cons.mp h.nd).2, fun e me => h.fr e (List.mem_cons_of_mem _ me)⟩
end
theorem loopG_cons {it : MIt} {g : MG} {b : MS} {D : MEnds} {x : PV} {xs : List PV} {μ : MSt} {M : MHp} (h : ∀ L : MSt → MHp → Prop, (∀ μ M, loopG it g b D xs μ M → L μ M) → it.w M (g x μ M (fun μ2 M2 => b { D with nx := L, ct := L, bk := D.nx } μ2 M2) D.ex)) : loopG it g b D (x :: xs) μ M := h _ fun _ _ h => h
theorem atI_m1 {α : Type} {l : List α} {x : α} : atI ((x :: l).reverse) (-1) = some x := by rw [List.reverse_cons]; exact atI_last _ _
theorem f_ln : decide ((lp : Str) = ("name" : Str)) = false := by decide +kernel
theorem f_rn : decide ((rp : Str) = ("name" : Str)) = false := by decide +kernel
theorem f_ll : decide ((lp : Str) = ("(" : Str)) = true := by decide +kernel
theorem f_rl : decide ((rp : Str) = ("(" : Str)) = false := by decide +kernel
theorem f_rr : decide ((rp : Str) = (")" : Str)) = true := by decide +kernel
theorem f_en : decide (("" : Str) = ("name" : Str)) = false := by decide +kernel
theorem f_el : decide (("" : Str) = ("(" : Str)) = false := by decide +kernel
theorem f_er : decide (("" : Str) = (")" : Str)) = false := by decide +kernel
/-- tokens as they stand in the list -/
def isTok (x : PV) (t : Str) : Prop := ∃ l c : Nat, x = .tup [.str (tokOf (cl t)).1, .str (tokOf (cl t)).2, .int l, .int c]
theorem tok_nm {n : Str} (h : NameTok n) : tokOf (cl n) = (("name" : Str), n) := by
  have := tok_name (cs := []) h (fun c s z => nomatch z)
  rwa [List.append_nil] at this
theorem tok_lp : tokOf (cl lp) = (lp, lp) := tok_par (cs := []) (.inl rfl)
theorem tok_rp : tokOf (cl rp) = (rp, rp) := tok_par (cs := []) (.inr rfl)
end K02
end PL
end L2
set_option maxRecDepth 100000
set_option maxHeartbeats 2000000
namespace L2
namespace PL
namespace K02
open PySem PySem.Spec PyProof.Rows K01 F
section
variable {M0 : MHp} {pr ph pt : Addr} {toks : List PV} {z : Str} {D : MEnds}
def Rst (M0 : MHp) (pr ph pt : Addr) (toks : List PV) (z : Str) (D : MEnds) (rows : List (Addr × List PV)) (heads : List Str) (trees : Nat) (named : Bool) (xs : List PV) : Prop :=
  ∀ s w l c hd bn M', RH M0 M' pr ph pt toks rows heads → loopG (.live pt toks) rdG rdB D xs [some (.str z), some (.ref pr), some (.ref ph), some (.int (trees : Nat)), some (.bl named), s, w, l, c, hd, bn] M'
theorem st_name (A : RA M0 pr ph pt) {rows : List (Addr × List PV)} {heads : List Str} {a : Addr} {row : List PV} {trees : Nat} {named : Bool} {x : PV} {xs : List PV} {n : Str} (hn : NameTok n) (hx : isTok x n) (ht : trees < 2000) (hr : rows.length + 1 ≤ 60) (hrow : row.length ≤ 2000)
    (h : Rst M0 pr ph pt toks z D ((a, row ++ [.tup [.str n, .tup []]]) :: rows) heads (trees + 1) true xs) : Rst M0 pr ph pt toks z D ((a, row) :: rows) heads trees named (x :: xs) := by
  intro s w l c hd bn M' hH
  obtain ⟨l1, c1, rfl⟩ := hx
  rw [tok_nm hn]
  refine loopG_cons fun L hL => ⟨hH.et, ?_⟩
  unfold rdG
  simp only [mSeq, mAsg, mOp, mUn, mVar, mC, mCB, mCons, mNil, mTup, mLst_n, mB, mTru, mNot, mAnd, mOr, mAndV, mOrV, mNotV, mIf, mIfS, mRet, mRetN, mDrop, mNext, mBreak, mCont, mBM, mBM0, mCall, mFor, mLc, mYes, iSeq, iRng, iRng2, iRevRng, gNameM, gSubM, mAug, mIsi, mSl, mPart, mNoPart, mRaise, getS_0, getS_s, isB_bl, truP_t, truP_b, sIx_t, sIx_o, sIx_r, sIx_s, sAdd_ii, sAdd_ss, sAdd_tt, sAdd_rr, sIAdd_ii, sIAdd_ss, sMul_ii, sMul_si, sI2_ii, sLen_t, sLen_o, sLen_r, sLen_s, sInt_i, sAbs_i, sMin2_i, sMax2_i, sStrI_i, sTupOf_t, sTupOf_r, sLstOf_t, sLstOf_r, sAppend_r, sPop_r, sPopAt_r, sInsert_r, sSet_r, sEq_ii, sEq_ss, sNe_ii, sNe_ss, sIn_ss, sIn_st, sIn_sr, sIs_n, sIsNot_n, isNonP_n, isNonP_t, isNonP_s, isNonP_i, isNonP_r, sNeg_i, sJoin_r, sSl_r, mDict0_n, mDict1_n, gTupM_t, gConsM_c, gNilM_n, seqP_t, seqP_o, seqP_r, withL_upd, upd_upd, dec_if, true_and, and_true, List.set_cons_zero, List.set_cons_succ, atI_0, atI_1, atI_2, ixN_30, ixN_31, ixN_32, ixN_s0, Option.some.injEq, exists_eq_left', exists_eq_left, Bool.not_true, Bool.not_false, if_true, if_false, Bool.false_eq_true, reduceCtorEq, List.length_cons, List.length_nil, endsOf, wipeM, List.map_cons, List.map_nil, ite_true, ite_false, eq_self_iff_true, false_and, Nat.reduceAdd, decide_true, decide_false]
  unfold rdB
  refine seq_i fun N hN => ?_
  have er := hH.er
  rw [List.map_cons] at er
  have ea := hH.rw (a, row) List.mem_cons_self
  have ea : M' a = some (.lst row) := ea
  have len : ((PV.ref a :: rows.map fun e => PV.ref e.1).reverse).length = rows.length + 1 := by simp
  simp only [mSeq, mAsg, mOp, mUn, mVar, mC, mCB, mCons, mNil, mTup, mLst_n, mB, mTru, mNot, mAnd, mOr, mAndV, mOrV, mNotV, mIf, mIfS, mRet, mRetN, mDrop, mNext, mBreak, mCont, mBM, mBM0, mCall, mFor, mLc, mYes, iSeq, iRng, iRng2, iRevRng, gNameM, gSubM, mAug, mIsi, mSl, mPart, mNoPart, mRaise, getS_0, getS_s, isB_bl, truP_t, truP_b, sIx_t, sIx_o, sIx_r, sIx_s, sAdd_ii, sAdd_ss, sAdd_tt, sAdd_rr, sIAdd_ii, sIAdd_ss, sMul_ii, sMul_si, sI2_ii, sLen_t, sLen_o, sLen_r, sLen_s, sInt_i, sAbs_i, sMin2_i, sMax2_i, sStrI_i, sTupOf_t, sTupOf_r, sLstOf_t, sLstOf_r, sAppend_r, sPop_r, sPopAt_r, sInsert_r, sSet_r, sEq_ii, sEq_ss, sNe_ii, sNe_ss, sIn_ss, sIn_st, sIn_sr, sIs_n, sIsNot_n, isNonP_n, isNonP_t, isNonP_s, isNonP_i, isNonP_r, sNeg_i, sJoin_r, sSl_r, mDict0_n, mDict1_n, gTupM_t, gConsM_c, gNilM_n, seqP_t, seqP_o, seqP_r, withL_upd, upd_upd, dec_if, true_and, and_true, List.set_cons_zero, List.set_cons_succ, atI_0, atI_1, atI_2, ixN_30, ixN_31, ixN_32, ixN_s0, Option.some.injEq, exists_eq_left', exists_eq_left, Bool.not_true, Bool.not_false, if_true, if_false, Bool.false_eq_true, reduceCtorEq, List.length_cons, List.length_nil, endsOf, wipeM, List.map_cons, List.map_nil, ite_true, ite_false, eq_self_iff_true, false_and, Nat.reduceAdd, decide_true, decide_false, withL_eq er]
  rw [len, if_pos (by omega), if_pos (by omega)]
  refine ⟨_, atI_m1, ?_⟩
  simp only [mSeq, mAsg, mOp, mUn, mVar, mC, mCB, mCons, mNil, mTup, mLst_n, mB, mTru, mNot, mAnd, mOr, mAndV, mOrV, mNotV, mIf, mIfS, mRet, mRetN, mDrop, mNext, mBreak, mCont, mBM, mBM0, mCall, mFor, mLc, mYes, iSeq, iRng, iRng2, iRevRng, gNameM, gSubM, mAug, mIsi, mSl, mPart, mNoPart, mRaise, getS_0, getS_s, isB_bl, truP_t, truP_b, sIx_t, sIx_o, sIx_r, sIx_s, sAdd_ii, sAdd_ss, sAdd_tt, sAdd_rr, sIAdd_ii, sIAdd_ss, sMul_ii, sMul_si, sI2_ii, sLen_t, sLen_o, sLen_r, sLen_s, sInt_i, sAbs_i, sMin2_i, sMax2_i, sStrI_i, sTupOf_t, sTupOf_r, sLstOf_t, sLstOf_r, sAppend_r, sPop_r, sPopAt_r, sInsert_r, sSet_r, sEq_ii, sEq_ss, sNe_ii, sNe_ss, sIn_ss, sIn_st, sIn_sr, sIs_n, sIsNot_n, isNonP_n, isNonP_t, isNonP_s, isNonP_i, isNonP_r, sNeg_i, sJoin_r, sSl_r, mDict0_n, mDict1_n, gTupM_t, gConsM_c, gNilM_n, seqP_t, seqP_o, seqP_r, withL_upd, upd_upd, dec_if, true_and, and_true, List.set_cons_zero, List.set_cons_succ, atI_0, atI_1, atI_2, ixN_30, ixN_31, ixN_32, ixN_s0, Option.some.injEq, exists_eq_left', exists_eq_left, Bool.not_true, Bool.not_false, if_true, if_false, Bool.false_eq_true, reduceCtorEq, List.length_cons, List.length_nil, endsOf, wipeM, List.map_cons, List.map_nil, ite_true, ite_false, eq_self_iff_true, false_and, Nat.reduceAdd, decide_true, decide_false, tyM_l ea, withL_eq ea]
  refine ⟨by decide, by decide, by rw [sz24]; omega, hN _ _ ?_⟩
  have e1 : (trees : Int) + 1 = ((trees + 1 : Nat) : Int) := by omega
  rw [e1]
  simp only [mSeq, mAsg, mOp, mUn, mVar, mC, mCB, mCons, mNil, mTup, mLst_n, mB, mTru, mNot, mAnd, mOr, mAndV, mOrV, mNotV, mIf, mIfS, mRet, mRetN, mDrop, mNext, mBreak, mCont, mBM, mBM0, mCall, mFor, mLc, mYes, iSeq, iRng, iRng2, iRevRng, gNameM, gSubM, mAug, mIsi, mSl, mPart, mNoPart, mRaise, getS_0, getS_s, isB_bl, truP_t, truP_b, sIx_t, sIx_o, sIx_r, sIx_s, sAdd_ii, sAdd_ss, sAdd_tt, sAdd_rr, sIAdd_ii, sIAdd_ss, sMul_ii, sMul_si, sI2_ii, sLen_t, sLen_o, sLen_r, sLen_s, sInt_i, sAbs_i, sMin2_i, sMax2_i, sStrI_i, sTupOf_t, sTupOf_r, sLstOf_t, sLstOf_r, sAppend_r, sPop_r, sPopAt_r, sInsert_r, sSet_r, sEq_ii, sEq_ss, sNe_ii, sNe_ss, sIn_ss, sIn_st, sIn_sr, sIs_n, sIsNot_n, isNonP_n, isNonP_t, isNonP_s, isNonP_i, isNonP_r, sNeg_i, sJoin_r, sSl_r, mDict0_n, mDict1_n, gTupM_t, gConsM_c, gNilM_n, seqP_t, seqP_o, seqP_r, withL_upd, upd_upd, dec_if, true_and, and_true, List.set_cons_zero, List.set_cons_succ, atI_0, atI_1, atI_2, ixN_30, ixN_31, ixN_32, ixN_s0, Option.some.injEq, exists_eq_left', exists_eq_left, Bool.not_true, Bool.not_false, if_true, if_false, Bool.false_eq_true, reduceCtorEq, List.length_cons, List.length_nil, endsOf, wipeM, List.map_cons, List.map_nil, ite_true, ite_false, eq_self_iff_true, false_and, Nat.reduceAdd, decide_true, decide_false]
  exact hL _ _ (h _ _ _ _ _ _ _ (hH.top A _))
theorem st_lp (A : RA M0 pr ph pt) {rows : List (Addr × List PV)} {heads : List Str} {a : Addr} {row : List PV} {trees : Nat} {x : PV} {xs : List PV} {n : Str} (hx : isTok x lp) (hr : rows.length + 1 ≤ 60) (hh : heads.length ≤ 60)
    (h : ∀ q, Rst M0 pr ph pt toks z D ((q, []) :: (a, row) :: rows) (n :: heads) trees false xs) : Rst M0 pr ph pt toks z D ((a, row ++ [.tup [.str n, .tup []]]) :: rows) heads trees true (x :: xs) := by
  intro s w l c hd bn M' hH
  obtain ⟨l1, c1, rfl⟩ := hx
  rw [tok_lp]
  refine loopG_cons fun L hL => ⟨hH.et, ?_⟩
  unfold rdG
  simp only [mSeq, mAsg, mOp, mUn, mVar, mC, mCB, mCons, mNil, mTup, mLst_n, mB, mTru, mNot, mAnd, mOr, mAndV, mOrV, mNotV, mIf, mIfS, mRet, mRetN, mDrop, mNext, mBreak, mCont, mBM, mBM0, mCall, mFor, mLc, mYes, iSeq, iRng, iRng2, iRevRng, gNameM, gSubM, mAug, mIsi, mSl, mPart, mNoPart, mRaise, getS_0, getS_s, isB_bl, truP_t, truP_b, sIx_t, sIx_o, sIx_r, sIx_s, sAdd_ii, sAdd_ss, sAdd_tt, sAdd_rr, sIAdd_ii, sIAdd_ss, sMul_ii, sMul_si, sI2_ii, sLen_t, sLen_o, sLen_r, sLen_s, sInt_i, sAbs_i, sMin2_i, sMax2_i, sStrI_i, sTupOf_t, sTupOf_r, sLstOf_t, sLstOf_r, sAppend_r, sPop_r, sPopAt_r, sInsert_r, sSet_r, sEq_ii, sEq_ss, sNe_ii, sNe_ss, sIn_ss, sIn_st, sIn_sr, sIs_n, sIsNot_n, isNonP_n, isNonP_t, isNonP_s, isNonP_i, isNonP_r, sNeg_i, sJoin_r, sSl_r, mDict0_n, mDict1_n, gTupM_t, gConsM_c, gNilM_n, seqP_t, seqP_o, seqP_r, withL_upd, upd_upd, dec_if, true_and, and_true, List.set_cons_zero, List.set_cons_succ, atI_0, atI_1, atI_2, ixN_30, ixN_31, ixN_32, ixN_s0, Option.some.injEq, exists_eq_left', exists_eq_left, Bool.not_true, Bool.not_false, if_true, if_false, Bool.false_eq_true, reduceCtorEq, List.length_cons, List.length_nil, endsOf, wipeM, List.map_cons, List.map_nil, ite_true, ite_false, eq_self_iff_true, false_and, Nat.reduceAdd, decide_true, decide_false]
  unfold rdB
  refine seq_i fun N hN => ?_
  have er := hH.er
  rw [List.map_cons] at er
  have ea : M' a = some (.lst (row ++ [.tup [.str n, .tup []]])) := hH.rw (a, _) List.mem_cons_self
  have d1 : ((lp : Str) = ("name" : Str)) = False := eq_false (of_decide_eq_false f_ln)
  have d2 : ((lp : Str) = ("(" : Str)) = True := eq_true (of_decide_eq_true f_ll)
  simp only [mSeq, mAsg, mOp, mUn, mVar, mC, mCB, mCons, mNil, mTup, mLst_n, mB, mTru, mNot, mAnd, mOr, mAndV, mOrV, mNotV, mIf, mIfS, mRet, mRetN, mDrop, mNext, mBreak, mCont, mBM, mBM0, mCall, mFor, mLc, mYes, iSeq, iRng, iRng2, iRevRng, gNameM, gSubM, mAug, mIsi, mSl, mPart, mNoPart, mRaise, getS_0, getS_s, isB_bl, truP_t, truP_b, sIx_t, sIx_o, sIx_r, sIx_s, sAdd_ii, sAdd_ss, sAdd_tt, sAdd_rr, sIAdd_ii, sIAdd_ss, sMul_ii, sMul_si, sI2_ii, sLen_t, sLen_o, sLen_r, sLen_s, sInt_i, sAbs_i, sMin2_i, sMax2_i, sStrI_i, sTupOf_t, sTupOf_r, sLstOf_t, sLstOf_r, sAppend_r, sPop_r, sPopAt_r, sInsert_r, sSet_r, sEq_ii, sEq_ss, sNe_ii, sNe_ss, sIn_ss, sIn_st, sIn_sr, sIs_n, sIsNot_n, isNonP_n, isNonP_t, isNonP_s, isNonP_i, isNonP_r, sNeg_i, sJoin_r, sSl_r, mDict0_n, mDict1_n, gTupM_t, gConsM_c, gNilM_n, seqP_t, seqP_o, seqP_r, withL_upd, upd_upd, dec_if, true_and, and_true, List.set_cons_zero, List.set_cons_succ, atI_0, atI_1, atI_2, ixN_30, ixN_31, ixN_32, ixN_s0, Option.some.injEq, exists_eq_left', exists_eq_left, Bool.not_true, Bool.not_false, if_true, if_false, Bool.false_eq_true, reduceCtorEq, List.length_cons, List.length_nil, endsOf, wipeM, List.map_cons, List.map_nil, ite_true, ite_false, eq_self_iff_true, false_and, Nat.reduceAdd, decide_true, decide_false, withL_eq er, d1, d2]
  refine ⟨_, atI_m1, ?_⟩
  simp only [mSeq, mAsg, mOp, mUn, mVar, mC, mCB, mCons, mNil, mTup, mLst_n, mB, mTru, mNot, mAnd, mOr, mAndV, mOrV, mNotV, mIf, mIfS, mRet, mRetN, mDrop, mNext, mBreak, mCont, mBM, mBM0, mCall, mFor, mLc, mYes, iSeq, iRng, iRng2, iRevRng, gNameM, gSubM, mAug, mIsi, mSl, mPart, mNoPart, mRaise, getS_0, getS_s, isB_bl, truP_t, truP_b, sIx_t, sIx_o, sIx_r, sIx_s, sAdd_ii, sAdd_ss, sAdd_tt, sAdd_rr, sIAdd_ii, sIAdd_ss, sMul_ii, sMul_si, sI2_ii, sLen_t, sLen_o, sLen_r, sLen_s, sInt_i, sAbs_i, sMin2_i, sMax2_i, sStrI_i, sTupOf_t, sTupOf_r, sLstOf_t, sLstOf_r, sAppend_r, sPop_r, sPopAt_r, sInsert_r, sSet_r, sEq_ii, sEq_ss, sNe_ii, sNe_ss, sIn_ss, sIn_st, sIn_sr, sIs_n, sIsNot_n, isNonP_n, isNonP_t, isNonP_s, isNonP_i, isNonP_r, sNeg_i, sJoin_r, sSl_r, mDict0_n, mDict1_n, gTupM_t, gConsM_c, gNilM_n, seqP_t, seqP_o, seqP_r, withL_upd, upd_upd, dec_if, true_and, and_true, List.set_cons_zero, List.set_cons_succ, atI_0, atI_1, atI_2, ixN_30, ixN_31, ixN_32, ixN_s0, Option.some.injEq, exists_eq_left', exists_eq_left, Bool.not_true, Bool.not_false, if_true, if_false, Bool.false_eq_true, reduceCtorEq, List.length_cons, List.length_nil, endsOf, wipeM, List.map_cons, List.map_nil, ite_true, ite_false, eq_self_iff_true, false_and, Nat.reduceAdd, decide_true, decide_false, tyM_l ea, withL_eq ea]
  refine ⟨.tup [.str n, .tup []], by simp, ?_⟩
  have ed : (row ++ [PV.tup [.str n, .tup []]]).dropLast = row := by simp
  rw [ed]
  have hH := hH.top A row
  generalize updM M' a (.lst row) = M1 at hH
  have eh := hH.eh
  simp only [mSeq, mAsg, mOp, mUn, mVar, mC, mCB, mCons, mNil, mTup, mLst_n, mB, mTru, mNot, mAnd, mOr, mAndV, mOrV, mNotV, mIf, mIfS, mRet, mRetN, mDrop, mNext, mBreak, mCont, mBM, mBM0, mCall, mFor, mLc, mYes, iSeq, iRng, iRng2, iRevRng, gNameM, gSubM, mAug, mIsi, mSl, mPart, mNoPart, mRaise, getS_0, getS_s, isB_bl, truP_t, truP_b, sIx_t, sIx_o, sIx_r, sIx_s, sAdd_ii, sAdd_ss, sAdd_tt, sAdd_rr, sIAdd_ii, sIAdd_ss, sMul_ii, sMul_si, sI2_ii, sLen_t, sLen_o, sLen_r, sLen_s, sInt_i, sAbs_i, sMin2_i, sMax2_i, sStrI_i, sTupOf_t, sTupOf_r, sLstOf_t, sLstOf_r, sAppend_r, sPop_r, sPopAt_r, sInsert_r, sSet_r, sEq_ii, sEq_ss, sNe_ii, sNe_ss, sIn_ss, sIn_st, sIn_sr, sIs_n, sIsNot_n, isNonP_n, isNonP_t, isNonP_s, isNonP_i, isNonP_r, sNeg_i, sJoin_r, sSl_r, mDict0_n, mDict1_n, gTupM_t, gConsM_c, gNilM_n, seqP_t, seqP_o, seqP_r, withL_upd, upd_upd, dec_if, true_and, and_true, List.set_cons_zero, List.set_cons_succ, atI_0, atI_1, atI_2, ixN_30, ixN_31, ixN_32, ixN_s0, Option.some.injEq, exists_eq_left', exists_eq_left, Bool.not_true, Bool.not_false, if_true, if_false, Bool.false_eq_true, reduceCtorEq, List.length_cons, List.length_nil, endsOf, wipeM, List.map_cons, List.map_nil, ite_true, ite_false, eq_self_iff_true, false_and, Nat.reduceAdd, decide_true, decide_false, tyM_l eh, withL_eq eh]
  refine ⟨by rw [sz24]; simp [pss]; omega, ?_⟩
  have eP : pss heads.reverse ++ [PV.str n] = pss (n :: heads).reverse := by simp [pss]
  rw [eP]
  have hH := hH.hd A (n :: heads)
  generalize updM M1 ph (.lst (pss (n :: heads).reverse)) = M2 at hH
  have er := hH.er
  simp only [mSeq, mAsg, mOp, mUn, mVar, mC, mCB, mCons, mNil, mTup, mLst_n, mB, mTru, mNot, mAnd, mOr, mAndV, mOrV, mNotV, mIf, mIfS, mRet, mRetN, mDrop, mNext, mBreak, mCont, mBM, mBM0, mCall, mFor, mLc, mYes, iSeq, iRng, iRng2, iRevRng, gNameM, gSubM, mAug, mIsi, mSl, mPart, mNoPart, mRaise, getS_0, getS_s, isB_bl, truP_t, truP_b, sIx_t, sIx_o, sIx_r, sIx_s, sAdd_ii, sAdd_ss, sAdd_tt, sAdd_rr, sIAdd_ii, sIAdd_ss, sMul_ii, sMul_si, sI2_ii, sLen_t, sLen_o, sLen_r, sLen_s, sInt_i, sAbs_i, sMin2_i, sMax2_i, sStrI_i, sTupOf_t, sTupOf_r, sLstOf_t, sLstOf_r, sAppend_r, sPop_r, sPopAt_r, sInsert_r, sSet_r, sEq_ii, sEq_ss, sNe_ii, sNe_ss, sIn_ss, sIn_st, sIn_sr, sIs_n, sIsNot_n, isNonP_n, isNonP_t, isNonP_s, isNonP_i, isNonP_r, sNeg_i, sJoin_r, sSl_r, mDict0_n, mDict1_n, gTupM_t, gConsM_c, gNilM_n, seqP_t, seqP_o, seqP_r, withL_upd, upd_upd, dec_if, true_and, and_true, List.set_cons_zero, List.set_cons_succ, atI_0, atI_1, atI_2, ixN_30, ixN_31, ixN_32, ixN_s0, Option.some.injEq, exists_eq_left', exists_eq_left, Bool.not_true, Bool.not_false, if_true, if_false, Bool.false_eq_true, reduceCtorEq, List.length_cons, List.length_nil, endsOf, wipeM, List.map_cons, List.map_nil, ite_true, ite_false, eq_self_iff_true, false_and, Nat.reduceAdd, decide_true, decide_false, tyM_l er]
  refine ⟨by decide, newL_i fun q M3 n3 h3 x3 => ?_⟩
  have er3 := x3 _ _ er
  simp only [mSeq, mAsg, mOp, mUn, mVar, mC, mCB, mCons, mNil, mTup, mLst_n, mB, mTru, mNot, mAnd, mOr, mAndV, mOrV, mNotV, mIf, mIfS, mRet, mRetN, mDrop, mNext, mBreak, mCont, mBM, mBM0, mCall, mFor, mLc, mYes, iSeq, iRng, iRng2, iRevRng, gNameM, gSubM, mAug, mIsi, mSl, mPart, mNoPart, mRaise, getS_0, getS_s, isB_bl, truP_t, truP_b, sIx_t, sIx_o, sIx_r, sIx_s, sAdd_ii, sAdd_ss, sAdd_tt, sAdd_rr, sIAdd_ii, sIAdd_ss, sMul_ii, sMul_si, sI2_ii, sLen_t, sLen_o, sLen_r, sLen_s, sInt_i, sAbs_i, sMin2_i, sMax2_i, sStrI_i, sTupOf_t, sTupOf_r, sLstOf_t, sLstOf_r, sAppend_r, sPop_r, sPopAt_r, sInsert_r, sSet_r, sEq_ii, sEq_ss, sNe_ii, sNe_ss, sIn_ss, sIn_st, sIn_sr, sIs_n, sIsNot_n, isNonP_n, isNonP_t, isNonP_s, isNonP_i, isNonP_r, sNeg_i, sJoin_r, sSl_r, mDict0_n, mDict1_n, gTupM_t, gConsM_c, gNilM_n, seqP_t, seqP_o, seqP_r, withL_upd, upd_upd, dec_if, true_and, and_true, List.set_cons_zero, List.set_cons_succ, atI_0, atI_1, atI_2, ixN_30, ixN_31, ixN_32, ixN_s0, Option.some.injEq, exists_eq_left', exists_eq_left, Bool.not_true, Bool.not_false, if_true, if_false, Bool.false_eq_true, reduceCtorEq, List.length_cons, List.length_nil, endsOf, wipeM, List.map_cons, List.map_nil, ite_true, ite_false, eq_self_iff_true, false_and, Nat.reduceAdd, decide_true, decide_false, tyM_l er3, withL_eq er3]
  refine ⟨by rw [sz24]; simp; omega, hN _ _ ?_⟩
  have hH := hH.push A n3 x3 h3
  rw [List.map_cons, List.reverse_cons] at hH
  simp only [mSeq, mAsg, mOp, mUn, mVar, mC, mCB, mCons, mNil, mTup, mLst_n, mB, mTru, mNot, mAnd, mOr, mAndV, mOrV, mNotV, mIf, mIfS, mRet, mRetN, mDrop, mNext, mBreak, mCont, mBM, mBM0, mCall, mFor, mLc, mYes, iSeq, iRng, iRng2, iRevRng, gNameM, gSubM, mAug, mIsi, mSl, mPart, mNoPart, mRaise, getS_0, getS_s, isB_bl, truP_t, truP_b, sIx_t, sIx_o, sIx_r, sIx_s, sAdd_ii, sAdd_ss, sAdd_tt, sAdd_rr, sIAdd_ii, sIAdd_ss, sMul_ii, sMul_si, sI2_ii, sLen_t, sLen_o, sLen_r, sLen_s, sInt_i, sAbs_i, sMin2_i, sMax2_i, sStrI_i, sTupOf_t, sTupOf_r, sLstOf_t, sLstOf_r, sAppend_r, sPop_r, sPopAt_r, sInsert_r, sSet_r, sEq_ii, sEq_ss, sNe_ii, sNe_ss, sIn_ss, sIn_st, sIn_sr, sIs_n, sIsNot_n, isNonP_n, isNonP_t, isNonP_s, isNonP_i, isNonP_r, sNeg_i, sJoin_r, sSl_r, mDict0_n, mDict1_n, gTupM_t, gConsM_c, gNilM_n, seqP_t, seqP_o, seqP_r, withL_upd, upd_upd, dec_if, true_and, and_true, List.set_cons_zero, List.set_cons_succ, atI_0, atI_1, atI_2, ixN_30, ixN_31, ixN_32, ixN_s0, Option.some.injEq, exists_eq_left', exists_eq_left, Bool.not_true, Bool.not_false, if_true, if_false, Bool.false_eq_true, reduceCtorEq, List.length_cons, List.length_nil, endsOf, wipeM, List.map_cons, List.map_nil, ite_true, ite_false, eq_self_iff_true, false_and, Nat.reduceAdd, decide_true, decide_false, d1]
  exact hL _ _ (h q _ _ _ _ _ _ _ hH)
theorem st_rp (A : RA M0 pr ph pt) {rows : List (Addr × List PV)} {heads : List Str} {a q : Addr} {row br : List PV} {trees : Nat} {named : Bool} {x : PV} {xs : List PV} {n : Str} (hx : isTok x rp) (hrow : row.length ≤ 2000)
    (h : Rst M0 pr ph pt toks z D ((a, row ++ [.tup [.str n, .tup br]]) :: rows) heads trees false xs) : Rst M0 pr ph pt toks z D ((q, br) :: (a, row) :: rows) (n :: heads) trees named (x :: xs) := by
  intro s w l c hd bn M' hH
  obtain ⟨l1, c1, rfl⟩ := hx
  rw [tok_rp]
  refine loopG_cons fun L hL => ⟨hH.et, ?_⟩
  unfold rdG
  simp only [mSeq, mAsg, mOp, mUn, mVar, mC, mCB, mCons, mNil, mTup, mLst_n, mB, mTru, mNot, mAnd, mOr, mAndV, mOrV, mNotV, mIf, mIfS, mRet, mRetN, mDrop, mNext, mBreak, mCont, mBM, mBM0, mCall, mFor, mLc, mYes, iSeq, iRng, iRng2, iRevRng, gNameM, gSubM, mAug, mIsi, mSl, mPart, mNoPart, mRaise, getS_0, getS_s, isB_bl, truP_t, truP_b, sIx_t, sIx_o, sIx_r, sIx_s, sAdd_ii, sAdd_ss, sAdd_tt, sAdd_rr, sIAdd_ii, sIAdd_ss, sMul_ii, sMul_si, sI2_ii, sLen_t, sLen_o, sLen_r, sLen_s, sInt_i, sAbs_i, sMin2_i, sMax2_i, sStrI_i, sTupOf_t, sTupOf_r, sLstOf_t, sLstOf_r, sAppend_r, sPop_r, sPopAt_r, sInsert_r, sSet_r, sEq_ii, sEq_ss, sNe_ii, sNe_ss, sIn_ss, sIn_st, sIn_sr, sIs_n, sIsNot_n, isNonP_n, isNonP_t, isNonP_s, isNonP_i, isNonP_r, sNeg_i, sJoin_r, sSl_r, mDict0_n, mDict1_n, gTupM_t, gConsM_c, gNilM_n, seqP_t, seqP_o, seqP_r, withL_upd, upd_upd, dec_if, true_and, and_true, List.set_cons_zero, List.set_cons_succ, atI_0, atI_1, atI_2, ixN_30, ixN_31, ixN_32, ixN_s0, Option.some.injEq, exists_eq_left', exists_eq_left, Bool.not_true, Bool.not_false, if_true, if_false, Bool.false_eq_true, reduceCtorEq, List.length_cons, List.length_nil, endsOf, wipeM, List.map_cons, List.map_nil, ite_true, ite_false, eq_self_iff_true, false_and, Nat.reduceAdd, decide_true, decide_false]
  unfold rdB
  refine seq_i fun N hN => ?_
  have er := hH.er
  rw [List.map_cons] at er
  have eq' : M' q = some (.lst br) := hH.rw (q, br) List.mem_cons_self
  have eh := hH.eh
  have d1 : ((rp : Str) = ("name" : Str)) = False := eq_false (of_decide_eq_false f_rn)
  have d2 : ((rp : Str) = ("(" : Str)) = False := eq_false (of_decide_eq_false f_rl)
  have d3 : ((rp : Str) = (")" : Str)) = True := eq_true (of_decide_eq_true f_rr)
  have ne : (!(pss (n :: heads).reverse).isEmpty) = true := by simp [pss]
  simp only [mSeq, mAsg, mOp, mUn, mVar, mC, mCB, mCons, mNil, mTup, mLst_n, mB, mTru, mNot, mAnd, mOr, mAndV, mOrV, mNotV, mIf, mIfS, mRet, mRetN, mDrop, mNext, mBreak, mCont, mBM, mBM0, mCall, mFor, mLc, mYes, iSeq, iRng, iRng2, iRevRng, gNameM, gSubM, mAug, mIsi, mSl, mPart, mNoPart, mRaise, getS_0, getS_s, isB_bl, truP_t, truP_b, sIx_t, sIx_o, sIx_r, sIx_s, sAdd_ii, sAdd_ss, sAdd_tt, sAdd_rr, sIAdd_ii, sIAdd_ss, sMul_ii, sMul_si, sI2_ii, sLen_t, sLen_o, sLen_r, sLen_s, sInt_i, sAbs_i, sMin2_i, sMax2_i, sStrI_i, sTupOf_t, sTupOf_r, sLstOf_t, sLstOf_r, sAppend_r, sPop_r, sPopAt_r, sInsert_r, sSet_r, sEq_ii, sEq_ss, sNe_ii, sNe_ss, sIn_ss, sIn_st, sIn_sr, sIs_n, sIsNot_n, isNonP_n, isNonP_t, isNonP_s, isNonP_i, isNonP_r, sNeg_i, sJoin_r, sSl_r, mDict0_n, mDict1_n, gTupM_t, gConsM_c, gNilM_n, seqP_t, seqP_o, seqP_r, withL_upd, upd_upd, dec_if, true_and, and_true, List.set_cons_zero, List.set_cons_succ, atI_0, atI_1, atI_2, ixN_30, ixN_31, ixN_32, ixN_s0, Option.some.injEq, exists_eq_left', exists_eq_left, Bool.not_true, Bool.not_false, if_true, if_false, Bool.false_eq_true, reduceCtorEq, List.length_cons, List.length_nil, endsOf, wipeM, List.map_cons, List.map_nil, ite_true, ite_false, eq_self_iff_true, false_and, Nat.reduceAdd, decide_true, decide_false, d1, d2, d3, truP_l eh]
  rw [if_pos ne]
  simp only [mSeq, mAsg, mOp, mUn, mVar, mC, mCB, mCons, mNil, mTup, mLst_n, mB, mTru, mNot, mAnd, mOr, mAndV, mOrV, mNotV, mIf, mIfS, mRet, mRetN, mDrop, mNext, mBreak, mCont, mBM, mBM0, mCall, mFor, mLc, mYes, iSeq, iRng, iRng2, iRevRng, gNameM, gSubM, mAug, mIsi, mSl, mPart, mNoPart, mRaise, getS_0, getS_s, isB_bl, truP_t, truP_b, sIx_t, sIx_o, sIx_r, sIx_s, sAdd_ii, sAdd_ss, sAdd_tt, sAdd_rr, sIAdd_ii, sIAdd_ss, sMul_ii, sMul_si, sI2_ii, sLen_t, sLen_o, sLen_r, sLen_s, sInt_i, sAbs_i, sMin2_i, sMax2_i, sStrI_i, sTupOf_t, sTupOf_r, sLstOf_t, sLstOf_r, sAppend_r, sPop_r, sPopAt_r, sInsert_r, sSet_r, sEq_ii, sEq_ss, sNe_ii, sNe_ss, sIn_ss, sIn_st, sIn_sr, sIs_n, sIsNot_n, isNonP_n, isNonP_t, isNonP_s, isNonP_i, isNonP_r, sNeg_i, sJoin_r, sSl_r, mDict0_n, mDict1_n, gTupM_t, gConsM_c, gNilM_n, seqP_t, seqP_o, seqP_r, withL_upd, upd_upd, dec_if, true_and, and_true, List.set_cons_zero, List.set_cons_succ, atI_0, atI_1, atI_2, ixN_30, ixN_31, ixN_32, ixN_s0, Option.some.injEq, exists_eq_left', exists_eq_left, Bool.not_true, Bool.not_false, if_true, if_false, Bool.false_eq_true, reduceCtorEq, List.length_cons, List.length_nil, endsOf, wipeM, List.map_cons, List.map_nil, ite_true, ite_false, eq_self_iff_true, false_and, Nat.reduceAdd, decide_true, decide_false, tyM_l er, withL_eq er]
  refine ⟨.ref q, by simp, ?_⟩
  try simp only [List.map_cons]
  have ed : ((PV.ref q :: PV.ref a :: List.map (fun e => PV.ref e.1) rows).reverse).dropLast = (((a, row) :: rows).map fun e => PV.ref e.1).reverse := by simp
  rw [ed]
  have eq2 : updM M' pr (.lst (((a, row) :: rows).map fun e => PV.ref e.1).reverse) q = some (.lst br) := by rw [updM_ne (hH.fr (q, br) List.mem_cons_self).2.1]; exact eq'
  have hH := hH.pop A
  generalize updM M' pr (.lst (((a, row) :: rows).map fun e => PV.ref e.1).reverse) = M1 at hH eq2
  have er := hH.er
  rw [List.map_cons] at er
  have ea : M1 a = some (.lst row) := hH.rw (a, row) List.mem_cons_self
  have eh := hH.eh
  simp only [mSeq, mAsg, mOp, mUn, mVar, mC, mCB, mCons, mNil, mTup, mLst_n, mB, mTru, mNot, mAnd, mOr, mAndV, mOrV, mNotV, mIf, mIfS, mRet, mRetN, mDrop, mNext, mBreak, mCont, mBM, mBM0, mCall, mFor, mLc, mYes, iSeq, iRng, iRng2, iRevRng, gNameM, gSubM, mAug, mIsi, mSl, mPart, mNoPart, mRaise, getS_0, getS_s, isB_bl, truP_t, truP_b, sIx_t, sIx_o, sIx_r, sIx_s, sAdd_ii, sAdd_ss, sAdd_tt, sAdd_rr, sIAdd_ii, sIAdd_ss, sMul_ii, sMul_si, sI2_ii, sLen_t, sLen_o, sLen_r, sLen_s, sInt_i, sAbs_i, sMin2_i, sMax2_i, sStrI_i, sTupOf_t, sTupOf_r, sLstOf_t, sLstOf_r, sAppend_r, sPop_r, sPopAt_r, sInsert_r, sSet_r, sEq_ii, sEq_ss, sNe_ii, sNe_ss, sIn_ss, sIn_st, sIn_sr, sIs_n, sIsNot_n, isNonP_n, isNonP_t, isNonP_s, isNonP_i, isNonP_r, sNeg_i, sJoin_r, sSl_r, mDict0_n, mDict1_n, gTupM_t, gConsM_c, gNilM_n, seqP_t, seqP_o, seqP_r, withL_upd, upd_upd, dec_if, true_and, and_true, List.set_cons_zero, List.set_cons_succ, atI_0, atI_1, atI_2, ixN_30, ixN_31, ixN_32, ixN_s0, Option.some.injEq, exists_eq_left', exists_eq_left, Bool.not_true, Bool.not_false, if_true, if_false, Bool.false_eq_true, reduceCtorEq, List.length_cons, List.length_nil, endsOf, wipeM, List.map_cons, List.map_nil, ite_true, ite_false, eq_self_iff_true, false_and, Nat.reduceAdd, decide_true, decide_false, withL_eq eq2, withL_eq er]
  refine ⟨_, atI_m1, ?_⟩
  simp only [mSeq, mAsg, mOp, mUn, mVar, mC, mCB, mCons, mNil, mTup, mLst_n, mB, mTru, mNot, mAnd, mOr, mAndV, mOrV, mNotV, mIf, mIfS, mRet, mRetN, mDrop, mNext, mBreak, mCont, mBM, mBM0, mCall, mFor, mLc, mYes, iSeq, iRng, iRng2, iRevRng, gNameM, gSubM, mAug, mIsi, mSl, mPart, mNoPart, mRaise, getS_0, getS_s, isB_bl, truP_t, truP_b, sIx_t, sIx_o, sIx_r, sIx_s, sAdd_ii, sAdd_ss, sAdd_tt, sAdd_rr, sIAdd_ii, sIAdd_ss, sMul_ii, sMul_si, sI2_ii, sLen_t, sLen_o, sLen_r, sLen_s, sInt_i, sAbs_i, sMin2_i, sMax2_i, sStrI_i, sTupOf_t, sTupOf_r, sLstOf_t, sLstOf_r, sAppend_r, sPop_r, sPopAt_r, sInsert_r, sSet_r, sEq_ii, sEq_ss, sNe_ii, sNe_ss, sIn_ss, sIn_st, sIn_sr, sIs_n, sIsNot_n, isNonP_n, isNonP_t, isNonP_s, isNonP_i, isNonP_r, sNeg_i, sJoin_r, sSl_r, mDict0_n, mDict1_n, gTupM_t, gConsM_c, gNilM_n, seqP_t, seqP_o, seqP_r, withL_upd, upd_upd, dec_if, true_and, and_true, List.set_cons_zero, List.set_cons_succ, atI_0, atI_1, atI_2, ixN_30, ixN_31, ixN_32, ixN_s0, Option.some.injEq, exists_eq_left', exists_eq_left, Bool.not_true, Bool.not_false, if_true, if_false, Bool.false_eq_true, reduceCtorEq, List.length_cons, List.length_nil, endsOf, wipeM, List.map_cons, List.map_nil, ite_true, ite_false, eq_self_iff_true, false_and, Nat.reduceAdd, decide_true, decide_false, tyM_l ea, tyM_l eh, withL_eq eh]
  refine ⟨.str n, by simp [pss], ?_⟩
  have ed2 : (pss (n :: heads).reverse).dropLast = pss heads.reverse := by simp [pss]
  rw [ed2]
  have hH := hH.hd A heads
  generalize updM M1 ph (.lst (pss heads.reverse)) = M2 at hH
  have ea : M2 a = some (.lst row) := hH.rw (a, row) List.mem_cons_self
  simp only [mSeq, mAsg, mOp, mUn, mVar, mC, mCB, mCons, mNil, mTup, mLst_n, mB, mTru, mNot, mAnd, mOr, mAndV, mOrV, mNotV, mIf, mIfS, mRet, mRetN, mDrop, mNext, mBreak, mCont, mBM, mBM0, mCall, mFor, mLc, mYes, iSeq, iRng, iRng2, iRevRng, gNameM, gSubM, mAug, mIsi, mSl, mPart, mNoPart, mRaise, getS_0, getS_s, isB_bl, truP_t, truP_b, sIx_t, sIx_o, sIx_r, sIx_s, sAdd_ii, sAdd_ss, sAdd_tt, sAdd_rr, sIAdd_ii, sIAdd_ss, sMul_ii, sMul_si, sI2_ii, sLen_t, sLen_o, sLen_r, sLen_s, sInt_i, sAbs_i, sMin2_i, sMax2_i, sStrI_i, sTupOf_t, sTupOf_r, sLstOf_t, sLstOf_r, sAppend_r, sPop_r, sPopAt_r, sInsert_r, sSet_r, sEq_ii, sEq_ss, sNe_ii, sNe_ss, sIn_ss, sIn_st, sIn_sr, sIs_n, sIsNot_n, isNonP_n, isNonP_t, isNonP_s, isNonP_i, isNonP_r, sNeg_i, sJoin_r, sSl_r, mDict0_n, mDict1_n, gTupM_t, gConsM_c, gNilM_n, seqP_t, seqP_o, seqP_r, withL_upd, upd_upd, dec_if, true_and, and_true, List.set_cons_zero, List.set_cons_succ, atI_0, atI_1, atI_2, ixN_30, ixN_31, ixN_32, ixN_s0, Option.some.injEq, exists_eq_left', exists_eq_left, Bool.not_true, Bool.not_false, if_true, if_false, Bool.false_eq_true, reduceCtorEq, List.length_cons, List.length_nil, endsOf, wipeM, List.map_cons, List.map_nil, ite_true, ite_false, eq_self_iff_true, false_and, Nat.reduceAdd, decide_true, decide_false, withL_eq ea]
  refine ⟨by decide, by rw [sz24]; omega, hN _ _ ?_⟩
  simp only [mSeq, mAsg, mOp, mUn, mVar, mC, mCB, mCons, mNil, mTup, mLst_n, mB, mTru, mNot, mAnd, mOr, mAndV, mOrV, mNotV, mIf, mIfS, mRet, mRetN, mDrop, mNext, mBreak, mCont, mBM, mBM0, mCall, mFor, mLc, mYes, iSeq, iRng, iRng2, iRevRng, gNameM, gSubM, mAug, mIsi, mSl, mPart, mNoPart, mRaise, getS_0, getS_s, isB_bl, truP_t, truP_b, sIx_t, sIx_o, sIx_r, sIx_s, sAdd_ii, sAdd_ss, sAdd_tt, sAdd_rr, sIAdd_ii, sIAdd_ss, sMul_ii, sMul_si, sI2_ii, sLen_t, sLen_o, sLen_r, sLen_s, sInt_i, sAbs_i, sMin2_i, sMax2_i, sStrI_i, sTupOf_t, sTupOf_r, sLstOf_t, sLstOf_r, sAppend_r, sPop_r, sPopAt_r, sInsert_r, sSet_r, sEq_ii, sEq_ss, sNe_ii, sNe_ss, sIn_ss, sIn_st, sIn_sr, sIs_n, sIsNot_n, isNonP_n, isNonP_t, isNonP_s, isNonP_i, isNonP_r, sNeg_i, sJoin_r, sSl_r, mDict0_n, mDict1_n, gTupM_t, gConsM_c, gNilM_n, seqP_t, seqP_o, seqP_r, withL_upd, upd_upd, dec_if, true_and, and_true, List.set_cons_zero, List.set_cons_succ, atI_0, atI_1, atI_2, ixN_30, ixN_31, ixN_32, ixN_s0, Option.some.injEq, exists_eq_left', exists_eq_left, Bool.not_true, Bool.not_false, if_true, if_false, Bool.false_eq_true, reduceCtorEq, List.length_cons, List.length_nil, endsOf, wipeM, List.map_cons, List.map_nil, ite_true, ite_false, eq_self_iff_true, false_and, Nat.reduceAdd, decide_true, decide_false, d1]
  exact hL _ _ (h _ _ _ _ _ _ _ (hH.top A _))
theorem st_end {rows : List (Addr × List PV)} {trees : Nat} {named : Bool} {l1 c1 : Nat}
    (h : Rst M0 pr ph pt toks z D rows [] trees false []) : Rst M0 pr ph pt toks z D rows [] trees named [.tup [.str "", .str "", .int l1, .int c1]] := by
  intro s w l c hd bn M' hH
  refine loopG_cons fun L hL => ⟨hH.et, ?_⟩
  unfold rdG
  simp only [mSeq, mAsg, mOp, mUn, mVar, mC, mCB, mCons, mNil, mTup, mLst_n, mB, mTru, mNot, mAnd, mOr, mAndV, mOrV, mNotV, mIf, mIfS, mRet, mRetN, mDrop, mNext, mBreak, mCont, mBM, mBM0, mCall, mFor, mLc, mYes, iSeq, iRng, iRng2, iRevRng, gNameM, gSubM, mAug, mIsi, mSl, mPart, mNoPart, mRaise, getS_0, getS_s, isB_bl, truP_t, truP_b, sIx_t, sIx_o, sIx_r, sIx_s, sAdd_ii, sAdd_ss, sAdd_tt, sAdd_rr, sIAdd_ii, sIAdd_ss, sMul_ii, sMul_si, sI2_ii, sLen_t, sLen_o, sLen_r, sLen_s, sInt_i, sAbs_i, sMin2_i, sMax2_i, sStrI_i, sTupOf_t, sTupOf_r, sLstOf_t, sLstOf_r, sAppend_r, sPop_r, sPopAt_r, sInsert_r, sSet_r, sEq_ii, sEq_ss, sNe_ii, sNe_ss, sIn_ss, sIn_st, sIn_sr, sIs_n, sIsNot_n, isNonP_n, isNonP_t, isNonP_s, isNonP_i, isNonP_r, sNeg_i, sJoin_r, sSl_r, mDict0_n, mDict1_n, gTupM_t, gConsM_c, gNilM_n, seqP_t, seqP_o, seqP_r, withL_upd, upd_upd, dec_if, true_and, and_true, List.set_cons_zero, List.set_cons_succ, atI_0, atI_1, atI_2, ixN_30, ixN_31, ixN_32, ixN_s0, Option.some.injEq, exists_eq_left', exists_eq_left, Bool.not_true, Bool.not_false, if_true, if_false, Bool.false_eq_true, reduceCtorEq, List.length_cons, List.length_nil, endsOf, wipeM, List.map_cons, List.map_nil, ite_true, ite_false, eq_self_iff_true, false_and, Nat.reduceAdd, decide_true, decide_false]
  unfold rdB
  refine seq_i fun N hN => ?_
  have eh := hH.eh
  have d1 : (("" : Str) = ("name" : Str)) = False := eq_false (of_decide_eq_false f_en)
  have d2 : (("" : Str) = ("(" : Str)) = False := eq_false (of_decide_eq_false f_el)
  have d3 : (("" : Str) = (")" : Str)) = False := eq_false (of_decide_eq_false f_er)
  simp only [mSeq, mAsg, mOp, mUn, mVar, mC, mCB, mCons, mNil, mTup, mLst_n, mB, mTru, mNot, mAnd, mOr, mAndV, mOrV, mNotV, mIf, mIfS, mRet, mRetN, mDrop, mNext, mBreak, mCont, mBM, mBM0, mCall, mFor, mLc, mYes, iSeq, iRng, iRng2, iRevRng, gNameM, gSubM, mAug, mIsi, mSl, mPart, mNoPart, mRaise, getS_0, getS_s, isB_bl, truP_t, truP_b, sIx_t, sIx_o, sIx_r, sIx_s, sAdd_ii, sAdd_ss, sAdd_tt, sAdd_rr, sIAdd_ii, sIAdd_ss, sMul_ii, sMul_si, sI2_ii, sLen_t, sLen_o, sLen_r, sLen_s, sInt_i, sAbs_i, sMin2_i, sMax2_i, sStrI_i, sTupOf_t, sTupOf_r, sLstOf_t, sLstOf_r, sAppend_r, sPop_r, sPopAt_r, sInsert_r, sSet_r, sEq_ii, sEq_ss, sNe_ii, sNe_ss, sIn_ss, sIn_st, sIn_sr, sIs_n, sIsNot_n, isNonP_n, isNonP_t, isNonP_s, isNonP_i, isNonP_r, sNeg_i, sJoin_r, sSl_r, mDict0_n, mDict1_n, gTupM_t, gConsM_c, gNilM_n, seqP_t, seqP_o, seqP_r, withL_upd, upd_upd, dec_if, true_and, and_true, List.set_cons_zero, List.set_cons_succ, atI_0, atI_1, atI_2, ixN_30, ixN_31, ixN_32, ixN_s0, Option.some.injEq, exists_eq_left', exists_eq_left, Bool.not_true, Bool.not_false, if_true, if_false, Bool.false_eq_true, reduceCtorEq, List.length_cons, List.length_nil, endsOf, wipeM, List.map_cons, List.map_nil, ite_true, ite_false, eq_self_iff_true, false_and, Nat.reduceAdd, decide_true, decide_false, d1, d2, d3, truP_l eh, List.reverse_nil, List.isEmpty_nil]
  refine hN _ _ ?_
  simp only [mSeq, mAsg, mOp, mUn, mVar, mC, mCB, mCons, mNil, mTup, mLst_n, mB, mTru, mNot, mAnd, mOr, mAndV, mOrV, mNotV, mIf, mIfS, mRet, mRetN, mDrop, mNext, mBreak, mCont, mBM, mBM0, mCall, mFor, mLc, mYes, iSeq, iRng, iRng2, iRevRng, gNameM, gSubM, mAug, mIsi, mSl, mPart, mNoPart, mRaise, getS_0, getS_s, isB_bl, truP_t, truP_b, sIx_t, sIx_o, sIx_r, sIx_s, sAdd_ii, sAdd_ss, sAdd_tt, sAdd_rr, sIAdd_ii, sIAdd_ss, sMul_ii, sMul_si, sI2_ii, sLen_t, sLen_o, sLen_r, sLen_s, sInt_i, sAbs_i, sMin2_i, sMax2_i, sStrI_i, sTupOf_t, sTupOf_r, sLstOf_t, sLstOf_r, sAppend_r, sPop_r, sPopAt_r, sInsert_r, sSet_r, sEq_ii, sEq_ss, sNe_ii, sNe_ss, sIn_ss, sIn_st, sIn_sr, sIs_n, sIsNot_n, isNonP_n, isNonP_t, isNonP_s, isNonP_i, isNonP_r, sNeg_i, sJoin_r, sSl_r, mDict0_n, mDict1_n, gTupM_t, gConsM_c, gNilM_n, seqP_t, seqP_o, seqP_r, withL_upd, upd_upd, dec_if, true_and, and_true, List.set_cons_zero, List.set_cons_succ, atI_0, atI_1, atI_2, ixN_30, ixN_31, ixN_32, ixN_s0, Option.some.injEq, exists_eq_left', exists_eq_left, Bool.not_true, Bool.not_false, if_true, if_false, Bool.false_eq_true, reduceCtorEq, List.length_cons, List.length_nil, endsOf, wipeM, List.map_cons, List.map_nil, ite_true, ite_false, eq_self_iff_true, false_and, Nat.reduceAdd, decide_true, decide_false, d1]
  exact hL _ _ (h _ _ _ _ _ _ _ hH)
end
end K02
end PL
end L2
set_option maxRecDepth 100000
set_option maxHeartbeats 2000000
namespace L2
namespace PL
namespace K02
open PySem PySem.Spec PyProof.Rows K01 F
def IsToks : List PV → List Str → Prop
  | [], [] => True
  | x :: xs, t :: ts => isTok x t ∧ IsToks xs ts
  | _, _ => False
theorem istoks_app : ∀ {t1 t2 : List Str} {xs : List PV}, IsToks xs (t1 ++ t2) → ∃ x1 x2, xs = x1 ++ x2 ∧ IsToks x1 t1 ∧ IsToks x2 t2
  | [], t2, xs, h => ⟨[], xs, rfl, trivial, h⟩
  | t :: t1, t2, [], h => h.elim
  | t :: t1, t2, x :: xs, ⟨h, h'⟩ => by
    obtain ⟨x1, x2, rfl, a, b⟩ := istoks_app h'
    exact ⟨x :: x1, x2, rfl, ⟨h, a⟩, b⟩
theorem istoks_cons {t : Str} {ts : List Str} {xs : List PV} (h : IsToks xs (t :: ts)) : ∃ x r, xs = x :: r ∧ isTok x t ∧ IsToks r ts := by
  cases xs with
  | nil => exact h.elim
  | cons x r => exact ⟨x, r, rfl, h.1, h.2⟩
section
variable {M0 : MHp} {pr ph pt : Addr} {toks : List PV} {z : Str} {D : MEnds}
theorem run_F (A : RA M0 pr ph pt) {F : Fo} {ts : List Str} (hF : TokF F ts) : ∀ {rows : List (Addr × List PV)} {heads : List Str} {a : Addr} {row : List PV} {trees : Nat} {named : Bool} {xs rest : List PV}, IsToks xs ts → trees + F.cnt ≤ 2000 → rows.length + 1 + F.dep ≤ 61 → row.length ≤ trees → heads.length ≤ rows.length → F.All NameTok →
    (∀ named', Rst M0 pr ph pt toks z D ((a, row ++ F.pv) :: rows) heads (trees + F.cnt) named' rest) → Rst M0 pr ph pt toks z D ((a, row) :: rows) heads trees named (xs ++ rest) := by
  induction hF with
  | nil =>
    intro rows heads a row trees named xs rest hx _ _ _ _ _ h
    cases xs with
    | nil =>
      have := h named
      simpa [Fo.pv, Fo.cnt] using this
    | cons x r => exact hx.elim
  | leaf _ ih =>
    rename_i n r tr _
    intro rows heads a row trees named xs rest hx hc hd hr hh ha h
    obtain ⟨x, xr, rfl, hx1, hx2⟩ := istoks_cons hx
    rw [Fo.cnt] at hc
    rw [Fo.dep] at hd
    simp only [Fo.cnt, Fo.dep] at hc hd
    obtain ⟨a1, _, a3⟩ := ha
    refine st_name A a1 hx1 (by omega) (by omega) (by omega) (ih hx2 (by omega) (by omega) (by simp; omega) hh a3 fun nm => ?_)
    have := h nm
    simp only [Fo.pv, Fo.cnt] at this
    have e : trees + (1 + 0 + r.cnt) = trees + 1 + r.cnt := by omega
    rw [e] at this
    simpa using this
  | op _ _ ihb ihr =>
    rename_i n b r tb tr _ _
    intro rows heads a row trees named xs rest hx hc hd hr hh ha h
    obtain ⟨x, xr, rfl, hx1, hx2⟩ := istoks_cons hx
    obtain ⟨y, yr, rfl, hy1, hy2⟩ := istoks_cons hx2
    obtain ⟨xb, xq, rfl, hb1, hb2⟩ := istoks_app hy2
    obtain ⟨w, wr, rfl, hw1, hw2⟩ := istoks_cons hb2
    rw [Fo.cnt] at hc
    rw [Fo.dep] at hd
    obtain ⟨a1, a2, a3⟩ := ha
    refine st_name A a1 hx1 (by omega) (by omega) (by omega) (st_lp A hy1 (by omega) (by omega) fun q => ?_)
    show Rst _ _ _ _ _ _ _ _ _ _ _ ((xb ++ w :: wr) ++ rest)
    rw [List.append_assoc]
    refine ihb hb1 (by omega) (by simp only [List.length_cons]; omega) (by simp) (by simp; omega) a2 fun nm => ?_
    rw [List.cons_append]
    refine st_rp A hw1 (by omega) (ihr hw2 (by omega) (by omega) (by simp; omega) hh a3 fun nm2 => ?_)
    have := h nm2
    simp only [Fo.pv, Fo.cnt] at this
    have e : trees + (1 + b.cnt + r.cnt) = trees + 1 + b.cnt + r.cnt := by omega
    rw [e] at this
    simpa using this
end
theorem toks_of {ts : List Str} : ∀ {T : List Tk}, T.map pr = ts.map (fun t => tokOf (cl t)) ++ [(("" : Str), ("" : Str))] → ∃ (xs : List PV) (l c : Nat), T.map tkv = xs ++ [.tup [.str "", .str "", .int l, .int c]] ∧ IsToks xs ts := by
  induction ts with
  | nil =>
    intro T h
    match T, h with
    | [t], h =>
      obtain ⟨s, w, l, c⟩ := t
      simp [pr] at h
      obtain ⟨rfl, rfl⟩ := h
      exact ⟨[], l, c, rfl, trivial⟩
    | [], h => cases h
    | t :: u :: r, h => simp at h
  | cons t ts ih =>
    intro T h
    cases T with
    | nil => cases h
    | cons u T =>
      rw [List.map_cons, List.map_cons, List.cons_append] at h
      injection h with h1 h2
      obtain ⟨xs, l, c, e, hx⟩ := ih h2
      obtain ⟨s, w, l', c'⟩ := u
      refine ⟨tkv ⟨s, w, l', c'⟩ :: xs, l, c, by rw [List.map_cons, e]; rfl, ⟨l', c', ?_⟩, hx⟩
      rw [← h1]; rfl
theorem d_read : ∀ xs M Q E, sp_read_forest xs M Q E → m_read_forest (endsOf Q E) (startM N_read_forest xs) M := by
  rintro _ M Q E ⟨z, F, ts, rfl, hz, hL, hF, hc, hd, ha, q⟩
  show m_read_forest (endsOf Q E) [some (.str z), none, none, none, none, none, none, none, none, none, none] M
  unfold m_read_forest
  refine seq_i fun N1 hN1 => ?_
  simp only [mSeq, mAsg, mOp, mUn, mVar, mC, mCB, mCons, mNil, mTup, mLst_n, mB, mTru, mNot, mAnd, mOr, mAndV, mOrV, mNotV, mIf, mIfS, mRet, mRetN, mDrop, mNext, mBreak, mCont, mBM, mBM0, mCall, mFor, mLc, mYes, iSeq, iRng, iRng2, iRevRng, gNameM, gSubM, mAug, mIsi, mSl, mPart, mNoPart, mRaise, getS_0, getS_s, isB_bl, truP_t, truP_b, sIx_t, sIx_o, sIx_r, sIx_s, sAdd_ii, sAdd_ss, sAdd_tt, sAdd_rr, sIAdd_ii, sIAdd_ss, sMul_ii, sMul_si, sI2_ii, sLen_t, sLen_o, sLen_r, sLen_s, sInt_i, sAbs_i, sMin2_i, sMax2_i, sStrI_i, sTupOf_t, sTupOf_r, sLstOf_t, sLstOf_r, sAppend_r, sPop_r, sPopAt_r, sInsert_r, sSet_r, sEq_ii, sEq_ss, sNe_ii, sNe_ss, sIn_ss, sIn_st, sIn_sr, sIs_n, sIsNot_n, isNonP_n, isNonP_t, isNonP_s, isNonP_i, isNonP_r, sNeg_i, sJoin_r, sSl_r, mDict0_n, mDict1_n, gTupM_t, gConsM_c, gNilM_n, seqP_t, seqP_o, seqP_r, withL_upd, upd_upd, dec_if, true_and, and_true, List.set_cons_zero, List.set_cons_succ, atI_0, atI_1, atI_2, ixN_30, ixN_31, ixN_32, ixN_s0, Option.some.injEq, exists_eq_left', exists_eq_left, Bool.not_true, Bool.not_false, if_true, if_false, Bool.false_eq_true, reduceCtorEq, List.length_cons, List.length_nil, endsOf, wipeM, List.map_cons, List.map_nil, ite_true, ite_false, eq_self_iff_true, false_and, Nat.reduceAdd, decide_true, decide_false]
  refine ⟨by decide, newL_i fun a M1 n1 h1 x1 => ⟨by decide, newL_i fun pr M2 n2 h2 x2 => hN1 _ _ ?_⟩⟩
  clear hN1 N1
  refine seq_i fun N1 hN1 => ?_
  simp only [mSeq, mAsg, mOp, mUn, mVar, mC, mCB, mCons, mNil, mTup, mLst_n, mB, mTru, mNot, mAnd, mOr, mAndV, mOrV, mNotV, mIf, mIfS, mRet, mRetN, mDrop, mNext, mBreak, mCont, mBM, mBM0, mCall, mFor, mLc, mYes, iSeq, iRng, iRng2, iRevRng, gNameM, gSubM, mAug, mIsi, mSl, mPart, mNoPart, mRaise, getS_0, getS_s, isB_bl, truP_t, truP_b, sIx_t, sIx_o, sIx_r, sIx_s, sAdd_ii, sAdd_ss, sAdd_tt, sAdd_rr, sIAdd_ii, sIAdd_ss, sMul_ii, sMul_si, sI2_ii, sLen_t, sLen_o, sLen_r, sLen_s, sInt_i, sAbs_i, sMin2_i, sMax2_i, sStrI_i, sTupOf_t, sTupOf_r, sLstOf_t, sLstOf_r, sAppend_r, sPop_r, sPopAt_r, sInsert_r, sSet_r, sEq_ii, sEq_ss, sNe_ii, sNe_ss, sIn_ss, sIn_st, sIn_sr, sIs_n, sIsNot_n, isNonP_n, isNonP_t, isNonP_s, isNonP_i, isNonP_r, sNeg_i, sJoin_r, sSl_r, mDict0_n, mDict1_n, gTupM_t, gConsM_c, gNilM_n, seqP_t, seqP_o, seqP_r, withL_upd, upd_upd, dec_if, true_and, and_true, List.set_cons_zero, List.set_cons_succ, atI_0, atI_1, atI_2, ixN_30, ixN_31, ixN_32, ixN_s0, Option.some.injEq, exists_eq_left', exists_eq_left, Bool.not_true, Bool.not_false, if_true, if_false, Bool.false_eq_true, reduceCtorEq, List.length_cons, List.length_nil, endsOf, wipeM, List.map_cons, List.map_nil, ite_true, ite_false, eq_self_iff_true, false_and, Nat.reduceAdd, decide_true, decide_false]
  refine ⟨by decide, newL_i fun ph M3 n3 h3 x3 => hN1 _ _ ?_⟩
  clear hN1 N1
  refine seq_i fun N1 hN1 => ?_
  simp only [mSeq, mAsg, mOp, mUn, mVar, mC, mCB, mCons, mNil, mTup, mLst_n, mB, mTru, mNot, mAnd, mOr, mAndV, mOrV, mNotV, mIf, mIfS, mRet, mRetN, mDrop, mNext, mBreak, mCont, mBM, mBM0, mCall, mFor, mLc, mYes, iSeq, iRng, iRng2, iRevRng, gNameM, gSubM, mAug, mIsi, mSl, mPart, mNoPart, mRaise, getS_0, getS_s, isB_bl, truP_t, truP_b, sIx_t, sIx_o, sIx_r, sIx_s, sAdd_ii, sAdd_ss, sAdd_tt, sAdd_rr, sIAdd_ii, sIAdd_ss, sMul_ii, sMul_si, sI2_ii, sLen_t, sLen_o, sLen_r, sLen_s, sInt_i, sAbs_i, sMin2_i, sMax2_i, sStrI_i, sTupOf_t, sTupOf_r, sLstOf_t, sLstOf_r, sAppend_r, sPop_r, sPopAt_r, sInsert_r, sSet_r, sEq_ii, sEq_ss, sNe_ii, sNe_ss, sIn_ss, sIn_st, sIn_sr, sIs_n, sIsNot_n, isNonP_n, isNonP_t, isNonP_s, isNonP_i, isNonP_r, sNeg_i, sJoin_r, sSl_r, mDict0_n, mDict1_n, gTupM_t, gConsM_c, gNilM_n, seqP_t, seqP_o, seqP_r, withL_upd, upd_upd, dec_if, true_and, and_true, List.set_cons_zero, List.set_cons_succ, atI_0, atI_1, atI_2, ixN_30, ixN_31, ixN_32, ixN_s0, Option.some.injEq, exists_eq_left', exists_eq_left, Bool.not_true, Bool.not_false, if_true, if_false, Bool.false_eq_true, reduceCtorEq, List.length_cons, List.length_nil, endsOf, wipeM, List.map_cons, List.map_nil, ite_true, ite_false, eq_self_iff_true, false_and, Nat.reduceAdd, decide_true, decide_false]
  refine hN1 _ _ ?_
  clear hN1 N1
  refine seq_i fun N1 hN1 => ?_
  simp only [mSeq, mAsg, mOp, mUn, mVar, mC, mCB, mCons, mNil, mTup, mLst_n, mB, mTru, mNot, mAnd, mOr, mAndV, mOrV, mNotV, mIf, mIfS, mRet, mRetN, mDrop, mNext, mBreak, mCont, mBM, mBM0, mCall, mFor, mLc, mYes, iSeq, iRng, iRng2, iRevRng, gNameM, gSubM, mAug, mIsi, mSl, mPart, mNoPart, mRaise, getS_0, getS_s, isB_bl, truP_t, truP_b, sIx_t, sIx_o, sIx_r, sIx_s, sAdd_ii, sAdd_ss, sAdd_tt, sAdd_rr, sIAdd_ii, sIAdd_ss, sMul_ii, sMul_si, sI2_ii, sLen_t, sLen_o, sLen_r, sLen_s, sInt_i, sAbs_i, sMin2_i, sMax2_i, sStrI_i, sTupOf_t, sTupOf_r, sLstOf_t, sLstOf_r, sAppend_r, sPop_r, sPopAt_r, sInsert_r, sSet_r, sEq_ii, sEq_ss, sNe_ii, sNe_ss, sIn_ss, sIn_st, sIn_sr, sIs_n, sIsNot_n, isNonP_n, isNonP_t, isNonP_s, isNonP_i, isNonP_r, sNeg_i, sJoin_r, sSl_r, mDict0_n, mDict1_n, gTupM_t, gConsM_c, gNilM_n, seqP_t, seqP_o, seqP_r, withL_upd, upd_upd, dec_if, true_and, and_true, List.set_cons_zero, List.set_cons_succ, atI_0, atI_1, atI_2, ixN_30, ixN_31, ixN_32, ixN_s0, Option.some.injEq, exists_eq_left', exists_eq_left, Bool.not_true, Bool.not_false, if_true, if_false, Bool.false_eq_true, reduceCtorEq, List.length_cons, List.length_nil, endsOf, wipeM, List.map_cons, List.map_nil, ite_true, ite_false, eq_self_iff_true, false_and, Nat.reduceAdd, decide_true, decide_false]
  refine hN1 _ _ ?_
  clear hN1 N1
  refine seq_i fun N1 hN1 => ?_
  have hl := laid_tkz hL ((cl z).length + 1) 1 0 (by omega)
  obtain ⟨xs, l, c, e, hx⟩ := toks_of hl
  show iSeq _ _ _ _ _
  unfold iSeq
  simp only [mSeq, mAsg, mOp, mUn, mVar, mC, mCB, mCons, mNil, mTup, mLst_n, mB, mTru, mNot, mAnd, mOr, mAndV, mOrV, mNotV, mIf, mIfS, mRet, mRetN, mDrop, mNext, mBreak, mCont, mBM, mBM0, mCall, mFor, mLc, mYes, iSeq, iRng, iRng2, iRevRng, gNameM, gSubM, mAug, mIsi, mSl, mPart, mNoPart, mRaise, getS_0, getS_s, isB_bl, truP_t, truP_b, sIx_t, sIx_o, sIx_r, sIx_s, sAdd_ii, sAdd_ss, sAdd_tt, sAdd_rr, sIAdd_ii, sIAdd_ss, sMul_ii, sMul_si, sI2_ii, sLen_t, sLen_o, sLen_r, sLen_s, sInt_i, sAbs_i, sMin2_i, sMax2_i, sStrI_i, sTupOf_t, sTupOf_r, sLstOf_t, sLstOf_r, sAppend_r, sPop_r, sPopAt_r, sInsert_r, sSet_r, sEq_ii, sEq_ss, sNe_ii, sNe_ss, sIn_ss, sIn_st, sIn_sr, sIs_n, sIsNot_n, isNonP_n, isNonP_t, isNonP_s, isNonP_i, isNonP_r, sNeg_i, sJoin_r, sSl_r, mDict0_n, mDict1_n, gTupM_t, gConsM_c, gNilM_n, seqP_t, seqP_o, seqP_r, withL_upd, upd_upd, dec_if, true_and, and_true, List.set_cons_zero, List.set_cons_succ, atI_0, atI_1, atI_2, ixN_30, ixN_31, ixN_32, ixN_s0, Option.some.injEq, exists_eq_left', exists_eq_left, Bool.not_true, Bool.not_false, if_true, if_false, Bool.false_eq_true, reduceCtorEq, List.length_cons, List.length_nil, endsOf, wipeM, List.map_cons, List.map_nil, ite_true, ite_false, eq_self_iff_true, false_and, Nat.reduceAdd, decide_true, decide_false]
  refine ⟨z, rfl, hz, fun pt M4 x4 n4 h4 => ?_⟩
  rw [e] at h4
  simp only [mSeq, mAsg, mOp, mUn, mVar, mC, mCB, mCons, mNil, mTup, mLst_n, mB, mTru, mNot, mAnd, mOr, mAndV, mOrV, mNotV, mIf, mIfS, mRet, mRetN, mDrop, mNext, mBreak, mCont, mBM, mBM0, mCall, mFor, mLc, mYes, iSeq, iRng, iRng2, iRevRng, gNameM, gSubM, mAug, mIsi, mSl, mPart, mNoPart, mRaise, getS_0, getS_s, isB_bl, truP_t, truP_b, sIx_t, sIx_o, sIx_r, sIx_s, sAdd_ii, sAdd_ss, sAdd_tt, sAdd_rr, sIAdd_ii, sIAdd_ss, sMul_ii, sMul_si, sI2_ii, sLen_t, sLen_o, sLen_r, sLen_s, sInt_i, sAbs_i, sMin2_i, sMax2_i, sStrI_i, sTupOf_t, sTupOf_r, sLstOf_t, sLstOf_r, sAppend_r, sPop_r, sPopAt_r, sInsert_r, sSet_r, sEq_ii, sEq_ss, sNe_ii, sNe_ss, sIn_ss, sIn_st, sIn_sr, sIs_n, sIsNot_n, isNonP_n, isNonP_t, isNonP_s, isNonP_i, isNonP_r, sNeg_i, sJoin_r, sSl_r, mDict0_n, mDict1_n, gTupM_t, gConsM_c, gNilM_n, seqP_t, seqP_o, seqP_r, withL_upd, upd_upd, dec_if, true_and, and_true, List.set_cons_zero, List.set_cons_succ, atI_0, atI_1, atI_2, ixN_30, ixN_31, ixN_32, ixN_s0, Option.some.injEq, exists_eq_left', exists_eq_left, Bool.not_true, Bool.not_false, if_true, if_false, Bool.false_eq_true, reduceCtorEq, List.length_cons, List.length_nil, endsOf, wipeM, List.map_cons, List.map_nil, ite_true, ite_false, eq_self_iff_true, false_and, Nat.reduceAdd, decide_true, decide_false, withL_eq h4]
  have A : RA M pr ph pt := ⟨x1.none n2, (x1.trans x2).none n3, ((x1.trans x2).trans x3).none n4, fun q => (by rw [q, n3] at h2; cases h2), fun q => (by rw [q, x3.none n4] at h2; cases h2), fun q => (by rw [q, n4] at h3; cases h3)⟩
  have na : a ≠ pr := fun q => by rw [q, n2] at h1; cases h1
  have nb : a ≠ ph := fun q => by rw [q, x2.none n3] at h1; cases h1
  have nc : a ≠ pt := fun q => by rw [q, x2.none (x3.none n4)] at h1; cases h1
  have hH : RH M M4 pr ph pt (xs ++ [.tup [.str "", .str "", .int l, .int c]]) [(a, [])] [] :=
    ⟨((x1.trans x2).trans x3).trans x4, x4 _ _ (x3 _ _ h2), x4 _ _ h3, h4, fun e me => by cases List.mem_singleton.mp me; exact x4 _ _ (x3 _ _ (x2 _ _ h1)), by simp, fun e me => by cases List.mem_singleton.mp me; exact ⟨n1, na, nb, nc⟩⟩
  refine run_F (D := { endsOf Q E with nx := N1 }) (trees := 0) A hF hx (by omega) (by simp; omega) (Nat.zero_le _) (Nat.zero_le _) ha (fun nm => st_end (fun s w l c hd bn M' hH => ?_)) _ _ _ _ _ _ _ hH
  refine ⟨hH.et, hN1 _ _ ?_⟩
  have er : M' pr = some (.lst [.ref a]) := hH.er
  have ea : M' a = some (.lst F.pv) := hH.rw (a, _) List.mem_cons_self
  simp only [mSeq, mAsg, mOp, mUn, mVar, mC, mCB, mCons, mNil, mTup, mLst_n, mB, mTru, mNot, mAnd, mOr, mAndV, mOrV, mNotV, mIf, mIfS, mRet, mRetN, mDrop, mNext, mBreak, mCont, mBM, mBM0, mCall, mFor, mLc, mYes, iSeq, iRng, iRng2, iRevRng, gNameM, gSubM, mAug, mIsi, mSl, mPart, mNoPart, mRaise, getS_0, getS_s, isB_bl, truP_t, truP_b, sIx_t, sIx_o, sIx_r, sIx_s, sAdd_ii, sAdd_ss, sAdd_tt, sAdd_rr, sIAdd_ii, sIAdd_ss, sMul_ii, sMul_si, sI2_ii, sLen_t, sLen_o, sLen_r, sLen_s, sInt_i, sAbs_i, sMin2_i, sMax2_i, sStrI_i, sTupOf_t, sTupOf_r, sLstOf_t, sLstOf_r, sAppend_r, sPop_r, sPopAt_r, sInsert_r, sSet_r, sEq_ii, sEq_ss, sNe_ii, sNe_ss, sIn_ss, sIn_st, sIn_sr, sIs_n, sIsNot_n, isNonP_n, isNonP_t, isNonP_s, isNonP_i, isNonP_r, sNeg_i, sJoin_r, sSl_r, mDict0_n, mDict1_n, gTupM_t, gConsM_c, gNilM_n, seqP_t, seqP_o, seqP_r, withL_upd, upd_upd, dec_if, true_and, and_true, List.set_cons_zero, List.set_cons_succ, atI_0, atI_1, atI_2, ixN_30, ixN_31, ixN_32, ixN_s0, Option.some.injEq, exists_eq_left', exists_eq_left, Bool.not_true, Bool.not_false, if_true, if_false, Bool.false_eq_true, reduceCtorEq, List.length_cons, List.length_nil, endsOf, wipeM, List.map_cons, List.map_nil, ite_true, ite_false, eq_self_iff_true, false_and, Nat.reduceAdd, decide_true, decide_false, withL_eq er, withL_eq ea]
  exact q _ hH.x
end K02
end PL
end L2
set_option maxRecDepth 100000
set_option maxHeartbeats 2000000
namespace L2
namespace PL
namespace K02
open PySem PySem.Spec PyProof.Rows K01 F
theorem e_lp : ("(" : Str) = lp := by decide +kernel
theorem e_rp : (")" : Str) = rp := by decide +kernel
def sp_ltok (d : Nat) : MSp := fun xs M Q _ => ∃ (st g c : Addr) (F : Fo), xs = [.tup F.pv, .ref st] ∧ DrawSt M st g c ∧ F.dep < d ∧ F.cnt ≤ 2000 ∧ ∀ p M' ts, DrawSt M' st g c → Fr st g M M' → M p = none → Oth st g c p → M' p = some (.lst (pss ts)) → TokF F ts → ts.length ≤ 3 * F.cnt → Q (.ref p) M'
def sp__law_tokens : MSp := sp_ltok 61
/-- _law_tokens: slots 0 forest, 1 state, 2 row, 3 tree -/
def N__law_tokens : List Str := ["forest", "state", "row", "tree"]
def m__law_tokens (self : MSp) : MS :=
    (mSeq (mAsg (mLst mNil) (gNameM 2))
    (mSeq (mFor (iSeq (mVar 0)) (gNameM 3)
    (mSeq (mDrop (mBM "list" sAppend (mVar 2) (mCons (mOp sIx (mVar 3) (mC (.int 0))) mNil)))
    (mIfS (mB (mOp sGt (mCB sLen (mCons (mOp sIx (mVar 3) (mC (.int 1))) mNil)) (mC (.int 0)))) (mAsg (mOp sAdd (mOp sAdd (mOp sAdd (mVar 2) (mLst (mCons (mC (.str "(")) mNil))) (mCall self (mCons (mOp sIx (mVar 3) (mC (.int 1))) (mCons (mVar 1) mNil)))) (mLst (mCons (mC (.str ")")) mNil))) (gNameM 2)) (mIfS (mB (mOp sEq (mCall sp__law_draw (mCons (mVar 1) (mCons (mC (.int 4)) mNil))) (mC (.int 0)))) (mAsg (mOp sAdd (mVar 2) (mLst (mCons (mC (.str "(")) (mCons (mC (.str ")")) mNil)))) (gNameM 2)) mNext))))
    (mRet (mVar 2))))

theorem d_ltok (d : Nat) : ∀ xs M Q E, sp_ltok (d + 1) xs M Q E → m__law_tokens (sp_ltok d) (endsOf Q E) (startM N__law_tokens xs) M := by
  rintro _ M Q E ⟨st, g, c, F, rfl, D, hd, hc, q⟩
  show m__law_tokens (sp_ltok d) (endsOf Q E) [some (.tup F.pv), some (.ref st), none, none] M
  unfold m__law_tokens
  refine seq_i fun N1 hN1 => ?_
  simp only [mSeq, mAsg, mOp, mUn, mVar, mC, mCB, mCons, mNil, mTup, mLst_n, mB, mTru, mNot, mAnd, mOr, mAndV, mOrV, mNotV, mIf, mIfS, mRet, mRetN, mDrop, mNext, mBreak, mCont, mBM, mBM0, mCall, mFor, mLc, mYes, iSeq, iRng, iRng2, iRevRng, gNameM, gSubM, mAug, mIsi, mSl, mPart, mNoPart, mRaise, getS_0, getS_s, isB_bl, truP_t, truP_b, sIx_t, sIx_o, sIx_r, sIx_s, sAdd_ii, sAdd_ss, sAdd_tt, sAdd_rr, sIAdd_ii, sIAdd_ss, sMul_ii, sMul_si, sI2_ii, sLen_t, sLen_o, sLen_r, sLen_s, sInt_i, sAbs_i, sMin2_i, sMax2_i, sStrI_i, sTupOf_t, sTupOf_r, sLstOf_t, sLstOf_r, sAppend_r, sPop_r, sPopAt_r, sInsert_r, sSet_r, sEq_ii, sEq_ss, sNe_ii, sNe_ss, sIn_ss, sIn_st, sIn_sr, sIs_n, sIsNot_n, isNonP_n, isNonP_t, isNonP_s, isNonP_i, isNonP_r, sNeg_i, sJoin_r, sSl_r, mDict0_n, mDict1_n, gTupM_t, gConsM_c, gNilM_n, seqP_t, seqP_o, seqP_r, withL_upd, upd_upd, dec_if, true_and, and_true, List.set_cons_zero, List.set_cons_succ, atI_0, atI_1, atI_2, ixN_30, ixN_31, ixN_32, ixN_s0, Option.some.injEq, exists_eq_left', exists_eq_left, Bool.not_true, Bool.not_false, if_true, if_false, Bool.false_eq_true, reduceCtorEq, List.length_cons, List.length_nil, endsOf, wipeM, List.map_cons, List.map_nil, ite_true, ite_false, eq_self_iff_true, false_and, Nat.reduceAdd, decide_true, decide_false]
  refine ⟨by decide, newL_i fun p M1 n1 h1 x1 => hN1 _ _ ?_⟩
  clear hN1 N1
  refine seq_i fun N1 hN1 => ?_
  simp only [mSeq, mAsg, mOp, mUn, mVar, mC, mCB, mCons, mNil, mTup, mLst_n, mB, mTru, mNot, mAnd, mOr, mAndV, mOrV, mNotV, mIf, mIfS, mRet, mRetN, mDrop, mNext, mBreak, mCont, mBM, mBM0, mCall, mFor, mLc, mYes, iSeq, iRng, iRng2, iRevRng, gNameM, gSubM, mAug, mIsi, mSl, mPart, mNoPart, mRaise, getS_0, getS_s, isB_bl, truP_t, truP_b, sIx_t, sIx_o, sIx_r, sIx_s, sAdd_ii, sAdd_ss, sAdd_tt, sAdd_rr, sIAdd_ii, sIAdd_ss, sMul_ii, sMul_si, sI2_ii, sLen_t, sLen_o, sLen_r, sLen_s, sInt_i, sAbs_i, sMin2_i, sMax2_i, sStrI_i, sTupOf_t, sTupOf_r, sLstOf_t, sLstOf_r, sAppend_r, sPop_r, sPopAt_r, sInsert_r, sSet_r, sEq_ii, sEq_ss, sNe_ii, sNe_ss, sIn_ss, sIn_st, sIn_sr, sIs_n, sIsNot_n, isNonP_n, isNonP_t, isNonP_s, isNonP_i, isNonP_r, sNeg_i, sJoin_r, sSl_r, mDict0_n, mDict1_n, gTupM_t, gConsM_c, gNilM_n, seqP_t, seqP_o, seqP_r, withL_upd, upd_upd, dec_if, true_and, and_true, List.set_cons_zero, List.set_cons_succ, atI_0, atI_1, atI_2, ixN_30, ixN_31, ixN_32, ixN_s0, Option.some.injEq, exists_eq_left', exists_eq_left, Bool.not_true, Bool.not_false, if_true, if_false, Bool.false_eq_true, reduceCtorEq, List.length_cons, List.length_nil, endsOf, wipeM, List.map_cons, List.map_nil, ite_true, ite_false, eq_self_iff_true, false_and, Nat.reduceAdd, decide_true, decide_false]
  refine for_fix (xs := F.pv) (fun i μ M' => ∃ (R : Fo) (acc : List Str) (p : Addr) (t : Option PV), μ = [some (.tup F.pv), some (.ref st), some (.ref p), t] ∧ F.pv.drop i = R.pv ∧ DrawSt M' st g c ∧ Fr st g M M' ∧ M p = none ∧ Oth st g c p ∧ M' p = some (.lst (pss acc)) ∧ acc.length + 3 * R.cnt ≤ 3 * F.cnt ∧ R.dep ≤ d ∧ ∀ ts, TokF R ts → TokF F (acc ++ ts))
    (fun i x μ M' L ex h hl => ?_) (fun μ M' h => ?_) ⟨F, [], p, none, rfl, rfl, D.ext x1, x1.fr, n1, D.oth n1, h1, by simp, by omega, fun ts h => h⟩
  · obtain ⟨R, acc, p, t, rfl, hdr, D, Fm, np, op, hp, hlen, hdp, hT⟩ := h
    obtain ⟨n, b, r, rfl, rfl, hdr'⟩ := pv_step hdr ex
    rw [Fo.cnt] at hlen
    rw [Fo.dep] at hdp
    refine seq_i fun N2 hN2 => ?_
    simp only [mSeq, mAsg, mOp, mUn, mVar, mC, mCB, mCons, mNil, mTup, mLst_n, mB, mTru, mNot, mAnd, mOr, mAndV, mOrV, mNotV, mIf, mIfS, mRet, mRetN, mDrop, mNext, mBreak, mCont, mBM, mBM0, mCall, mFor, mLc, mYes, iSeq, iRng, iRng2, iRevRng, gNameM, gSubM, mAug, mIsi, mSl, mPart, mNoPart, mRaise, getS_0, getS_s, isB_bl, truP_t, truP_b, sIx_t, sIx_o, sIx_r, sIx_s, sAdd_ii, sAdd_ss, sAdd_tt, sAdd_rr, sIAdd_ii, sIAdd_ss, sMul_ii, sMul_si, sI2_ii, sLen_t, sLen_o, sLen_r, sLen_s, sInt_i, sAbs_i, sMin2_i, sMax2_i, sStrI_i, sTupOf_t, sTupOf_r, sLstOf_t, sLstOf_r, sAppend_r, sPop_r, sPopAt_r, sInsert_r, sSet_r, sEq_ii, sEq_ss, sNe_ii, sNe_ss, sIn_ss, sIn_st, sIn_sr, sIs_n, sIsNot_n, isNonP_n, isNonP_t, isNonP_s, isNonP_i, isNonP_r, sNeg_i, sJoin_r, sSl_r, mDict0_n, mDict1_n, gTupM_t, gConsM_c, gNilM_n, seqP_t, seqP_o, seqP_r, withL_upd, upd_upd, dec_if, true_and, and_true, List.set_cons_zero, List.set_cons_succ, atI_0, atI_1, atI_2, ixN_30, ixN_31, ixN_32, ixN_s0, Option.some.injEq, exists_eq_left', exists_eq_left, Bool.not_true, Bool.not_false, if_true, if_false, Bool.false_eq_true, reduceCtorEq, List.length_cons, List.length_nil, endsOf, wipeM, List.map_cons, List.map_nil, ite_true, ite_false, eq_self_iff_true, false_and, Nat.reduceAdd, decide_true, decide_false, tyM_l hp, withL_eq hp]
    refine ⟨by rw [sz24]; simp [pss]; omega, hN2 _ _ ?_⟩
    clear hN2 N2
    have D := D.mut (o := .lst (pss acc ++ [.str n])) op
    have Fm := Fm.mut (o := .lst (pss acc ++ [.str n])) np
    have hp : updM M' p (.lst (pss acc ++ [.str n])) p = some (.lst (pss (acc ++ [n]))) := by rw [updM_same]; simp [pss]
    generalize updM M' p (.lst (pss acc ++ [.str n])) = M2 at D Fm hp
    simp only [mSeq, mAsg, mOp, mUn, mVar, mC, mCB, mCons, mNil, mTup, mLst_n, mB, mTru, mNot, mAnd, mOr, mAndV, mOrV, mNotV, mIf, mIfS, mRet, mRetN, mDrop, mNext, mBreak, mCont, mBM, mBM0, mCall, mFor, mLc, mYes, iSeq, iRng, iRng2, iRevRng, gNameM, gSubM, mAug, mIsi, mSl, mPart, mNoPart, mRaise, getS_0, getS_s, isB_bl, truP_t, truP_b, sIx_t, sIx_o, sIx_r, sIx_s, sAdd_ii, sAdd_ss, sAdd_tt, sAdd_rr, sIAdd_ii, sIAdd_ss, sMul_ii, sMul_si, sI2_ii, sLen_t, sLen_o, sLen_r, sLen_s, sInt_i, sAbs_i, sMin2_i, sMax2_i, sStrI_i, sTupOf_t, sTupOf_r, sLstOf_t, sLstOf_r, sAppend_r, sPop_r, sPopAt_r, sInsert_r, sSet_r, sEq_ii, sEq_ss, sNe_ii, sNe_ss, sIn_ss, sIn_st, sIn_sr, sIs_n, sIsNot_n, isNonP_n, isNonP_t, isNonP_s, isNonP_i, isNonP_r, sNeg_i, sJoin_r, sSl_r, mDict0_n, mDict1_n, gTupM_t, gConsM_c, gNilM_n, seqP_t, seqP_o, seqP_r, withL_upd, upd_upd, dec_if, true_and, and_true, List.set_cons_zero, List.set_cons_succ, atI_0, atI_1, atI_2, ixN_30, ixN_31, ixN_32, ixN_s0, Option.some.injEq, exists_eq_left', exists_eq_left, Bool.not_true, Bool.not_false, if_true, if_false, Bool.false_eq_true, reduceCtorEq, List.length_cons, List.length_nil, endsOf, wipeM, List.map_cons, List.map_nil, ite_true, ite_false, eq_self_iff_true, false_and, Nat.reduceAdd, decide_true, decide_false]
    by_cases hb : b.isNil = true
    · have eb : b = .nil := by cases b with
        | nil => rfl
        | cons => cases hb
      subst eb
      rw [if_neg (by simp [Fo.pv])]
      refine draw_i D (by decide) (by decide) fun d1 M3 hd1 D F3 => ?_
      have hp := F3.at op hp
      have Fm := Fm.trans F3
      simp only [mSeq, mAsg, mOp, mUn, mVar, mC, mCB, mCons, mNil, mTup, mLst_n, mB, mTru, mNot, mAnd, mOr, mAndV, mOrV, mNotV, mIf, mIfS, mRet, mRetN, mDrop, mNext, mBreak, mCont, mBM, mBM0, mCall, mFor, mLc, mYes, iSeq, iRng, iRng2, iRevRng, gNameM, gSubM, mAug, mIsi, mSl, mPart, mNoPart, mRaise, getS_0, getS_s, isB_bl, truP_t, truP_b, sIx_t, sIx_o, sIx_r, sIx_s, sAdd_ii, sAdd_ss, sAdd_tt, sAdd_rr, sIAdd_ii, sIAdd_ss, sMul_ii, sMul_si, sI2_ii, sLen_t, sLen_o, sLen_r, sLen_s, sInt_i, sAbs_i, sMin2_i, sMax2_i, sStrI_i, sTupOf_t, sTupOf_r, sLstOf_t, sLstOf_r, sAppend_r, sPop_r, sPopAt_r, sInsert_r, sSet_r, sEq_ii, sEq_ss, sNe_ii, sNe_ss, sIn_ss, sIn_st, sIn_sr, sIs_n, sIsNot_n, isNonP_n, isNonP_t, isNonP_s, isNonP_i, isNonP_r, sNeg_i, sJoin_r, sSl_r, mDict0_n, mDict1_n, gTupM_t, gConsM_c, gNilM_n, seqP_t, seqP_o, seqP_r, withL_upd, upd_upd, dec_if, true_and, and_true, List.set_cons_zero, List.set_cons_succ, atI_0, atI_1, atI_2, ixN_30, ixN_31, ixN_32, ixN_s0, Option.some.injEq, exists_eq_left', exists_eq_left, Bool.not_true, Bool.not_false, if_true, if_false, Bool.false_eq_true, reduceCtorEq, List.length_cons, List.length_nil, endsOf, wipeM, List.map_cons, List.map_nil, ite_true, ite_false, eq_self_iff_true, false_and, Nat.reduceAdd, decide_true, decide_false]
      split
      · refine ⟨by decide, newL_i fun p2 M4 n4 h4 x4 => ?_⟩
        have hp4 := x4 _ _ hp
        simp only [mSeq, mAsg, mOp, mUn, mVar, mC, mCB, mCons, mNil, mTup, mLst_n, mB, mTru, mNot, mAnd, mOr, mAndV, mOrV, mNotV, mIf, mIfS, mRet, mRetN, mDrop, mNext, mBreak, mCont, mBM, mBM0, mCall, mFor, mLc, mYes, iSeq, iRng, iRng2, iRevRng, gNameM, gSubM, mAug, mIsi, mSl, mPart, mNoPart, mRaise, getS_0, getS_s, isB_bl, truP_t, truP_b, sIx_t, sIx_o, sIx_r, sIx_s, sAdd_ii, sAdd_ss, sAdd_tt, sAdd_rr, sIAdd_ii, sIAdd_ss, sMul_ii, sMul_si, sI2_ii, sLen_t, sLen_o, sLen_r, sLen_s, sInt_i, sAbs_i, sMin2_i, sMax2_i, sStrI_i, sTupOf_t, sTupOf_r, sLstOf_t, sLstOf_r, sAppend_r, sPop_r, sPopAt_r, sInsert_r, sSet_r, sEq_ii, sEq_ss, sNe_ii, sNe_ss, sIn_ss, sIn_st, sIn_sr, sIs_n, sIsNot_n, isNonP_n, isNonP_t, isNonP_s, isNonP_i, isNonP_r, sNeg_i, sJoin_r, sSl_r, mDict0_n, mDict1_n, gTupM_t, gConsM_c, gNilM_n, seqP_t, seqP_o, seqP_r, withL_upd, upd_upd, dec_if, true_and, and_true, List.set_cons_zero, List.set_cons_succ, atI_0, atI_1, atI_2, ixN_30, ixN_31, ixN_32, ixN_s0, Option.some.injEq, exists_eq_left', exists_eq_left, Bool.not_true, Bool.not_false, if_true, if_false, Bool.false_eq_true, reduceCtorEq, List.length_cons, List.length_nil, endsOf, wipeM, List.map_cons, List.map_nil, ite_true, ite_false, eq_self_iff_true, false_and, Nat.reduceAdd, decide_true, decide_false, withL_eq hp4, withL_eq h4]
        refine ⟨by rw [sz24]; simp [pss]; omega, newL_i fun p5 M5 n5 h5 x5 => ?_⟩
        have D4 := D.ext x4
        have F4 := Fm.trans x4.fr
        have e : pss (acc ++ [n]) ++ [.str ("(" : Str), .str (")" : Str)] = pss (acc ++ [n, lp, rp]) := by rw [e_lp, e_rp]; simp [pss]
        rw [e] at h5
        refine hl _ _ ⟨r, acc ++ [n, lp, rp], p5, _, rfl, hdr', D4.ext x5, F4.trans x5.fr, F4.none D4 n5, D4.oth n5, h5, by simp; omega, by omega, fun ts h => ?_⟩
        rw [List.append_assoc]
        exact hT _ (.op .nil h)
      · refine hl _ _ ⟨r, acc ++ [n], p, _, rfl, hdr', D, Fm, np, op, hp, by simp; omega, by omega, fun ts h => ?_⟩
        rw [List.append_assoc]
        exact hT _ (.leaf h)
    · have hb : b.isNil = false := by simpa using hb
      rw [if_pos (by cases b with | nil => cases hb | cons => simp [Fo.pv])]
      refine ⟨by decide, newL_i fun p2 M4 n4 h4 x4 => ?_⟩
      have hp4 := x4 _ _ hp
      simp only [mSeq, mAsg, mOp, mUn, mVar, mC, mCB, mCons, mNil, mTup, mLst_n, mB, mTru, mNot, mAnd, mOr, mAndV, mOrV, mNotV, mIf, mIfS, mRet, mRetN, mDrop, mNext, mBreak, mCont, mBM, mBM0, mCall, mFor, mLc, mYes, iSeq, iRng, iRng2, iRevRng, gNameM, gSubM, mAug, mIsi, mSl, mPart, mNoPart, mRaise, getS_0, getS_s, isB_bl, truP_t, truP_b, sIx_t, sIx_o, sIx_r, sIx_s, sAdd_ii, sAdd_ss, sAdd_tt, sAdd_rr, sIAdd_ii, sIAdd_ss, sMul_ii, sMul_si, sI2_ii, sLen_t, sLen_o, sLen_r, sLen_s, sInt_i, sAbs_i, sMin2_i, sMax2_i, sStrI_i, sTupOf_t, sTupOf_r, sLstOf_t, sLstOf_r, sAppend_r, sPop_r, sPopAt_r, sInsert_r, sSet_r, sEq_ii, sEq_ss, sNe_ii, sNe_ss, sIn_ss, sIn_st, sIn_sr, sIs_n, sIsNot_n, isNonP_n, isNonP_t, isNonP_s, isNonP_i, isNonP_r, sNeg_i, sJoin_r, sSl_r, mDict0_n, mDict1_n, gTupM_t, gConsM_c, gNilM_n, seqP_t, seqP_o, seqP_r, withL_upd, upd_upd, dec_if, true_and, and_true, List.set_cons_zero, List.set_cons_succ, atI_0, atI_1, atI_2, ixN_30, ixN_31, ixN_32, ixN_s0, Option.some.injEq, exists_eq_left', exists_eq_left, Bool.not_true, Bool.not_false, if_true, if_false, Bool.false_eq_true, reduceCtorEq, List.length_cons, List.length_nil, endsOf, wipeM, List.map_cons, List.map_nil, ite_true, ite_false, eq_self_iff_true, false_and, Nat.reduceAdd, decide_true, decide_false, withL_eq hp4, withL_eq h4]
      refine ⟨by rw [sz24]; simp [pss]; omega, newL_i fun p5 M5 n5 h5 x5 => ?_⟩
      have D5 := (D.ext x4).ext x5
      have F5 := Fm.trans (x4.fr.trans x5.fr)
      have o5 := (D.ext x4).oth n5
      refine ⟨st, g, c, b, rfl, D5, by omega, by omega, fun pb M6 tb D6 F6 nb ob hb6 hTb hlb => ?_⟩
      have h56 := F6.at o5 h5
      simp only [mSeq, mAsg, mOp, mUn, mVar, mC, mCB, mCons, mNil, mTup, mLst_n, mB, mTru, mNot, mAnd, mOr, mAndV, mOrV, mNotV, mIf, mIfS, mRet, mRetN, mDrop, mNext, mBreak, mCont, mBM, mBM0, mCall, mFor, mLc, mYes, iSeq, iRng, iRng2, iRevRng, gNameM, gSubM, mAug, mIsi, mSl, mPart, mNoPart, mRaise, getS_0, getS_s, isB_bl, truP_t, truP_b, sIx_t, sIx_o, sIx_r, sIx_s, sAdd_ii, sAdd_ss, sAdd_tt, sAdd_rr, sIAdd_ii, sIAdd_ss, sMul_ii, sMul_si, sI2_ii, sLen_t, sLen_o, sLen_r, sLen_s, sInt_i, sAbs_i, sMin2_i, sMax2_i, sStrI_i, sTupOf_t, sTupOf_r, sLstOf_t, sLstOf_r, sAppend_r, sPop_r, sPopAt_r, sInsert_r, sSet_r, sEq_ii, sEq_ss, sNe_ii, sNe_ss, sIn_ss, sIn_st, sIn_sr, sIs_n, sIsNot_n, isNonP_n, isNonP_t, isNonP_s, isNonP_i, isNonP_r, sNeg_i, sJoin_r, sSl_r, mDict0_n, mDict1_n, gTupM_t, gConsM_c, gNilM_n, seqP_t, seqP_o, seqP_r, withL_upd, upd_upd, dec_if, true_and, and_true, List.set_cons_zero, List.set_cons_succ, atI_0, atI_1, atI_2, ixN_30, ixN_31, ixN_32, ixN_s0, Option.some.injEq, exists_eq_left', exists_eq_left, Bool.not_true, Bool.not_false, if_true, if_false, Bool.false_eq_true, reduceCtorEq, List.length_cons, List.length_nil, endsOf, wipeM, List.map_cons, List.map_nil, ite_true, ite_false, eq_self_iff_true, false_and, Nat.reduceAdd, decide_true, decide_false, withL_eq h56, withL_eq hb6]
      refine ⟨by rw [sz24]; simp [pss]; omega, newL_i fun p7 M7 n7 h7 x7 => ⟨by decide, newL_i fun p8 M8 n8 h8 x8 => ?_⟩⟩
      have h78 := x8 _ _ h7
      simp only [mSeq, mAsg, mOp, mUn, mVar, mC, mCB, mCons, mNil, mTup, mLst_n, mB, mTru, mNot, mAnd, mOr, mAndV, mOrV, mNotV, mIf, mIfS, mRet, mRetN, mDrop, mNext, mBreak, mCont, mBM, mBM0, mCall, mFor, mLc, mYes, iSeq, iRng, iRng2, iRevRng, gNameM, gSubM, mAug, mIsi, mSl, mPart, mNoPart, mRaise, getS_0, getS_s, isB_bl, truP_t, truP_b, sIx_t, sIx_o, sIx_r, sIx_s, sAdd_ii, sAdd_ss, sAdd_tt, sAdd_rr, sIAdd_ii, sIAdd_ss, sMul_ii, sMul_si, sI2_ii, sLen_t, sLen_o, sLen_r, sLen_s, sInt_i, sAbs_i, sMin2_i, sMax2_i, sStrI_i, sTupOf_t, sTupOf_r, sLstOf_t, sLstOf_r, sAppend_r, sPop_r, sPopAt_r, sInsert_r, sSet_r, sEq_ii, sEq_ss, sNe_ii, sNe_ss, sIn_ss, sIn_st, sIn_sr, sIs_n, sIsNot_n, isNonP_n, isNonP_t, isNonP_s, isNonP_i, isNonP_r, sNeg_i, sJoin_r, sSl_r, mDict0_n, mDict1_n, gTupM_t, gConsM_c, gNilM_n, seqP_t, seqP_o, seqP_r, withL_upd, upd_upd, dec_if, true_and, and_true, List.set_cons_zero, List.set_cons_succ, atI_0, atI_1, atI_2, ixN_30, ixN_31, ixN_32, ixN_s0, Option.some.injEq, exists_eq_left', exists_eq_left, Bool.not_true, Bool.not_false, if_true, if_false, Bool.false_eq_true, reduceCtorEq, List.length_cons, List.length_nil, endsOf, wipeM, List.map_cons, List.map_nil, ite_true, ite_false, eq_self_iff_true, false_and, Nat.reduceAdd, decide_true, decide_false, withL_eq h78, withL_eq h8]
      refine ⟨by rw [sz24]; simp [pss]; omega, newL_i fun p9 M9 n9 h9 x9 => ?_⟩
      have D8 := (D6.ext x7).ext x8
      have F8 := (F5.trans F6).trans (x7.fr.trans x8.fr)
      have e : pss (acc ++ [n]) ++ [.str ("(" : Str)] ++ pss tb ++ [.str (")" : Str)] = pss (acc ++ (n :: lp :: (tb ++ [rp]))) := by rw [e_lp, e_rp]; simp [pss]
      rw [e] at h9
      refine hl _ _ ⟨r, acc ++ (n :: lp :: (tb ++ [rp])), p9, _, rfl, hdr', D8.ext x9, F8.trans x9.fr, F8.none D8 n9, D8.oth n9, h9, by simp; omega, by omega, fun ts h => ?_⟩
      have := hT _ (.op (n := n) hTb h)
      simpa using this
  · obtain ⟨R, acc, p, t, rfl, hdr, D, Fm, np, op, hp, hlen, hdp, hT⟩ := h
    rw [List.drop_length] at hdr
    have := pv_nil.mp hdr.symm
    subst this
    refine hN1 _ _ ?_
    simp only [mSeq, mAsg, mOp, mUn, mVar, mC, mCB, mCons, mNil, mTup, mLst_n, mB, mTru, mNot, mAnd, mOr, mAndV, mOrV, mNotV, mIf, mIfS, mRet, mRetN, mDrop, mNext, mBreak, mCont, mBM, mBM0, mCall, mFor, mLc, mYes, iSeq, iRng, iRng2, iRevRng, gNameM, gSubM, mAug, mIsi, mSl, mPart, mNoPart, mRaise, getS_0, getS_s, isB_bl, truP_t, truP_b, sIx_t, sIx_o, sIx_r, sIx_s, sAdd_ii, sAdd_ss, sAdd_tt, sAdd_rr, sIAdd_ii, sIAdd_ss, sMul_ii, sMul_si, sI2_ii, sLen_t, sLen_o, sLen_r, sLen_s, sInt_i, sAbs_i, sMin2_i, sMax2_i, sStrI_i, sTupOf_t, sTupOf_r, sLstOf_t, sLstOf_r, sAppend_r, sPop_r, sPopAt_r, sInsert_r, sSet_r, sEq_ii, sEq_ss, sNe_ii, sNe_ss, sIn_ss, sIn_st, sIn_sr, sIs_n, sIsNot_n, isNonP_n, isNonP_t, isNonP_s, isNonP_i, isNonP_r, sNeg_i, sJoin_r, sSl_r, mDict0_n, mDict1_n, gTupM_t, gConsM_c, gNilM_n, seqP_t, seqP_o, seqP_r, withL_upd, upd_upd, dec_if, true_and, and_true, List.set_cons_zero, List.set_cons_succ, atI_0, atI_1, atI_2, ixN_30, ixN_31, ixN_32, ixN_s0, Option.some.injEq, exists_eq_left', exists_eq_left, Bool.not_true, Bool.not_false, if_true, if_false, Bool.false_eq_true, reduceCtorEq, List.length_cons, List.length_nil, endsOf, wipeM, List.map_cons, List.map_nil, ite_true, ite_false, eq_self_iff_true, false_and, Nat.reduceAdd, decide_true, decide_false]
    have := hT [] .nil
    rw [List.append_nil] at this
    exact q p _ acc D Fm np op hp this (by omega)
end K02
end PL
end L2
set_option maxRecDepth 100000
set_option maxHeartbeats 2000000
namespace L2
namespace PL
namespace K02
open PySem PySem.Spec PyProof.Rows K01 F
def Gap (s : Str) : Prop := (∀ c ∈ cl s, c = 32 ∨ c = 10) ∧ (cl s).length ≤ 3
def TokOk (t : Str) : Prop := t = lp ∨ t = rp ∨ NameTok t
def isPar (t : Str) : Bool := decide (t = lp ∨ t = rp)
def sp__law_laid : MSp := fun xs M Q _ => ∃ (st g c tk gp : Addr) (ts gs : List Str), xs = [.ref st, .ref tk, .ref gp] ∧ DrawSt M st g c ∧ Oth st g c tk ∧ Oth st g c gp ∧ M tk = some (.lst (pss ts)) ∧ M gp = some (.lst (pss gs)) ∧ gs ≠ [] ∧ gs.length ≤ 10 ∧ ts.length ≤ 6000 ∧ (∀ s ∈ gs, Gap s) ∧ (∀ t ∈ ts, TokOk t) ∧
  ∀ z M', DrawSt M' st g c → Fr st g M M' → (cl z).length ≤ 400000 → Laid ts (cl z) → Q (.str z) M'
/-- _law_laid: slots 0 state, 1 tokens_v, 2 gaps, 3 row, 4 k, 5 gap -/
def N__law_laid : List Str := ["state", "tokens_v", "gaps", "row", "k", "gap"]
def m__law_laid : MS :=
    (mSeq (mAsg (mLst (mCons (mOp sIx (mVar 2) (mCall sp__law_draw (mCons (mVar 0) (mCons (mCB sLen (mCons (mVar 2) mNil)) mNil)))) mNil)) (gNameM 3))
    (mSeq (mFor (iRng (mCons (mCB sLen (mCons (mVar 1) mNil)) mNil)) (gNameM 4)
    (mSeq (mDrop (mBM "list" sAppend (mVar 3) (mCons (mOp sIx (mVar 1) (mVar 4)) mNil)))
    (mSeq (mAsg (mOp sIx (mVar 2) (mCall sp__law_draw (mCons (mVar 0) (mCons (mCB sLen (mCons (mVar 2) mNil)) mNil)))) (gNameM 5))
    (mSeq (mIfS (mAnd (mB (mOp sEq (mVar 5) (mC (.str "")))) (mAnd (mB (mOp sLt (mOp sAdd (mVar 4) (mC (.int 1))) (mCB sLen (mCons (mVar 1) mNil)))) (mAnd (mB (mOp (sIn true) (mOp sIx (mVar 1) (mVar 4)) (mC (.str "()")))) (mB (mOp (sIn true) (mOp sIx (mVar 1) (mOp sAdd (mVar 4) (mC (.int 1)))) (mC (.str "()"))))))) (mAsg (mOp sIx (mLst (mCons (mC (.str " ")) (mCons (mC (.str "\n")) mNil))) (mCall sp__law_draw (mCons (mVar 0) (mCons (mC (.int 2)) mNil)))) (gNameM 5)) mNext)
    (mDrop (mBM "list" sAppend (mVar 3) (mCons (mVar 5) mNil)))))))
    (mRet (mBM "str" sJoin (mC (.str "")) (mCons (mVar 3) mNil)))))

theorem nm_notpar {n : Str} (h : NameTok n) : strIn n ("()" : Str) = false := by
  cases e : strIn n ("()" : Str) with
  | false => rfl
  | true =>
    obtain ⟨i, h1, h2⟩ := (StrLaws.found_iff ("()" : Str) n).mp e
    obtain ⟨⟨c, r, en, hl⟩, _, _⟩ := h
    rw [StrLaws.subAt_eq, beq_iff_eq] at h2
    have en' : n.cps.toList = c :: r := en
    have h3 : c ∈ ("()" : Str).cps.toList := by
      have : c ∈ (List.drop i ("()" : Str).cps.toList).take n.length := by rw [h2, en']; exact List.mem_cons_self
      exact List.mem_of_mem_drop (List.mem_of_mem_take this)
    have h4 : c ∈ cl ("()" : Str) := h3
    rw [cl_par] at h4
    simp at h4
    rcases h4 with rfl | rfl <;> cases hl
theorem in_par_tok {t : Str} (h : TokOk t) : strIn t ("()" : Str) = isPar t := by
  rcases h with rfl | rfl | h
  · rw [in_par]; rfl
  · rw [in_par]; rfl
  · rw [nm_notpar h]
    obtain ⟨⟨c, r, en, hl⟩, _, _⟩ := h
    symm
    refine decide_eq_false fun z => ?_
    rcases z with rfl | rfl
    · rw [cl_one] at en; injection en with e1 _; subst e1; cases hl
    · rw [cl_one] at en; injection en with e1 _; subst e1; cases hl
theorem laid_gap {ts : List Str} {cs : List Nat} (h : Laid ts cs) : ∀ {g : List Nat}, (∀ c ∈ g, c = 32 ∨ c = 10) → Laid ts (g ++ cs)
  | [], _ => h
  | c :: g, hg => .gap c (hg c List.mem_cons_self) (laid_gap h fun x m => hg x (List.mem_cons_of_mem _ m))
/-- what is laid so far: any end that fits makes a whole -/
def LP (ts : List Str) (k : Nat) (S : List Nat) (e : Bool) : Prop := ∀ cs', Laid (ts.drop k) cs' → (e = true → ∀ c s, cs' = c :: s → wch c = false) → Laid ts (S ++ cs')
theorem lp_step {ts : List Str} {k : Nat} {S : List Nat} {e : Bool} {t : Str} {g : List Nat} (h : LP ts k S e) (ht : ts[k]? = some t) (ok : TokOk t) (he : e = true → isPar t = true) (hg : ∀ c ∈ g, c = 32 ∨ c = 10) : LP ts (k + 1) (S ++ cl t ++ g) (g.isEmpty && !isPar t) := by
  intro cs' hL hs
  have hk := (List.getElem?_eq_some_iff.mp ht).1
  have hd : ts.drop k = t :: ts.drop (k + 1) := by
    rw [List.drop_eq_getElem_cons hk]
    congr 1
    rw [List.getElem?_eq_getElem hk] at ht
    exact Option.some.inj ht
  have hgc := laid_gap hL hg
  have stop : isPar t = false → ∀ c s, g ++ cs' = c :: s → wch c = false := fun hp c s ec => by
    cases g with
    | nil => exact hs (by rw [hp]; rfl) c s ec
    | cons a g =>
      rw [List.cons_append] at ec
      injection ec with ec _
      subst ec
      rcases hg a List.mem_cons_self with rfl | rfl <;> rfl
  rw [List.append_assoc, List.append_assoc]
  refine h (cl t ++ (g ++ cs')) ?_ fun h1 => ?_
  · rw [hd]
    rcases ok with rfl | rfl | hn
    · exact .par 40 (.inl rfl) hgc
    · exact .par 41 (.inr rfl) hgc
    · refine .name t hn hgc (stop ?_)
      have := in_par_tok (t := t) (.inr (.inr hn))
      rw [nm_notpar hn] at this
      exact this.symm
  · have hp := he h1
    have : t = lp ∨ t = rp := of_decide_eq_true hp
    rcases this with rfl | rfl
    · intro c s ec
      rw [cl_one] at ec
      injection ec with ec _
      subst ec; rfl
    · intro c s ec
      rw [cl_one] at ec
      injection ec with ec _
      subst ec; rfl
theorem par_len {t : Str} (h : TokOk t) : (cl t).length ≤ 46 := by
  rcases h with rfl | rfl | h
  · rw [cl_one]; decide
  · rw [cl_one]; decide
  · exact h.2.2
theorem nl_gap : ∀ d : Nat, d < 2 → ∃ s, atI [PV.str (" " : Str), PV.str ("\n" : Str)] d = some (.str s) ∧ Gap s ∧ (cl s) ≠ []
  | 0, _ => ⟨_, rfl, ⟨by rw [F.cl_sp]; simp, by rw [F.cl_sp]; decide⟩, by rw [F.cl_sp]; simp⟩
  | 1, _ => ⟨_, rfl, ⟨by rw [cl_nl]; simp, by rw [cl_nl]; decide⟩, by rw [cl_nl]; simp⟩
theorem cat_join (l : List Str) : cl (Txt.join ("" : Str) l) = (l.map cl).flatten := by
  rw [cl_join, F.cl_e]
  have : ∀ l : List (List Nat), List.intercalate [] l = l.flatten := fun l => by
    induction l with
    | nil => rfl
    | cons a l ih =>
      cases l with
      | nil => simp [List.intercalate]
      | cons b l => simp [List.intercalate, List.intersperse] at ih ⊢; exact ih
  exact this _
theorem d_laid : ∀ xs M Q E, sp__law_laid xs M Q E → m__law_laid (endsOf Q E) (startM N__law_laid xs) M := by
  rintro _ M Q E ⟨st, g, c, tk, gp, ts, gs, rfl, D, otk, ogp, htk, hgp, hgne, hg10, hts, hga, hta, q⟩
  show m__law_laid (endsOf Q E) [some (.ref st), some (.ref tk), some (.ref gp), none, none, none] M
  have lgs : (pss gs).length = gs.length := by simp [pss]
  have lts : (pss ts).length = ts.length := by simp [pss]
  have pgs : 0 < gs.length := List.length_pos_iff.mpr hgne
  unfold m__law_laid
  refine seq_i fun N1 hN1 => ?_
  simp only [mSeq, mAsg, mOp, mUn, mVar, mC, mCB, mCons, mNil, mTup, mLst_n, mB, mTru, mNot, mAnd, mOr, mAndV, mOrV, mNotV, mIf, mIfS, mRet, mRetN, mDrop, mNext, mBreak, mCont, mBM, mBM0, mCall, mFor, mLc, mYes, iSeq, iRng, iRng2, iRevRng, gNameM, gSubM, mAug, mIsi, mSl, mPart, mNoPart, mRaise, getS_0, getS_s, isB_bl, truP_t, truP_b, sIx_t, sIx_o, sIx_r, sIx_s, sAdd_ii, sAdd_ss, sAdd_tt, sAdd_rr, sIAdd_ii, sIAdd_ss, sMul_ii, sMul_si, sI2_ii, sLen_t, sLen_o, sLen_r, sLen_s, sInt_i, sAbs_i, sMin2_i, sMax2_i, sStrI_i, sTupOf_t, sTupOf_r, sLstOf_t, sLstOf_r, sAppend_r, sPop_r, sPopAt_r, sInsert_r, sSet_r, sEq_ii, sEq_ss, sNe_ii, sNe_ss, sIn_ss, sIn_st, sIn_sr, sIs_n, sIsNot_n, isNonP_n, isNonP_t, isNonP_s, isNonP_i, isNonP_r, sNeg_i, sJoin_r, sSl_r, mDict0_n, mDict1_n, gTupM_t, gConsM_c, gNilM_n, seqP_t, seqP_o, seqP_r, withL_upd, upd_upd, dec_if, true_and, and_true, List.set_cons_zero, List.set_cons_succ, atI_0, atI_1, atI_2, ixN_30, ixN_31, ixN_32, ixN_s0, Option.some.injEq, exists_eq_left', exists_eq_left, Bool.not_true, Bool.not_false, if_true, if_false, Bool.false_eq_true, reduceCtorEq, List.length_cons, List.length_nil, endsOf, wipeM, List.map_cons, List.map_nil, ite_true, ite_false, eq_self_iff_true, false_and, Nat.reduceAdd, decide_true, decide_false, withL_eq hgp]
  refine draw_i D (by omega) (by omega) fun d1 M1 hd1 D F1 => ?_
  have hgp := F1.at ogp hgp
  have htk := F1.at otk htk
  obtain ⟨g0, hg0, ha0⟩ := nm_dr hd1
  simp only [mSeq, mAsg, mOp, mUn, mVar, mC, mCB, mCons, mNil, mTup, mLst_n, mB, mTru, mNot, mAnd, mOr, mAndV, mOrV, mNotV, mIf, mIfS, mRet, mRetN, mDrop, mNext, mBreak, mCont, mBM, mBM0, mCall, mFor, mLc, mYes, iSeq, iRng, iRng2, iRevRng, gNameM, gSubM, mAug, mIsi, mSl, mPart, mNoPart, mRaise, getS_0, getS_s, isB_bl, truP_t, truP_b, sIx_t, sIx_o, sIx_r, sIx_s, sAdd_ii, sAdd_ss, sAdd_tt, sAdd_rr, sIAdd_ii, sIAdd_ss, sMul_ii, sMul_si, sI2_ii, sLen_t, sLen_o, sLen_r, sLen_s, sInt_i, sAbs_i, sMin2_i, sMax2_i, sStrI_i, sTupOf_t, sTupOf_r, sLstOf_t, sLstOf_r, sAppend_r, sPop_r, sPopAt_r, sInsert_r, sSet_r, sEq_ii, sEq_ss, sNe_ii, sNe_ss, sIn_ss, sIn_st, sIn_sr, sIs_n, sIsNot_n, isNonP_n, isNonP_t, isNonP_s, isNonP_i, isNonP_r, sNeg_i, sJoin_r, sSl_r, mDict0_n, mDict1_n, gTupM_t, gConsM_c, gNilM_n, seqP_t, seqP_o, seqP_r, withL_upd, upd_upd, dec_if, true_and, and_true, List.set_cons_zero, List.set_cons_succ, atI_0, atI_1, atI_2, ixN_30, ixN_31, ixN_32, ixN_s0, Option.some.injEq, exists_eq_left', exists_eq_left, Bool.not_true, Bool.not_false, if_true, if_false, Bool.false_eq_true, reduceCtorEq, List.length_cons, List.length_nil, endsOf, wipeM, List.map_cons, List.map_nil, ite_true, ite_false, eq_self_iff_true, false_and, Nat.reduceAdd, decide_true, decide_false, withL_eq hgp]
  refine ⟨_, ha0, by decide, newL_i fun p M2 n2 h2 x2 => hN1 _ _ ?_⟩
  clear hN1 N1
  have nt : tk ≠ p := fun z => by rw [z, n2] at htk; cases htk
  have ng : gp ≠ p := fun z => by rw [z, n2] at hgp; cases hgp
  have np := F1.none D n2
  have op := D.oth n2
  have htk := x2 _ _ htk
  have hgp := x2 _ _ hgp
  have D := D.ext x2
  have Fm := F1.trans x2.fr
  refine seq_i fun N1 hN1 => ?_
  simp only [mSeq, mAsg, mOp, mUn, mVar, mC, mCB, mCons, mNil, mTup, mLst_n, mB, mTru, mNot, mAnd, mOr, mAndV, mOrV, mNotV, mIf, mIfS, mRet, mRetN, mDrop, mNext, mBreak, mCont, mBM, mBM0, mCall, mFor, mLc, mYes, iSeq, iRng, iRng2, iRevRng, gNameM, gSubM, mAug, mIsi, mSl, mPart, mNoPart, mRaise, getS_0, getS_s, isB_bl, truP_t, truP_b, sIx_t, sIx_o, sIx_r, sIx_s, sAdd_ii, sAdd_ss, sAdd_tt, sAdd_rr, sIAdd_ii, sIAdd_ss, sMul_ii, sMul_si, sI2_ii, sLen_t, sLen_o, sLen_r, sLen_s, sInt_i, sAbs_i, sMin2_i, sMax2_i, sStrI_i, sTupOf_t, sTupOf_r, sLstOf_t, sLstOf_r, sAppend_r, sPop_r, sPopAt_r, sInsert_r, sSet_r, sEq_ii, sEq_ss, sNe_ii, sNe_ss, sIn_ss, sIn_st, sIn_sr, sIs_n, sIsNot_n, isNonP_n, isNonP_t, isNonP_s, isNonP_i, isNonP_r, sNeg_i, sJoin_r, sSl_r, mDict0_n, mDict1_n, gTupM_t, gConsM_c, gNilM_n, seqP_t, seqP_o, seqP_r, withL_upd, upd_upd, dec_if, true_and, and_true, List.set_cons_zero, List.set_cons_succ, atI_0, atI_1, atI_2, ixN_30, ixN_31, ixN_32, ixN_s0, Option.some.injEq, exists_eq_left', exists_eq_left, Bool.not_true, Bool.not_false, if_true, if_false, Bool.false_eq_true, reduceCtorEq, List.length_cons, List.length_nil, endsOf, wipeM, List.map_cons, List.map_nil, ite_true, ite_false, eq_self_iff_true, false_and, Nat.reduceAdd, decide_true, decide_false, withL_eq htk]
  rw [lts]
  refine ⟨⟨by omega, by omega⟩, ?_⟩
  have e1 : ((ts.length : Int)).toNat = ts.length := by omega
  rw [e1]
  refine for_rng (fun i μ M' => ∃ (acc : List Str) (e : Bool) (k gg : Option PV), μ = [some (.ref st), some (.ref tk), some (.ref gp), some (.ref p), k, gg] ∧ DrawSt M' st g c ∧ Fr st g M M' ∧ M' tk = some (.lst (pss ts)) ∧ M' gp = some (.lst (pss gs)) ∧ M' p = some (.lst (pss acc)) ∧ acc.length = 2 * i + 1 ∧ ((acc.map cl).flatten).length ≤ 50 * (i + 1) ∧ LP ts i (acc.map cl).flatten e ∧ (e = true → ∀ t, ts[i]? = some t → isPar t = true))
    (fun i μ M' L hi h hl => ?_) (fun μ M' h => ?_) ⟨[g0], false, none, none, rfl, D, Fm, htk, hgp, h2, rfl, by have := (hga g0 hg0).2; simp only [List.map_cons, List.map_nil, List.flatten_cons, List.flatten_nil, List.append_nil]; omega, fun cs' hL _ => by simpa using laid_gap hL (hga g0 hg0).1, fun h => nomatch h⟩
  · obtain ⟨acc, e, k, gg, rfl, D, Fm, htk, hgp, hp, hal, hsl, hLP, he⟩ := h
    have hti : ts[i]? = some ts[i] := List.getElem?_eq_getElem hi
    have hat : atI (pss ts) (i : Int) = some (.str ts[i]) := by rw [pss, atI_map, atI_nat hti]; rfl
    have hok := hta ts[i] (List.getElem_mem hi)
    generalize ts[i] = tt at hti hat hok
    have tl := par_len hok
    refine seq_i fun N2 hN2 => ?_
    simp only [mSeq, mAsg, mOp, mUn, mVar, mC, mCB, mCons, mNil, mTup, mLst_n, mB, mTru, mNot, mAnd, mOr, mAndV, mOrV, mNotV, mIf, mIfS, mRet, mRetN, mDrop, mNext, mBreak, mCont, mBM, mBM0, mCall, mFor, mLc, mYes, iSeq, iRng, iRng2, iRevRng, gNameM, gSubM, mAug, mIsi, mSl, mPart, mNoPart, mRaise, getS_0, getS_s, isB_bl, truP_t, truP_b, sIx_t, sIx_o, sIx_r, sIx_s, sAdd_ii, sAdd_ss, sAdd_tt, sAdd_rr, sIAdd_ii, sIAdd_ss, sMul_ii, sMul_si, sI2_ii, sLen_t, sLen_o, sLen_r, sLen_s, sInt_i, sAbs_i, sMin2_i, sMax2_i, sStrI_i, sTupOf_t, sTupOf_r, sLstOf_t, sLstOf_r, sAppend_r, sPop_r, sPopAt_r, sInsert_r, sSet_r, sEq_ii, sEq_ss, sNe_ii, sNe_ss, sIn_ss, sIn_st, sIn_sr, sIs_n, sIsNot_n, isNonP_n, isNonP_t, isNonP_s, isNonP_i, isNonP_r, sNeg_i, sJoin_r, sSl_r, mDict0_n, mDict1_n, gTupM_t, gConsM_c, gNilM_n, seqP_t, seqP_o, seqP_r, withL_upd, upd_upd, dec_if, true_and, and_true, List.set_cons_zero, List.set_cons_succ, atI_0, atI_1, atI_2, ixN_30, ixN_31, ixN_32, ixN_s0, Option.some.injEq, exists_eq_left', exists_eq_left, Bool.not_true, Bool.not_false, if_true, if_false, Bool.false_eq_true, reduceCtorEq, List.length_cons, List.length_nil, endsOf, wipeM, List.map_cons, List.map_nil, ite_true, ite_false, eq_self_iff_true, false_and, Nat.reduceAdd, decide_true, decide_false, tyM_l hp, withL_eq htk]
    refine ⟨_, hat, ?_⟩
    simp only [mSeq, mAsg, mOp, mUn, mVar, mC, mCB, mCons, mNil, mTup, mLst_n, mB, mTru, mNot, mAnd, mOr, mAndV, mOrV, mNotV, mIf, mIfS, mRet, mRetN, mDrop, mNext, mBreak, mCont, mBM, mBM0, mCall, mFor, mLc, mYes, iSeq, iRng, iRng2, iRevRng, gNameM, gSubM, mAug, mIsi, mSl, mPart, mNoPart, mRaise, getS_0, getS_s, isB_bl, truP_t, truP_b, sIx_t, sIx_o, sIx_r, sIx_s, sAdd_ii, sAdd_ss, sAdd_tt, sAdd_rr, sIAdd_ii, sIAdd_ss, sMul_ii, sMul_si, sI2_ii, sLen_t, sLen_o, sLen_r, sLen_s, sInt_i, sAbs_i, sMin2_i, sMax2_i, sStrI_i, sTupOf_t, sTupOf_r, sLstOf_t, sLstOf_r, sAppend_r, sPop_r, sPopAt_r, sInsert_r, sSet_r, sEq_ii, sEq_ss, sNe_ii, sNe_ss, sIn_ss, sIn_st, sIn_sr, sIs_n, sIsNot_n, isNonP_n, isNonP_t, isNonP_s, isNonP_i, isNonP_r, sNeg_i, sJoin_r, sSl_r, mDict0_n, mDict1_n, gTupM_t, gConsM_c, gNilM_n, seqP_t, seqP_o, seqP_r, withL_upd, upd_upd, dec_if, true_and, and_true, List.set_cons_zero, List.set_cons_succ, atI_0, atI_1, atI_2, ixN_30, ixN_31, ixN_32, ixN_s0, Option.some.injEq, exists_eq_left', exists_eq_left, Bool.not_true, Bool.not_false, if_true, if_false, Bool.false_eq_true, reduceCtorEq, List.length_cons, List.length_nil, endsOf, wipeM, List.map_cons, List.map_nil, ite_true, ite_false, eq_self_iff_true, false_and, Nat.reduceAdd, decide_true, decide_false, withL_eq hp]
    refine ⟨by rw [sz24]; simp [pss]; omega, hN2 _ _ ?_⟩
    clear hN2 N2
    have D := D.mut (o := .lst (pss acc ++ [.str tt])) op
    have Fm := Fm.mut (o := .lst (pss acc ++ [.str tt])) np
    have hp : updM M' p (.lst (pss acc ++ [.str tt])) p = some (.lst (pss (acc ++ [tt]))) := by rw [updM_same]; simp [pss]
    have htk : updM M' p (.lst (pss acc ++ [.str tt])) tk = some (.lst (pss ts)) := by rw [updM_ne nt]; exact htk
    have hgp : updM M' p (.lst (pss acc ++ [.str tt])) gp = some (.lst (pss gs)) := by rw [updM_ne ng]; exact hgp
    generalize updM M' p (.lst (pss acc ++ [.str tt])) = M2 at D Fm hp htk hgp
    refine seq_i fun N2 hN2 => ?_
    simp only [mSeq, mAsg, mOp, mUn, mVar, mC, mCB, mCons, mNil, mTup, mLst_n, mB, mTru, mNot, mAnd, mOr, mAndV, mOrV, mNotV, mIf, mIfS, mRet, mRetN, mDrop, mNext, mBreak, mCont, mBM, mBM0, mCall, mFor, mLc, mYes, iSeq, iRng, iRng2, iRevRng, gNameM, gSubM, mAug, mIsi, mSl, mPart, mNoPart, mRaise, getS_0, getS_s, isB_bl, truP_t, truP_b, sIx_t, sIx_o, sIx_r, sIx_s, sAdd_ii, sAdd_ss, sAdd_tt, sAdd_rr, sIAdd_ii, sIAdd_ss, sMul_ii, sMul_si, sI2_ii, sLen_t, sLen_o, sLen_r, sLen_s, sInt_i, sAbs_i, sMin2_i, sMax2_i, sStrI_i, sTupOf_t, sTupOf_r, sLstOf_t, sLstOf_r, sAppend_r, sPop_r, sPopAt_r, sInsert_r, sSet_r, sEq_ii, sEq_ss, sNe_ii, sNe_ss, sIn_ss, sIn_st, sIn_sr, sIs_n, sIsNot_n, isNonP_n, isNonP_t, isNonP_s, isNonP_i, isNonP_r, sNeg_i, sJoin_r, sSl_r, mDict0_n, mDict1_n, gTupM_t, gConsM_c, gNilM_n, seqP_t, seqP_o, seqP_r, withL_upd, upd_upd, dec_if, true_and, and_true, List.set_cons_zero, List.set_cons_succ, atI_0, atI_1, atI_2, ixN_30, ixN_31, ixN_32, ixN_s0, Option.some.injEq, exists_eq_left', exists_eq_left, Bool.not_true, Bool.not_false, if_true, if_false, Bool.false_eq_true, reduceCtorEq, List.length_cons, List.length_nil, endsOf, wipeM, List.map_cons, List.map_nil, ite_true, ite_false, eq_self_iff_true, false_and, Nat.reduceAdd, decide_true, decide_false, withL_eq hgp]
    refine draw_i D (by omega) (by omega) fun d3 M3 hd3 D F3 => ?_
    have Fm := Fm.trans F3
    have hgp := F3.at ogp hgp
    have htk := F3.at otk htk
    have hp := F3.at op hp
    obtain ⟨s, hs, has⟩ := nm_dr hd3
    have hgs := hga s hs
    simp only [mSeq, mAsg, mOp, mUn, mVar, mC, mCB, mCons, mNil, mTup, mLst_n, mB, mTru, mNot, mAnd, mOr, mAndV, mOrV, mNotV, mIf, mIfS, mRet, mRetN, mDrop, mNext, mBreak, mCont, mBM, mBM0, mCall, mFor, mLc, mYes, iSeq, iRng, iRng2, iRevRng, gNameM, gSubM, mAug, mIsi, mSl, mPart, mNoPart, mRaise, getS_0, getS_s, isB_bl, truP_t, truP_b, sIx_t, sIx_o, sIx_r, sIx_s, sAdd_ii, sAdd_ss, sAdd_tt, sAdd_rr, sIAdd_ii, sIAdd_ss, sMul_ii, sMul_si, sI2_ii, sLen_t, sLen_o, sLen_r, sLen_s, sInt_i, sAbs_i, sMin2_i, sMax2_i, sStrI_i, sTupOf_t, sTupOf_r, sLstOf_t, sLstOf_r, sAppend_r, sPop_r, sPopAt_r, sInsert_r, sSet_r, sEq_ii, sEq_ss, sNe_ii, sNe_ss, sIn_ss, sIn_st, sIn_sr, sIs_n, sIsNot_n, isNonP_n, isNonP_t, isNonP_s, isNonP_i, isNonP_r, sNeg_i, sJoin_r, sSl_r, mDict0_n, mDict1_n, gTupM_t, gConsM_c, gNilM_n, seqP_t, seqP_o, seqP_r, withL_upd, upd_upd, dec_if, true_and, and_true, List.set_cons_zero, List.set_cons_succ, atI_0, atI_1, atI_2, ixN_30, ixN_31, ixN_32, ixN_s0, Option.some.injEq, exists_eq_left', exists_eq_left, Bool.not_true, Bool.not_false, if_true, if_false, Bool.false_eq_true, reduceCtorEq, List.length_cons, List.length_nil, endsOf, wipeM, List.map_cons, List.map_nil, ite_true, ite_false, eq_self_iff_true, false_and, Nat.reduceAdd, decide_true, decide_false, withL_eq hgp]
    refine ⟨_, has, hN2 _ _ ?_⟩
    clear hN2 N2
    refine seq_i fun N2 hN2 => ?_
    have fin : ∀ (s : Str) M4, Gap s → DrawSt M4 st g c → Fr st g M M4 → M4 tk = some (.lst (pss ts)) → M4 gp = some (.lst (pss gs)) → M4 p = some (.lst (pss (acc ++ [tt]))) → (cl s = [] → isPar tt = false → ∀ u, ts[i + 1]? = some u → isPar u = true) → N2 [some (.ref st), some (.ref tk), some (.ref gp), some (.ref p), some (.int i), some (.str s)] M4 := by
      intro s M4 hg D Fm htk hgp hp hc
      refine hN2 _ _ ?_
      simp only [mSeq, mAsg, mOp, mUn, mVar, mC, mCB, mCons, mNil, mTup, mLst_n, mB, mTru, mNot, mAnd, mOr, mAndV, mOrV, mNotV, mIf, mIfS, mRet, mRetN, mDrop, mNext, mBreak, mCont, mBM, mBM0, mCall, mFor, mLc, mYes, iSeq, iRng, iRng2, iRevRng, gNameM, gSubM, mAug, mIsi, mSl, mPart, mNoPart, mRaise, getS_0, getS_s, isB_bl, truP_t, truP_b, sIx_t, sIx_o, sIx_r, sIx_s, sAdd_ii, sAdd_ss, sAdd_tt, sAdd_rr, sIAdd_ii, sIAdd_ss, sMul_ii, sMul_si, sI2_ii, sLen_t, sLen_o, sLen_r, sLen_s, sInt_i, sAbs_i, sMin2_i, sMax2_i, sStrI_i, sTupOf_t, sTupOf_r, sLstOf_t, sLstOf_r, sAppend_r, sPop_r, sPopAt_r, sInsert_r, sSet_r, sEq_ii, sEq_ss, sNe_ii, sNe_ss, sIn_ss, sIn_st, sIn_sr, sIs_n, sIsNot_n, isNonP_n, isNonP_t, isNonP_s, isNonP_i, isNonP_r, sNeg_i, sJoin_r, sSl_r, mDict0_n, mDict1_n, gTupM_t, gConsM_c, gNilM_n, seqP_t, seqP_o, seqP_r, withL_upd, upd_upd, dec_if, true_and, and_true, List.set_cons_zero, List.set_cons_succ, atI_0, atI_1, atI_2, ixN_30, ixN_31, ixN_32, ixN_s0, Option.some.injEq, exists_eq_left', exists_eq_left, Bool.not_true, Bool.not_false, if_true, if_false, Bool.false_eq_true, reduceCtorEq, List.length_cons, List.length_nil, endsOf, wipeM, List.map_cons, List.map_nil, ite_true, ite_false, eq_self_iff_true, false_and, Nat.reduceAdd, decide_true, decide_false, tyM_l hp, withL_eq hp]
      refine ⟨by rw [sz24]; simp [pss]; omega, hl _ _ ⟨acc ++ [tt] ++ [s], (cl s).isEmpty && !isPar tt, _, _, rfl, D.mut op, Fm.mut np, by rw [updM_ne nt]; exact htk, by rw [updM_ne ng]; exact hgp, by rw [updM_same]; simp [pss], by simp; omega, ?_, ?_, fun he u hu => ?_⟩⟩
      · have := hg.2
        simp only [List.map_append, List.map_cons, List.map_nil, List.flatten_append, List.flatten_cons, List.flatten_nil, List.append_nil, List.length_append]
        omega
      · have := lp_step hLP hti hok (fun h => he h tt hti) hg.1
        have e : (acc.map cl).flatten ++ cl tt ++ cl s = ((acc ++ [tt] ++ [s]).map cl).flatten := by simp
        rw [e] at this
        exact this
      · rw [Bool.and_eq_true] at he
        exact hc (List.isEmpty_iff.mp he.1) (by simpa using he.2) u hu
    simp only [mSeq, mAsg, mOp, mUn, mVar, mC, mCB, mCons, mNil, mTup, mLst_n, mB, mTru, mNot, mAnd, mOr, mAndV, mOrV, mNotV, mIf, mIfS, mRet, mRetN, mDrop, mNext, mBreak, mCont, mBM, mBM0, mCall, mFor, mLc, mYes, iSeq, iRng, iRng2, iRevRng, gNameM, gSubM, mAug, mIsi, mSl, mPart, mNoPart, mRaise, getS_0, getS_s, isB_bl, truP_t, truP_b, sIx_t, sIx_o, sIx_r, sIx_s, sAdd_ii, sAdd_ss, sAdd_tt, sAdd_rr, sIAdd_ii, sIAdd_ss, sMul_ii, sMul_si, sI2_ii, sLen_t, sLen_o, sLen_r, sLen_s, sInt_i, sAbs_i, sMin2_i, sMax2_i, sStrI_i, sTupOf_t, sTupOf_r, sLstOf_t, sLstOf_r, sAppend_r, sPop_r, sPopAt_r, sInsert_r, sSet_r, sEq_ii, sEq_ss, sNe_ii, sNe_ss, sIn_ss, sIn_st, sIn_sr, sIs_n, sIsNot_n, isNonP_n, isNonP_t, isNonP_s, isNonP_i, isNonP_r, sNeg_i, sJoin_r, sSl_r, mDict0_n, mDict1_n, gTupM_t, gConsM_c, gNilM_n, seqP_t, seqP_o, seqP_r, withL_upd, upd_upd, dec_if, true_and, and_true, List.set_cons_zero, List.set_cons_succ, atI_0, atI_1, atI_2, ixN_30, ixN_31, ixN_32, ixN_s0, Option.some.injEq, exists_eq_left', exists_eq_left, Bool.not_true, Bool.not_false, if_true, if_false, Bool.false_eq_true, reduceCtorEq, List.length_cons, List.length_nil, endsOf, wipeM, List.map_cons, List.map_nil, ite_true, ite_false, eq_self_iff_true, false_and, Nat.reduceAdd, decide_true, decide_false]
    by_cases hs0 : s = ("" : Str)
    · rw [if_pos hs0]
      have ek : (i : Int) + 1 = ((i + 1 : Nat) : Int) := by omega
      simp only [mSeq, mAsg, mOp, mUn, mVar, mC, mCB, mCons, mNil, mTup, mLst_n, mB, mTru, mNot, mAnd, mOr, mAndV, mOrV, mNotV, mIf, mIfS, mRet, mRetN, mDrop, mNext, mBreak, mCont, mBM, mBM0, mCall, mFor, mLc, mYes, iSeq, iRng, iRng2, iRevRng, gNameM, gSubM, mAug, mIsi, mSl, mPart, mNoPart, mRaise, getS_0, getS_s, isB_bl, truP_t, truP_b, sIx_t, sIx_o, sIx_r, sIx_s, sAdd_ii, sAdd_ss, sAdd_tt, sAdd_rr, sIAdd_ii, sIAdd_ss, sMul_ii, sMul_si, sI2_ii, sLen_t, sLen_o, sLen_r, sLen_s, sInt_i, sAbs_i, sMin2_i, sMax2_i, sStrI_i, sTupOf_t, sTupOf_r, sLstOf_t, sLstOf_r, sAppend_r, sPop_r, sPopAt_r, sInsert_r, sSet_r, sEq_ii, sEq_ss, sNe_ii, sNe_ss, sIn_ss, sIn_st, sIn_sr, sIs_n, sIsNot_n, isNonP_n, isNonP_t, isNonP_s, isNonP_i, isNonP_r, sNeg_i, sJoin_r, sSl_r, mDict0_n, mDict1_n, gTupM_t, gConsM_c, gNilM_n, seqP_t, seqP_o, seqP_r, withL_upd, upd_upd, dec_if, true_and, and_true, List.set_cons_zero, List.set_cons_succ, atI_0, atI_1, atI_2, ixN_30, ixN_31, ixN_32, ixN_s0, Option.some.injEq, exists_eq_left', exists_eq_left, Bool.not_true, Bool.not_false, if_true, if_false, Bool.false_eq_true, reduceCtorEq, List.length_cons, List.length_nil, endsOf, wipeM, List.map_cons, List.map_nil, ite_true, ite_false, eq_self_iff_true, false_and, Nat.reduceAdd, decide_true, decide_false, withL_eq htk]
      rw [ek, lts]
      by_cases hi1 : i + 1 < ts.length
      · rw [if_pos (by omega)]
        refine ⟨_, hat, ?_⟩
        simp only [mSeq, mAsg, mOp, mUn, mVar, mC, mCB, mCons, mNil, mTup, mLst_n, mB, mTru, mNot, mAnd, mOr, mAndV, mOrV, mNotV, mIf, mIfS, mRet, mRetN, mDrop, mNext, mBreak, mCont, mBM, mBM0, mCall, mFor, mLc, mYes, iSeq, iRng, iRng2, iRevRng, gNameM, gSubM, mAug, mIsi, mSl, mPart, mNoPart, mRaise, getS_0, getS_s, isB_bl, truP_t, truP_b, sIx_t, sIx_o, sIx_r, sIx_s, sAdd_ii, sAdd_ss, sAdd_tt, sAdd_rr, sIAdd_ii, sIAdd_ss, sMul_ii, sMul_si, sI2_ii, sLen_t, sLen_o, sLen_r, sLen_s, sInt_i, sAbs_i, sMin2_i, sMax2_i, sStrI_i, sTupOf_t, sTupOf_r, sLstOf_t, sLstOf_r, sAppend_r, sPop_r, sPopAt_r, sInsert_r, sSet_r, sEq_ii, sEq_ss, sNe_ii, sNe_ss, sIn_ss, sIn_st, sIn_sr, sIs_n, sIsNot_n, isNonP_n, isNonP_t, isNonP_s, isNonP_i, isNonP_r, sNeg_i, sJoin_r, sSl_r, mDict0_n, mDict1_n, gTupM_t, gConsM_c, gNilM_n, seqP_t, seqP_o, seqP_r, withL_upd, upd_upd, dec_if, true_and, and_true, List.set_cons_zero, List.set_cons_succ, atI_0, atI_1, atI_2, ixN_30, ixN_31, ixN_32, ixN_s0, Option.some.injEq, exists_eq_left', exists_eq_left, Bool.not_true, Bool.not_false, if_true, if_false, Bool.false_eq_true, reduceCtorEq, List.length_cons, List.length_nil, endsOf, wipeM, List.map_cons, List.map_nil, ite_true, ite_false, eq_self_iff_true, false_and, Nat.reduceAdd, decide_true, decide_false]
        rw [in_par_tok hok]
        cases hpt : isPar tt with
        | true =>
          simp only [mSeq, mAsg, mOp, mUn, mVar, mC, mCB, mCons, mNil, mTup, mLst_n, mB, mTru, mNot, mAnd, mOr, mAndV, mOrV, mNotV, mIf, mIfS, mRet, mRetN, mDrop, mNext, mBreak, mCont, mBM, mBM0, mCall, mFor, mLc, mYes, iSeq, iRng, iRng2, iRevRng, gNameM, gSubM, mAug, mIsi, mSl, mPart, mNoPart, mRaise, getS_0, getS_s, isB_bl, truP_t, truP_b, sIx_t, sIx_o, sIx_r, sIx_s, sAdd_ii, sAdd_ss, sAdd_tt, sAdd_rr, sIAdd_ii, sIAdd_ss, sMul_ii, sMul_si, sI2_ii, sLen_t, sLen_o, sLen_r, sLen_s, sInt_i, sAbs_i, sMin2_i, sMax2_i, sStrI_i, sTupOf_t, sTupOf_r, sLstOf_t, sLstOf_r, sAppend_r, sPop_r, sPopAt_r, sInsert_r, sSet_r, sEq_ii, sEq_ss, sNe_ii, sNe_ss, sIn_ss, sIn_st, sIn_sr, sIs_n, sIsNot_n, isNonP_n, isNonP_t, isNonP_s, isNonP_i, isNonP_r, sNeg_i, sJoin_r, sSl_r, mDict0_n, mDict1_n, gTupM_t, gConsM_c, gNilM_n, seqP_t, seqP_o, seqP_r, withL_upd, upd_upd, dec_if, true_and, and_true, List.set_cons_zero, List.set_cons_succ, atI_0, atI_1, atI_2, ixN_30, ixN_31, ixN_32, ixN_s0, Option.some.injEq, exists_eq_left', exists_eq_left, Bool.not_true, Bool.not_false, if_true, if_false, Bool.false_eq_true, reduceCtorEq, List.length_cons, List.length_nil, endsOf, wipeM, List.map_cons, List.map_nil, ite_true, ite_false, eq_self_iff_true, false_and, Nat.reduceAdd, decide_true, decide_false]
          exact fin s M3 hgs D Fm htk hgp hp (fun _ h => by rw [hpt] at h; cases h)
        | false =>
          simp only [mSeq, mAsg, mOp, mUn, mVar, mC, mCB, mCons, mNil, mTup, mLst_n, mB, mTru, mNot, mAnd, mOr, mAndV, mOrV, mNotV, mIf, mIfS, mRet, mRetN, mDrop, mNext, mBreak, mCont, mBM, mBM0, mCall, mFor, mLc, mYes, iSeq, iRng, iRng2, iRevRng, gNameM, gSubM, mAug, mIsi, mSl, mPart, mNoPart, mRaise, getS_0, getS_s, isB_bl, truP_t, truP_b, sIx_t, sIx_o, sIx_r, sIx_s, sAdd_ii, sAdd_ss, sAdd_tt, sAdd_rr, sIAdd_ii, sIAdd_ss, sMul_ii, sMul_si, sI2_ii, sLen_t, sLen_o, sLen_r, sLen_s, sInt_i, sAbs_i, sMin2_i, sMax2_i, sStrI_i, sTupOf_t, sTupOf_r, sLstOf_t, sLstOf_r, sAppend_r, sPop_r, sPopAt_r, sInsert_r, sSet_r, sEq_ii, sEq_ss, sNe_ii, sNe_ss, sIn_ss, sIn_st, sIn_sr, sIs_n, sIsNot_n, isNonP_n, isNonP_t, isNonP_s, isNonP_i, isNonP_r, sNeg_i, sJoin_r, sSl_r, mDict0_n, mDict1_n, gTupM_t, gConsM_c, gNilM_n, seqP_t, seqP_o, seqP_r, withL_upd, upd_upd, dec_if, true_and, and_true, List.set_cons_zero, List.set_cons_succ, atI_0, atI_1, atI_2, ixN_30, ixN_31, ixN_32, ixN_s0, Option.some.injEq, exists_eq_left', exists_eq_left, Bool.not_true, Bool.not_false, if_true, if_false, Bool.false_eq_true, reduceCtorEq, List.length_cons, List.length_nil, endsOf, wipeM, List.map_cons, List.map_nil, ite_true, ite_false, eq_self_iff_true, false_and, Nat.reduceAdd, decide_true, decide_false, withL_eq htk]
          have hti1 : ts[i + 1]? = some ts[i + 1] := List.getElem?_eq_getElem hi1
          have hat1 : atI (pss ts) ((i + 1 : Nat) : Int) = some (.str ts[i + 1]) := by rw [pss, atI_map, atI_nat hti1]; rfl
          have hok1 := hta ts[i + 1] (List.getElem_mem hi1)
          generalize ts[i + 1] = uu at hti1 hat1 hok1
          refine ⟨_, hat1, ?_⟩
          simp only [mSeq, mAsg, mOp, mUn, mVar, mC, mCB, mCons, mNil, mTup, mLst_n, mB, mTru, mNot, mAnd, mOr, mAndV, mOrV, mNotV, mIf, mIfS, mRet, mRetN, mDrop, mNext, mBreak, mCont, mBM, mBM0, mCall, mFor, mLc, mYes, iSeq, iRng, iRng2, iRevRng, gNameM, gSubM, mAug, mIsi, mSl, mPart, mNoPart, mRaise, getS_0, getS_s, isB_bl, truP_t, truP_b, sIx_t, sIx_o, sIx_r, sIx_s, sAdd_ii, sAdd_ss, sAdd_tt, sAdd_rr, sIAdd_ii, sIAdd_ss, sMul_ii, sMul_si, sI2_ii, sLen_t, sLen_o, sLen_r, sLen_s, sInt_i, sAbs_i, sMin2_i, sMax2_i, sStrI_i, sTupOf_t, sTupOf_r, sLstOf_t, sLstOf_r, sAppend_r, sPop_r, sPopAt_r, sInsert_r, sSet_r, sEq_ii, sEq_ss, sNe_ii, sNe_ss, sIn_ss, sIn_st, sIn_sr, sIs_n, sIsNot_n, isNonP_n, isNonP_t, isNonP_s, isNonP_i, isNonP_r, sNeg_i, sJoin_r, sSl_r, mDict0_n, mDict1_n, gTupM_t, gConsM_c, gNilM_n, seqP_t, seqP_o, seqP_r, withL_upd, upd_upd, dec_if, true_and, and_true, List.set_cons_zero, List.set_cons_succ, atI_0, atI_1, atI_2, ixN_30, ixN_31, ixN_32, ixN_s0, Option.some.injEq, exists_eq_left', exists_eq_left, Bool.not_true, Bool.not_false, if_true, if_false, Bool.false_eq_true, reduceCtorEq, List.length_cons, List.length_nil, endsOf, wipeM, List.map_cons, List.map_nil, ite_true, ite_false, eq_self_iff_true, false_and, Nat.reduceAdd, decide_true, decide_false]
          rw [in_par_tok hok1]
          cases hpu : isPar uu with
          | true =>
            simp only [mSeq, mAsg, mOp, mUn, mVar, mC, mCB, mCons, mNil, mTup, mLst_n, mB, mTru, mNot, mAnd, mOr, mAndV, mOrV, mNotV, mIf, mIfS, mRet, mRetN, mDrop, mNext, mBreak, mCont, mBM, mBM0, mCall, mFor, mLc, mYes, iSeq, iRng, iRng2, iRevRng, gNameM, gSubM, mAug, mIsi, mSl, mPart, mNoPart, mRaise, getS_0, getS_s, isB_bl, truP_t, truP_b, sIx_t, sIx_o, sIx_r, sIx_s, sAdd_ii, sAdd_ss, sAdd_tt, sAdd_rr, sIAdd_ii, sIAdd_ss, sMul_ii, sMul_si, sI2_ii, sLen_t, sLen_o, sLen_r, sLen_s, sInt_i, sAbs_i, sMin2_i, sMax2_i, sStrI_i, sTupOf_t, sTupOf_r, sLstOf_t, sLstOf_r, sAppend_r, sPop_r, sPopAt_r, sInsert_r, sSet_r, sEq_ii, sEq_ss, sNe_ii, sNe_ss, sIn_ss, sIn_st, sIn_sr, sIs_n, sIsNot_n, isNonP_n, isNonP_t, isNonP_s, isNonP_i, isNonP_r, sNeg_i, sJoin_r, sSl_r, mDict0_n, mDict1_n, gTupM_t, gConsM_c, gNilM_n, seqP_t, seqP_o, seqP_r, withL_upd, upd_upd, dec_if, true_and, and_true, List.set_cons_zero, List.set_cons_succ, atI_0, atI_1, atI_2, ixN_30, ixN_31, ixN_32, ixN_s0, Option.some.injEq, exists_eq_left', exists_eq_left, Bool.not_true, Bool.not_false, if_true, if_false, Bool.false_eq_true, reduceCtorEq, List.length_cons, List.length_nil, endsOf, wipeM, List.map_cons, List.map_nil, ite_true, ite_false, eq_self_iff_true, false_and, Nat.reduceAdd, decide_true, decide_false]
            refine fin s M3 hgs D Fm htk hgp hp fun _ _ u hu => ?_
            rw [hti1] at hu; cases hu; exact hpu
          | false =>
            simp only [mSeq, mAsg, mOp, mUn, mVar, mC, mCB, mCons, mNil, mTup, mLst_n, mB, mTru, mNot, mAnd, mOr, mAndV, mOrV, mNotV, mIf, mIfS, mRet, mRetN, mDrop, mNext, mBreak, mCont, mBM, mBM0, mCall, mFor, mLc, mYes, iSeq, iRng, iRng2, iRevRng, gNameM, gSubM, mAug, mIsi, mSl, mPart, mNoPart, mRaise, getS_0, getS_s, isB_bl, truP_t, truP_b, sIx_t, sIx_o, sIx_r, sIx_s, sAdd_ii, sAdd_ss, sAdd_tt, sAdd_rr, sIAdd_ii, sIAdd_ss, sMul_ii, sMul_si, sI2_ii, sLen_t, sLen_o, sLen_r, sLen_s, sInt_i, sAbs_i, sMin2_i, sMax2_i, sStrI_i, sTupOf_t, sTupOf_r, sLstOf_t, sLstOf_r, sAppend_r, sPop_r, sPopAt_r, sInsert_r, sSet_r, sEq_ii, sEq_ss, sNe_ii, sNe_ss, sIn_ss, sIn_st, sIn_sr, sIs_n, sIsNot_n, isNonP_n, isNonP_t, isNonP_s, isNonP_i, isNonP_r, sNeg_i, sJoin_r, sSl_r, mDict0_n, mDict1_n, gTupM_t, gConsM_c, gNilM_n, seqP_t, seqP_o, seqP_r, withL_upd, upd_upd, dec_if, true_and, and_true, List.set_cons_zero, List.set_cons_succ, atI_0, atI_1, atI_2, ixN_30, ixN_31, ixN_32, ixN_s0, Option.some.injEq, exists_eq_left', exists_eq_left, Bool.not_true, Bool.not_false, if_true, if_false, Bool.false_eq_true, reduceCtorEq, List.length_cons, List.length_nil, endsOf, wipeM, List.map_cons, List.map_nil, ite_true, ite_false, eq_self_iff_true, false_and, Nat.reduceAdd, decide_true, decide_false]
            refine ⟨by decide, newL_i fun p4 M4 n4 h4 x4 => draw_i (D.ext x4) (by decide) (by decide) fun d5 M5 hd5 D F5 => ?_⟩
            have h45 := F5.at ((‹DrawSt M3 st g c›).oth n4) h4
            obtain ⟨s2, a2, g2, ne2⟩ := nl_gap d5 (by omega)
            simp only [mSeq, mAsg, mOp, mUn, mVar, mC, mCB, mCons, mNil, mTup, mLst_n, mB, mTru, mNot, mAnd, mOr, mAndV, mOrV, mNotV, mIf, mIfS, mRet, mRetN, mDrop, mNext, mBreak, mCont, mBM, mBM0, mCall, mFor, mLc, mYes, iSeq, iRng, iRng2, iRevRng, gNameM, gSubM, mAug, mIsi, mSl, mPart, mNoPart, mRaise, getS_0, getS_s, isB_bl, truP_t, truP_b, sIx_t, sIx_o, sIx_r, sIx_s, sAdd_ii, sAdd_ss, sAdd_tt, sAdd_rr, sIAdd_ii, sIAdd_ss, sMul_ii, sMul_si, sI2_ii, sLen_t, sLen_o, sLen_r, sLen_s, sInt_i, sAbs_i, sMin2_i, sMax2_i, sStrI_i, sTupOf_t, sTupOf_r, sLstOf_t, sLstOf_r, sAppend_r, sPop_r, sPopAt_r, sInsert_r, sSet_r, sEq_ii, sEq_ss, sNe_ii, sNe_ss, sIn_ss, sIn_st, sIn_sr, sIs_n, sIsNot_n, isNonP_n, isNonP_t, isNonP_s, isNonP_i, isNonP_r, sNeg_i, sJoin_r, sSl_r, mDict0_n, mDict1_n, gTupM_t, gConsM_c, gNilM_n, seqP_t, seqP_o, seqP_r, withL_upd, upd_upd, dec_if, true_and, and_true, List.set_cons_zero, List.set_cons_succ, atI_0, atI_1, atI_2, ixN_30, ixN_31, ixN_32, ixN_s0, Option.some.injEq, exists_eq_left', exists_eq_left, Bool.not_true, Bool.not_false, if_true, if_false, Bool.false_eq_true, reduceCtorEq, List.length_cons, List.length_nil, endsOf, wipeM, List.map_cons, List.map_nil, ite_true, ite_false, eq_self_iff_true, false_and, Nat.reduceAdd, decide_true, decide_false, withL_eq h45]
            exact ⟨_, a2, fin s2 M5 g2 D (Fm.trans (x4.fr.trans F5)) (F5.at otk (x4 _ _ htk)) (F5.at ogp (x4 _ _ hgp)) (F5.at op (x4 _ _ hp)) fun h => absurd h ne2⟩
      · rw [if_neg (by omega)]
        exact fin s M3 hgs D Fm htk hgp hp fun _ _ u hu => by
          have := (List.getElem?_eq_some_iff.mp hu).1
          omega
    · rw [if_neg hs0]
      exact fin s M3 hgs D Fm htk hgp hp fun h => absurd (cl_inj (by rw [h, F.cl_e])) hs0
  · obtain ⟨acc, e, k, gg, rfl, D, Fm, htk, hgp, hp, hal, hsl, hLP, he⟩ := h
    refine hN1 _ _ ?_
    simp only [mSeq, mAsg, mOp, mUn, mVar, mC, mCB, mCons, mNil, mTup, mLst_n, mB, mTru, mNot, mAnd, mOr, mAndV, mOrV, mNotV, mIf, mIfS, mRet, mRetN, mDrop, mNext, mBreak, mCont, mBM, mBM0, mCall, mFor, mLc, mYes, iSeq, iRng, iRng2, iRevRng, gNameM, gSubM, mAug, mIsi, mSl, mPart, mNoPart, mRaise, getS_0, getS_s, isB_bl, truP_t, truP_b, sIx_t, sIx_o, sIx_r, sIx_s, sAdd_ii, sAdd_ss, sAdd_tt, sAdd_rr, sIAdd_ii, sIAdd_ss, sMul_ii, sMul_si, sI2_ii, sLen_t, sLen_o, sLen_r, sLen_s, sInt_i, sAbs_i, sMin2_i, sMax2_i, sStrI_i, sTupOf_t, sTupOf_r, sLstOf_t, sLstOf_r, sAppend_r, sPop_r, sPopAt_r, sInsert_r, sSet_r, sEq_ii, sEq_ss, sNe_ii, sNe_ss, sIn_ss, sIn_st, sIn_sr, sIs_n, sIsNot_n, isNonP_n, isNonP_t, isNonP_s, isNonP_i, isNonP_r, sNeg_i, sJoin_r, sSl_r, mDict0_n, mDict1_n, gTupM_t, gConsM_c, gNilM_n, seqP_t, seqP_o, seqP_r, withL_upd, upd_upd, dec_if, true_and, and_true, List.set_cons_zero, List.set_cons_succ, atI_0, atI_1, atI_2, ixN_30, ixN_31, ixN_32, ixN_s0, Option.some.injEq, exists_eq_left', exists_eq_left, Bool.not_true, Bool.not_false, if_true, if_false, Bool.false_eq_true, reduceCtorEq, List.length_cons, List.length_nil, endsOf, wipeM, List.map_cons, List.map_nil, ite_true, ite_false, eq_self_iff_true, false_and, Nat.reduceAdd, decide_true, decide_false, withL_eq hp]
    refine ⟨rfl, acc, rfl, ?_, ?_⟩
    · show (acc.map (·.length)).sum + acc.length * ("" : Str).length ≤ 16777216
      have e0 : ("" : Str).length = 0 := by rw [len_cl, F.cl_e]; rfl
      rw [sum_cl, e0]; omega
    · refine q _ _ D Fm (by rw [cat_join]; omega) ?_
      rw [cat_join]
      have := hLP [] (by rw [List.drop_length]; exact .nil) (fun _ c s h => nomatch h)
      rwa [List.append_nil] at this
end K02
end PL
end L2
set_option maxRecDepth 100000
set_option maxHeartbeats 2000000
namespace L2
namespace PL
namespace K02
open PySem PySem.Spec PyProof.Rows K01 F
theorem np_tok {f : Nat} {n : Str} (h : NP f n) : NameTok n := by
  obtain ⟨c, r, e, h1, h2⟩ := h.hd
  exact ⟨⟨c, r, e, by simp [low, h1, h2]⟩, h.ch, h.hi⟩
theorem tokF_ok {F : Fo} {ts : List Str} (h : TokF F ts) (ha : F.All NameTok) : ∀ t ∈ ts, TokOk t := by
  induction h with
  | nil => intro t ht; cases ht
  | leaf _ ih =>
    intro t ht
    rcases List.mem_cons.mp ht with rfl | ht
    · exact .inr (.inr ha.1)
    · exact ih ha.2.2 t ht
  | op _ _ i1 i2 =>
    intro t ht
    rcases List.mem_cons.mp ht with rfl | ht
    · exact .inr (.inr ha.1)
    · rcases List.mem_cons.mp ht with rfl | ht
      · exact .inl rfl
      · rcases List.mem_append.mp ht with ht | ht
        · exact i1 ha.2.1 t ht
        · rcases List.mem_cons.mp ht with rfl | ht
          · exact .inr (.inl rfl)
          · exact i2 ha.2.2 t ht
theorem txt_laid : ∀ {F : Fo}, F.All NameTok → ∃ ts, TokF F ts ∧ ∀ (tr : List Str) (cs : List Nat), Laid tr cs → (∀ c s, cs = c :: s → wch c = false) → Laid (ts ++ tr) (F.txt ++ cs)
  | .nil, _ => ⟨[], .nil, fun tr cs h _ => h⟩
  | .cons n b r, ⟨hn, hb, hr⟩ => by
    obtain ⟨tb, b1, b2⟩ := txt_laid hb
    obtain ⟨tr, r1, r2⟩ := txt_laid hr
    have rest : ∀ (t2 : List Str) (cs : List Nat), Laid t2 cs → (∀ c s, cs = c :: s → wch c = false) → Laid (tr ++ t2) ((if r.isNil then [] else 32 :: r.txt) ++ cs) ∧ ∀ c s, (if r.isNil then [] else 32 :: r.txt) ++ cs = c :: s → wch c = false := by
      intro t2 cs h hs
      cases r with
      | nil =>
        have e : tr = [] := by cases r1; rfl
        subst e
        exact ⟨h, hs⟩
      | cons m c2 s2 =>
        refine ⟨.gap 32 (.inl rfl) (r2 t2 cs h hs), fun c s e => ?_⟩
        have e : 32 :: _ = c :: s := e
        injection e with e _
        subst e; rfl
    cases hbn : b.isNil with
    | true =>
      have eb : b = .nil := by cases b with
        | nil => rfl
        | cons => cases hbn
      subst eb
      refine ⟨n :: tr, .leaf r1, fun t2 cs h hs => ?_⟩
      obtain ⟨h1, h2⟩ := rest t2 cs h hs
      have e : (Fo.cons n .nil r).txt ++ cs = cl n ++ ((if r.isNil then [] else 32 :: r.txt) ++ cs) := by simp [Fo.txt, isNil_nil]
      rw [e]
      exact .name n hn h1 h2
    | false =>
      refine ⟨n :: lp :: (tb ++ rp :: tr), .op b1 r1, fun t2 cs h hs => ?_⟩
      obtain ⟨h1, h2⟩ := rest t2 cs h hs
      have e : (Fo.cons n b r).txt ++ cs = cl n ++ (40 :: (b.txt ++ (41 :: ((if r.isNil then [] else 32 :: r.txt) ++ cs)))) := by simp [Fo.txt, hbn]
      have e2 : (n :: lp :: (tb ++ rp :: tr)) ++ t2 = n :: lp :: (tb ++ (rp :: (tr ++ t2))) := by simp
      rw [e, e2]
      refine .name n hn (.par 40 (.inl rfl) (b2 _ _ (.par 41 (.inr rfl) h1) fun c s e => ?_)) fun c s e => ?_
      · injection e with e _; subst e; rfl
      · injection e with e _; subst e; rfl
structure GI (F : Fo) (z : Str) : Prop where
  len : (cl z).length ≤ 1000000
  ex : ∃ ts, Laid ts (cl z) ∧ TokF F ts
structure FG (F : Fo) : Prop where
  cnt : F.cnt ≤ 2000
  dep : F.dep ≤ 60
  nms : F.All NameTok
theorem FG.nm {F : Fo} (h : FG F) : F.All NmOk := h.nms.imp fun n h => h.2.2
theorem gi_txt {F : Fo} (h : FG F) : GI F (mk F.txt) := by
  obtain ⟨ts, h1, h2⟩ := txt_laid h.nms
  have := txt_len h.nm
  have c := h.cnt
  refine ⟨by rw [cl_mk]; omega, ts, ?_, h1⟩
  have := h2 [] [] .nil (fun c s e => nomatch e)
  rw [List.append_nil, List.append_nil] at this
  rw [cl_mk]; exact this
theorem cl_g1 : cl ("\n " : Str) = [10, 32] := by decide +kernel
theorem cl_g2 : cl (" \n\n" : Str) = [32, 10, 10] := by decide +kernel
theorem gi_txt2 {F : Fo} (h : FG F) : GI F (("\n " : Str) ++ mk F.txt ++ (" \n\n" : Str)) := by
  obtain ⟨ts, h1, h2⟩ := txt_laid h.nms
  have := txt_len h.nm
  have c := h.cnt
  have e : cl (("\n " : Str) ++ mk F.txt ++ (" \n\n" : Str)) = [10, 32] ++ (F.txt ++ [32, 10, 10]) := by rw [cl_app, cl_app, cl_g1, cl_g2, cl_mk, List.append_assoc]
  refine ⟨by rw [e]; simp; omega, ts, ?_, h1⟩
  rw [e]
  have h3 := h2 [] ([32, 10, 10] ++ []) (laid_gap .nil (by simp)) (fun c s e => by injection e with e _; subst e; rfl)
  rw [List.append_nil, List.append_nil] at h3
  exact laid_gap h3 (by simp)
theorem plain_str {d : Nat} {s : Str} : plain (d + 1) (.str s) := trivial
def sp_law : MSp := fun xs M Q E => ∃ cs : List Int, xs = [.rol (pis cs)] ∧ cs.length ≤ 63 ∧ ∀ M', Q (.bl true) M'
/-- law: slots 0 script, 1 state, 2 names, 3 form, 4 forest, 5 text, 6 tokens_v, 7 texts, 8 row, 9 told, 10 empty -/
def N_law : List Str := ["script", "state", "names", "form", "forest", "text", "tokens_v", "texts", "row", "told", "empty"]
def m_law : MS :=
    (mSeq (mAsg (mCall sp__law_state (mCons (mVar 0) mNil)) (gNameM 1))
    (mSeq (mAsg (mCall sp__law_names (mCons (mVar 1) mNil)) (gNameM 2))
    (mSeq (mAsg (mCall sp__law_draw (mCons (mVar 1) (mCons (mC (.int 8)) mNil))) (gNameM 3))
    (mSeq (mAsg (mCall sp__law_forest (mCons (mVar 1) (mCons (mCall sp__law_draw (mCons (mVar 1) (mCons (mC (.int 31)) mNil))) (mCons (mVar 2) mNil)))) (gNameM 4))
    (mSeq (mIfS (mB (mOp sEq (mVar 3) (mC (.int 0)))) (mAsg (mCall sp__law_great (mCons (mVar 1) (mCons (mVar 2) (mCons (mC (.int 2000)) (mCons (mOp sAdd (mC (.int 1)) (mCall sp__law_draw (mCons (mVar 1) (mCons (mC (.int 60)) mNil)))) mNil))))) (gNameM 4)) mNext)
    (mSeq (mIfS (mB (mOp sEq (mVar 3) (mC (.int 1)))) (mAsg (mCall sp__law_great (mCons (mVar 1) (mCons (mVar 2) (mCons (mOp sAdd (mC (.int 60)) (mCall sp__law_draw (mCons (mVar 1) (mCons (mC (.int 60)) mNil)))) (mCons (mC (.int 60)) mNil))))) (gNameM 4)) mNext)
    (mSeq (mAsg (mCall sp__law_text (mCons (mVar 4) mNil)) (gNameM 5))
    (mSeq (mIfS (mOr (mNot (mTru (mCall sp__law_same (mCons (mCall sp_write_forest (mCons (mVar 4) mNil)) (mCons (mVar 5) mNil))))) (mNot (mTru (mCall sp__law_same (mCons (mCallK sp_write_forest [0] 1 (mCons (mVar 4) mNil)) (mCons (mVar 5) mNil)))))) (mRet (mC (.bl false))) mNext)
    (mSeq (mAsg (mCall sp__law_tokens (mCons (mVar 4) (mCons (mVar 1) mNil))) (gNameM 6))
    (mSeq (mAsg (mLst (mCons (mVar 5) (mCons (mCall sp__law_laid (mCons (mVar 1) (mCons (mVar 6) (mCons (mLst (mCons (mC (.str "")) mNil)) mNil)))) (mCons (mCall sp__law_laid (mCons (mVar 1) (mCons (mVar 6) (mCons (mLst (mCons (mC (.str "\n")) mNil)) mNil)))) mNil)))) (gNameM 7))
    (mSeq (mAsg (mOp sAdd (mVar 7) (mLst (mCons (mCall sp__law_laid (mCons (mVar 1) (mCons (mVar 6) (mCons (mLst (mCons (mC (.str "")) (mCons (mC (.str " ")) (mCons (mC (.str "\n")) (mCons (mC (.str "  ")) (mCons (mC (.str "\n\n ")) mNil)))))) mNil)))) (mCons (mOp sAdd (mOp sAdd (mC (.str "\n ")) (mVar 5)) (mC (.str " \n\n"))) mNil)))) (gNameM 7))
    (mSeq (mFor (iSeq (mVar 7)) (gNameM 8)
    (mSeq (mAsg (mCall sp_read_forest (mCons (mVar 8) mNil)) (gNameM 9))
    (mIfS (mOr (mNot (mTru (mCall sp__law_same (mCons (mVar 9) (mCons (mVar 4) mNil))))) (mNot (mTru (mCall sp__law_same (mCons (mCall sp_write_forest (mCons (mVar 9) mNil)) (mCons (mVar 5) mNil)))))) (mRet (mC (.bl false))) mNext)))
    (mSeq (mAsg (mOp sIx (mLst (mCons (mC (.str "")) (mCons (mC (.str " ")) (mCons (mC (.str "\n")) (mCons (mC (.str "\n  \n")) mNil))))) (mCall sp__law_draw (mCons (mVar 1) (mCons (mC (.int 4)) mNil)))) (gNameM 10))
    (mRet (mAndV (mCall sp__law_same (mCons (mCall sp_read_forest (mCons (mVar 10) mNil)) (mCons (mTup mNil) mNil))) (mAndV (mCall sp__law_same (mCons (mCall sp_write_forest (mCons (mTup mNil) mNil)) (mCons (mC (.str "")) mNil))) (mCall sp__law_same (mCons (mCallK sp_read_forest [0] 1 (mCons (mVar 5) mNil)) (mCons (mVar 4) mNil)))))))))))))))))))

theorem g_e : Gap ("" : Str) := ⟨by rw [F.cl_e]; simp, by rw [F.cl_e]; decide⟩
theorem g_sp : Gap (" " : Str) := ⟨by rw [F.cl_sp]; simp, by rw [F.cl_sp]; decide⟩
theorem g_nl : Gap ("\n" : Str) := ⟨by rw [cl_nl]; simp, by rw [cl_nl]; decide⟩
theorem g_2 : Gap ("  " : Str) := by
  have e : cl ("  " : Str) = [32, 32] := by decide +kernel
  exact ⟨by rw [e]; simp, by rw [e]; decide⟩
theorem g_3 : Gap ("\n\n " : Str) := by
  have e : cl ("\n\n " : Str) = [10, 10, 32] := by decide +kernel
  exact ⟨by rw [e]; simp, by rw [e]; decide⟩
theorem emp_ok : ∀ d : Nat, d < 4 → ∃ s, atI [PV.str ("" : Str), PV.str (" " : Str), PV.str ("\n" : Str), PV.str ("\n  \n" : Str)] d = some (.str s) ∧ GI .nil s
  | 0, _ => ⟨_, rfl, by rw [F.cl_e]; decide, [], by rw [F.cl_e]; exact .nil, .nil⟩
  | 1, _ => ⟨_, rfl, by rw [F.cl_sp]; decide, [], by rw [F.cl_sp]; exact .gap 32 (.inl rfl) .nil, .nil⟩
  | 2, _ => ⟨_, rfl, by rw [cl_nl]; decide, [], by rw [cl_nl]; exact .gap 10 (.inr rfl) .nil, .nil⟩
  | 3, _ => by
    have e : cl ("\n  \n" : Str) = [10, 32, 32, 10] := by decide +kernel
    exact ⟨_, rfl, by rw [e]; decide, [], by rw [e]; exact .gap 10 (.inr rfl) (.gap 32 (.inl rfl) (.gap 32 (.inl rfl) (.gap 10 (.inr rfl) .nil))), .nil⟩
end K02
end PL
end L2
set_option maxRecDepth 100000
set_option maxHeartbeats 2000000
namespace L2
namespace PL
namespace K02
open PySem PySem.Spec PyProof.Rows K01 F
theorem d_law : ∀ xs M Q E, sp_law xs M Q E → m_law (endsOf Q E) (startM N_law xs) M := by
  rintro _ M Q E ⟨cs, rfl, hcs, q⟩
  show m_law (endsOf Q E) [some (.rol (pis cs)), none, none, none, none, none, none, none, none, none, none] M
  unfold m_law
  refine seq_i fun N1 hN1 => ?_
  simp only [mSeq, mAsg, mOp, mUn, mVar, mC, mCB, mCons, mNil, mTup, mLst_n, mB, mTru, mNot, mAnd, mOr, mAndV, mOrV, mNotV, mIf, mIfS, mRet, mRetN, mDrop, mNext, mBreak, mCont, mBM, mBM0, mCall, mFor, mLc, mYes, iSeq, iRng, iRng2, iRevRng, gNameM, gSubM, mAug, mIsi, mSl, mPart, mNoPart, mRaise, getS_0, getS_s, isB_bl, truP_t, truP_b, sIx_t, sIx_o, sIx_r, sIx_s, sAdd_ii, sAdd_ss, sAdd_tt, sAdd_rr, sIAdd_ii, sIAdd_ss, sMul_ii, sMul_si, sI2_ii, sLen_t, sLen_o, sLen_r, sLen_s, sInt_i, sAbs_i, sMin2_i, sMax2_i, sStrI_i, sTupOf_t, sTupOf_r, sLstOf_t, sLstOf_r, sAppend_r, sPop_r, sPopAt_r, sInsert_r, sSet_r, sEq_ii, sEq_ss, sNe_ii, sNe_ss, sIn_ss, sIn_st, sIn_sr, sIs_n, sIsNot_n, isNonP_n, isNonP_t, isNonP_s, isNonP_i, isNonP_r, sNeg_i, sJoin_r, sSl_r, mDict0_n, mDict1_n, gTupM_t, gConsM_c, gNilM_n, seqP_t, seqP_o, seqP_r, withL_upd, upd_upd, dec_if, true_and, and_true, List.set_cons_zero, List.set_cons_succ, atI_0, atI_1, atI_2, ixN_30, ixN_31, ixN_32, ixN_s0, Option.some.injEq, exists_eq_left', exists_eq_left, Bool.not_true, Bool.not_false, if_true, if_false, Bool.false_eq_true, reduceCtorEq, List.length_cons, List.length_nil, endsOf, wipeM, List.map_cons, List.map_nil, ite_true, ite_false, eq_self_iff_true, false_and, Nat.reduceAdd, decide_true, decide_false]
  refine ⟨cs, rfl, hcs, fun st g c M1 D => hN1 _ _ ?_⟩
  clear hN1 N1
  refine seq_i fun N1 hN1 => ?_
  simp only [mSeq, mAsg, mOp, mUn, mVar, mC, mCB, mCons, mNil, mTup, mLst_n, mB, mTru, mNot, mAnd, mOr, mAndV, mOrV, mNotV, mIf, mIfS, mRet, mRetN, mDrop, mNext, mBreak, mCont, mBM, mBM0, mCall, mFor, mLc, mYes, iSeq, iRng, iRng2, iRevRng, gNameM, gSubM, mAug, mIsi, mSl, mPart, mNoPart, mRaise, getS_0, getS_s, isB_bl, truP_t, truP_b, sIx_t, sIx_o, sIx_r, sIx_s, sAdd_ii, sAdd_ss, sAdd_tt, sAdd_rr, sIAdd_ii, sIAdd_ss, sMul_ii, sMul_si, sI2_ii, sLen_t, sLen_o, sLen_r, sLen_s, sInt_i, sAbs_i, sMin2_i, sMax2_i, sStrI_i, sTupOf_t, sTupOf_r, sLstOf_t, sLstOf_r, sAppend_r, sPop_r, sPopAt_r, sInsert_r, sSet_r, sEq_ii, sEq_ss, sNe_ii, sNe_ss, sIn_ss, sIn_st, sIn_sr, sIs_n, sIsNot_n, isNonP_n, isNonP_t, isNonP_s, isNonP_i, isNonP_r, sNeg_i, sJoin_r, sSl_r, mDict0_n, mDict1_n, gTupM_t, gConsM_c, gNilM_n, seqP_t, seqP_o, seqP_r, withL_upd, upd_upd, dec_if, true_and, and_true, List.set_cons_zero, List.set_cons_succ, atI_0, atI_1, atI_2, ixN_30, ixN_31, ixN_32, ixN_s0, Option.some.injEq, exists_eq_left', exists_eq_left, Bool.not_true, Bool.not_false, if_true, if_false, Bool.false_eq_true, reduceCtorEq, List.length_cons, List.length_nil, endsOf, wipeM, List.map_cons, List.map_nil, ite_true, ite_false, eq_self_iff_true, false_and, Nat.reduceAdd, decide_true, decide_false]
  refine ⟨st, g, c, rfl, D, fun nm ns f M2 D F2 on _ hnm hne hn3 hnp => hN1 _ _ ?_⟩
  clear hN1 N1
  refine seq_i fun N1 hN1 => ?_
  simp only [mSeq, mAsg, mOp, mUn, mVar, mC, mCB, mCons, mNil, mTup, mLst_n, mB, mTru, mNot, mAnd, mOr, mAndV, mOrV, mNotV, mIf, mIfS, mRet, mRetN, mDrop, mNext, mBreak, mCont, mBM, mBM0, mCall, mFor, mLc, mYes, iSeq, iRng, iRng2, iRevRng, gNameM, gSubM, mAug, mIsi, mSl, mPart, mNoPart, mRaise, getS_0, getS_s, isB_bl, truP_t, truP_b, sIx_t, sIx_o, sIx_r, sIx_s, sAdd_ii, sAdd_ss, sAdd_tt, sAdd_rr, sIAdd_ii, sIAdd_ss, sMul_ii, sMul_si, sI2_ii, sLen_t, sLen_o, sLen_r, sLen_s, sInt_i, sAbs_i, sMin2_i, sMax2_i, sStrI_i, sTupOf_t, sTupOf_r, sLstOf_t, sLstOf_r, sAppend_r, sPop_r, sPopAt_r, sInsert_r, sSet_r, sEq_ii, sEq_ss, sNe_ii, sNe_ss, sIn_ss, sIn_st, sIn_sr, sIs_n, sIsNot_n, isNonP_n, isNonP_t, isNonP_s, isNonP_i, isNonP_r, sNeg_i, sJoin_r, sSl_r, mDict0_n, mDict1_n, gTupM_t, gConsM_c, gNilM_n, seqP_t, seqP_o, seqP_r, withL_upd, upd_upd, dec_if, true_and, and_true, List.set_cons_zero, List.set_cons_succ, atI_0, atI_1, atI_2, ixN_30, ixN_31, ixN_32, ixN_s0, Option.some.injEq, exists_eq_left', exists_eq_left, Bool.not_true, Bool.not_false, if_true, if_false, Bool.false_eq_true, reduceCtorEq, List.length_cons, List.length_nil, endsOf, wipeM, List.map_cons, List.map_nil, ite_true, ite_false, eq_self_iff_true, false_and, Nat.reduceAdd, decide_true, decide_false]
  refine draw_i D (by decide) (by decide) fun d3 M3 hd3 D F3 => hN1 _ _ ?_
  clear hN1 N1
  have hnm := F3.at on hnm
  refine seq_i fun N1 hN1 => ?_
  simp only [mSeq, mAsg, mOp, mUn, mVar, mC, mCB, mCons, mNil, mTup, mLst_n, mB, mTru, mNot, mAnd, mOr, mAndV, mOrV, mNotV, mIf, mIfS, mRet, mRetN, mDrop, mNext, mBreak, mCont, mBM, mBM0, mCall, mFor, mLc, mYes, iSeq, iRng, iRng2, iRevRng, gNameM, gSubM, mAug, mIsi, mSl, mPart, mNoPart, mRaise, getS_0, getS_s, isB_bl, truP_t, truP_b, sIx_t, sIx_o, sIx_r, sIx_s, sAdd_ii, sAdd_ss, sAdd_tt, sAdd_rr, sIAdd_ii, sIAdd_ss, sMul_ii, sMul_si, sI2_ii, sLen_t, sLen_o, sLen_r, sLen_s, sInt_i, sAbs_i, sMin2_i, sMax2_i, sStrI_i, sTupOf_t, sTupOf_r, sLstOf_t, sLstOf_r, sAppend_r, sPop_r, sPopAt_r, sInsert_r, sSet_r, sEq_ii, sEq_ss, sNe_ii, sNe_ss, sIn_ss, sIn_st, sIn_sr, sIs_n, sIsNot_n, isNonP_n, isNonP_t, isNonP_s, isNonP_i, isNonP_r, sNeg_i, sJoin_r, sSl_r, mDict0_n, mDict1_n, gTupM_t, gConsM_c, gNilM_n, seqP_t, seqP_o, seqP_r, withL_upd, upd_upd, dec_if, true_and, and_true, List.set_cons_zero, List.set_cons_succ, atI_0, atI_1, atI_2, ixN_30, ixN_31, ixN_32, ixN_s0, Option.some.injEq, exists_eq_left', exists_eq_left, Bool.not_true, Bool.not_false, if_true, if_false, Bool.false_eq_true, reduceCtorEq, List.length_cons, List.length_nil, endsOf, wipeM, List.map_cons, List.map_nil, ite_true, ite_false, eq_self_iff_true, false_and, Nat.reduceAdd, decide_true, decide_false]
  refine draw_i D (by decide) (by decide) fun d4 M4 hd4 D F4 => ?_
  have hnm := F4.at on hnm
  refine ⟨st, g, c, nm, d4, ns, rfl, D, on, hnm, hne, hn3, by omega, fun l M5 D F5 hg hc => hN1 _ _ ?_⟩
  clear hN1 N1
  have hnm := F5.at on hnm
  have conv : ∀ l, goodR ns l = true → cntR l ≤ 2000 → depR l ≤ 60 → ∃ F : Fo, l = F.pv ∧ FG F := fun l h1 h2 h3 => by
    obtain ⟨F, rfl, a1, a2, a3⟩ := of_good _ l (Nat.le_refl _) h1
    exact ⟨F, rfl, by rw [a2]; exact h2, by rw [a3]; exact h3, a1.imp fun n h => np_tok (hnp n h)⟩
  obtain ⟨F0, rfl, fg0⟩ := conv l hg (by omega) (by have := dep_le_cnt _ l (Nat.le_refl _); omega)
  refine seq_i fun N1 hN1 => ?_
  have r1 : ∀ (F : Fo) M', FG F → DrawSt M' st g c → M' nm = some (.lst (pss ns)) → N1 [some (.rol (pis cs)), some (.ref st), some (.ref nm), some (.int d3), some (.tup F.pv), none, none, none, none, none, none] M' := by
    intro F M' fg D hnm
    refine hN1 _ _ ?_
    clear hN1 N1
    refine seq_i fun N1 hN1 => ?_
    have r2 : ∀ (F : Fo) M', FG F → DrawSt M' st g c → M' nm = some (.lst (pss ns)) → N1 [some (.rol (pis cs)), some (.ref st), some (.ref nm), some (.int d3), some (.tup F.pv), none, none, none, none, none, none] M' := by
      intro F M' fg D hnm
      refine hN1 _ _ ?_
      clear hN1 N1
      refine seq_i fun N1 hN1 => ?_
      simp only [mSeq, mAsg, mOp, mUn, mVar, mC, mCB, mCons, mNil, mTup, mLst_n, mB, mTru, mNot, mAnd, mOr, mAndV, mOrV, mNotV, mIf, mIfS, mRet, mRetN, mDrop, mNext, mBreak, mCont, mBM, mBM0, mCall, mFor, mLc, mYes, iSeq, iRng, iRng2, iRevRng, gNameM, gSubM, mAug, mIsi, mSl, mPart, mNoPart, mRaise, getS_0, getS_s, isB_bl, truP_t, truP_b, sIx_t, sIx_o, sIx_r, sIx_s, sAdd_ii, sAdd_ss, sAdd_tt, sAdd_rr, sIAdd_ii, sIAdd_ss, sMul_ii, sMul_si, sI2_ii, sLen_t, sLen_o, sLen_r, sLen_s, sInt_i, sAbs_i, sMin2_i, sMax2_i, sStrI_i, sTupOf_t, sTupOf_r, sLstOf_t, sLstOf_r, sAppend_r, sPop_r, sPopAt_r, sInsert_r, sSet_r, sEq_ii, sEq_ss, sNe_ii, sNe_ss, sIn_ss, sIn_st, sIn_sr, sIs_n, sIsNot_n, isNonP_n, isNonP_t, isNonP_s, isNonP_i, isNonP_r, sNeg_i, sJoin_r, sSl_r, mDict0_n, mDict1_n, gTupM_t, gConsM_c, gNilM_n, seqP_t, seqP_o, seqP_r, withL_upd, upd_upd, dec_if, true_and, and_true, List.set_cons_zero, List.set_cons_succ, atI_0, atI_1, atI_2, ixN_30, ixN_31, ixN_32, ixN_s0, Option.some.injEq, exists_eq_left', exists_eq_left, Bool.not_true, Bool.not_false, if_true, if_false, Bool.false_eq_true, reduceCtorEq, List.length_cons, List.length_nil, endsOf, wipeM, List.map_cons, List.map_nil, ite_true, ite_false, eq_self_iff_true, false_and, Nat.reduceAdd, decide_true, decide_false]
      refine ⟨F, rfl, by have := fg.dep; omega, fg.cnt, fg.nm, fun M1 x1 => hN1 _ _ ?_⟩
      clear hN1 N1
      have D := D.ext x1
      refine seq_i fun N1 hN1 => ?_
      simp only [mSeq, mAsg, mOp, mUn, mVar, mC, mCB, mCons, mNil, mTup, mLst_n, mB, mTru, mNot, mAnd, mOr, mAndV, mOrV, mNotV, mIf, mIfS, mRet, mRetN, mDrop, mNext, mBreak, mCont, mBM, mBM0, mCall, mFor, mLc, mYes, iSeq, iRng, iRng2, iRevRng, gNameM, gSubM, mAug, mIsi, mSl, mPart, mNoPart, mRaise, getS_0, getS_s, isB_bl, truP_t, truP_b, sIx_t, sIx_o, sIx_r, sIx_s, sAdd_ii, sAdd_ss, sAdd_tt, sAdd_rr, sIAdd_ii, sIAdd_ss, sMul_ii, sMul_si, sI2_ii, sLen_t, sLen_o, sLen_r, sLen_s, sInt_i, sAbs_i, sMin2_i, sMax2_i, sStrI_i, sTupOf_t, sTupOf_r, sLstOf_t, sLstOf_r, sAppend_r, sPop_r, sPopAt_r, sInsert_r, sSet_r, sEq_ii, sEq_ss, sNe_ii, sNe_ss, sIn_ss, sIn_st, sIn_sr, sIs_n, sIsNot_n, isNonP_n, isNonP_t, isNonP_s, isNonP_i, isNonP_r, sNeg_i, sJoin_r, sSl_r, mDict0_n, mDict1_n, gTupM_t, gConsM_c, gNilM_n, seqP_t, seqP_o, seqP_r, withL_upd, upd_upd, dec_if, true_and, and_true, List.set_cons_zero, List.set_cons_succ, atI_0, atI_1, atI_2, ixN_30, ixN_31, ixN_32, ixN_s0, Option.some.injEq, exists_eq_left', exists_eq_left, Bool.not_true, Bool.not_false, if_true, if_false, Bool.false_eq_true, reduceCtorEq, List.length_cons, List.length_nil, endsOf, wipeM, List.map_cons, List.map_nil, ite_true, ite_false, eq_self_iff_true, false_and, Nat.reduceAdd, decide_true, decide_false, mCallK]
      refine ⟨F, rfl, fg.cnt, fg.nm, fun M2 x2 => ?_⟩
      refine ⟨_, rfl, plain_str (d := 121), ?_⟩
      simp only [mSeq, mAsg, mOp, mUn, mVar, mC, mCB, mCons, mNil, mTup, mLst_n, mB, mTru, mNot, mAnd, mOr, mAndV, mOrV, mNotV, mIf, mIfS, mRet, mRetN, mDrop, mNext, mBreak, mCont, mBM, mBM0, mCall, mFor, mLc, mYes, iSeq, iRng, iRng2, iRevRng, gNameM, gSubM, mAug, mIsi, mSl, mPart, mNoPart, mRaise, getS_0, getS_s, isB_bl, truP_t, truP_b, sIx_t, sIx_o, sIx_r, sIx_s, sAdd_ii, sAdd_ss, sAdd_tt, sAdd_rr, sIAdd_ii, sIAdd_ss, sMul_ii, sMul_si, sI2_ii, sLen_t, sLen_o, sLen_r, sLen_s, sInt_i, sAbs_i, sMin2_i, sMax2_i, sStrI_i, sTupOf_t, sTupOf_r, sLstOf_t, sLstOf_r, sAppend_r, sPop_r, sPopAt_r, sInsert_r, sSet_r, sEq_ii, sEq_ss, sNe_ii, sNe_ss, sIn_ss, sIn_st, sIn_sr, sIs_n, sIsNot_n, isNonP_n, isNonP_t, isNonP_s, isNonP_i, isNonP_r, sNeg_i, sJoin_r, sSl_r, mDict0_n, mDict1_n, gTupM_t, gConsM_c, gNilM_n, seqP_t, seqP_o, seqP_r, withL_upd, upd_upd, dec_if, true_and, and_true, List.set_cons_zero, List.set_cons_succ, atI_0, atI_1, atI_2, ixN_30, ixN_31, ixN_32, ixN_s0, Option.some.injEq, exists_eq_left', exists_eq_left, Bool.not_true, Bool.not_false, if_true, if_false, Bool.false_eq_true, reduceCtorEq, List.length_cons, List.length_nil, endsOf, wipeM, List.map_cons, List.map_nil, ite_true, ite_false, eq_self_iff_true, false_and, Nat.reduceAdd, decide_true, decide_false]
      refine ⟨F, rfl, fg.cnt, fg.nm, fun M3 x3 => ?_⟩
      refine ⟨_, rfl, plain_str (d := 121), ?_⟩
      simp only [mSeq, mAsg, mOp, mUn, mVar, mC, mCB, mCons, mNil, mTup, mLst_n, mB, mTru, mNot, mAnd, mOr, mAndV, mOrV, mNotV, mIf, mIfS, mRet, mRetN, mDrop, mNext, mBreak, mCont, mBM, mBM0, mCall, mFor, mLc, mYes, iSeq, iRng, iRng2, iRevRng, gNameM, gSubM, mAug, mIsi, mSl, mPart, mNoPart, mRaise, getS_0, getS_s, isB_bl, truP_t, truP_b, sIx_t, sIx_o, sIx_r, sIx_s, sAdd_ii, sAdd_ss, sAdd_tt, sAdd_rr, sIAdd_ii, sIAdd_ss, sMul_ii, sMul_si, sI2_ii, sLen_t, sLen_o, sLen_r, sLen_s, sInt_i, sAbs_i, sMin2_i, sMax2_i, sStrI_i, sTupOf_t, sTupOf_r, sLstOf_t, sLstOf_r, sAppend_r, sPop_r, sPopAt_r, sInsert_r, sSet_r, sEq_ii, sEq_ss, sNe_ii, sNe_ss, sIn_ss, sIn_st, sIn_sr, sIs_n, sIsNot_n, isNonP_n, isNonP_t, isNonP_s, isNonP_i, isNonP_r, sNeg_i, sJoin_r, sSl_r, mDict0_n, mDict1_n, gTupM_t, gConsM_c, gNilM_n, seqP_t, seqP_o, seqP_r, withL_upd, upd_upd, dec_if, true_and, and_true, List.set_cons_zero, List.set_cons_succ, atI_0, atI_1, atI_2, ixN_30, ixN_31, ixN_32, ixN_s0, Option.some.injEq, exists_eq_left', exists_eq_left, Bool.not_true, Bool.not_false, if_true, if_false, Bool.false_eq_true, reduceCtorEq, List.length_cons, List.length_nil, endsOf, wipeM, List.map_cons, List.map_nil, ite_true, ite_false, eq_self_iff_true, false_and, Nat.reduceAdd, decide_true, decide_false]
      refine hN1 _ _ ?_
      clear hN1 N1
      have D := (D.ext x2).ext x3
      refine seq_i fun N1 hN1 => ?_
      simp only [mSeq, mAsg, mOp, mUn, mVar, mC, mCB, mCons, mNil, mTup, mLst_n, mB, mTru, mNot, mAnd, mOr, mAndV, mOrV, mNotV, mIf, mIfS, mRet, mRetN, mDrop, mNext, mBreak, mCont, mBM, mBM0, mCall, mFor, mLc, mYes, iSeq, iRng, iRng2, iRevRng, gNameM, gSubM, mAug, mIsi, mSl, mPart, mNoPart, mRaise, getS_0, getS_s, isB_bl, truP_t, truP_b, sIx_t, sIx_o, sIx_r, sIx_s, sAdd_ii, sAdd_ss, sAdd_tt, sAdd_rr, sIAdd_ii, sIAdd_ss, sMul_ii, sMul_si, sI2_ii, sLen_t, sLen_o, sLen_r, sLen_s, sInt_i, sAbs_i, sMin2_i, sMax2_i, sStrI_i, sTupOf_t, sTupOf_r, sLstOf_t, sLstOf_r, sAppend_r, sPop_r, sPopAt_r, sInsert_r, sSet_r, sEq_ii, sEq_ss, sNe_ii, sNe_ss, sIn_ss, sIn_st, sIn_sr, sIs_n, sIsNot_n, isNonP_n, isNonP_t, isNonP_s, isNonP_i, isNonP_r, sNeg_i, sJoin_r, sSl_r, mDict0_n, mDict1_n, gTupM_t, gConsM_c, gNilM_n, seqP_t, seqP_o, seqP_r, withL_upd, upd_upd, dec_if, true_and, and_true, List.set_cons_zero, List.set_cons_succ, atI_0, atI_1, atI_2, ixN_30, ixN_31, ixN_32, ixN_s0, Option.some.injEq, exists_eq_left', exists_eq_left, Bool.not_true, Bool.not_false, if_true, if_false, Bool.false_eq_true, reduceCtorEq, List.length_cons, List.length_nil, endsOf, wipeM, List.map_cons, List.map_nil, ite_true, ite_false, eq_self_iff_true, false_and, Nat.reduceAdd, decide_true, decide_false]
      refine ⟨st, g, c, F, rfl, D, by have := fg.dep; omega, fg.cnt, fun pt M4 ts D F4 _ ot hpt hTF htl => hN1 _ _ ?_⟩
      clear hN1 N1
      have htl : ts.length ≤ 6000 := by have := fg.cnt; omega
      have hto := tokF_ok hTF fg.nms
      refine seq_i fun N1 hN1 => ?_
      simp only [mSeq, mAsg, mOp, mUn, mVar, mC, mCB, mCons, mNil, mTup, mLst_n, mB, mTru, mNot, mAnd, mOr, mAndV, mOrV, mNotV, mIf, mIfS, mRet, mRetN, mDrop, mNext, mBreak, mCont, mBM, mBM0, mCall, mFor, mLc, mYes, iSeq, iRng, iRng2, iRevRng, gNameM, gSubM, mAug, mIsi, mSl, mPart, mNoPart, mRaise, getS_0, getS_s, isB_bl, truP_t, truP_b, sIx_t, sIx_o, sIx_r, sIx_s, sAdd_ii, sAdd_ss, sAdd_tt, sAdd_rr, sIAdd_ii, sIAdd_ss, sMul_ii, sMul_si, sI2_ii, sLen_t, sLen_o, sLen_r, sLen_s, sInt_i, sAbs_i, sMin2_i, sMax2_i, sStrI_i, sTupOf_t, sTupOf_r, sLstOf_t, sLstOf_r, sAppend_r, sPop_r, sPopAt_r, sInsert_r, sSet_r, sEq_ii, sEq_ss, sNe_ii, sNe_ss, sIn_ss, sIn_st, sIn_sr, sIs_n, sIsNot_n, isNonP_n, isNonP_t, isNonP_s, isNonP_i, isNonP_r, sNeg_i, sJoin_r, sSl_r, mDict0_n, mDict1_n, gTupM_t, gConsM_c, gNilM_n, seqP_t, seqP_o, seqP_r, withL_upd, upd_upd, dec_if, true_and, and_true, List.set_cons_zero, List.set_cons_succ, atI_0, atI_1, atI_2, ixN_30, ixN_31, ixN_32, ixN_s0, Option.some.injEq, exists_eq_left', exists_eq_left, Bool.not_true, Bool.not_false, if_true, if_false, Bool.false_eq_true, reduceCtorEq, List.length_cons, List.length_nil, endsOf, wipeM, List.map_cons, List.map_nil, ite_true, ite_false, eq_self_iff_true, false_and, Nat.reduceAdd, decide_true, decide_false]
      refine ⟨by decide, newL_i fun g1 M5 n5 h5 x5 => ?_⟩
      have o5 := D.oth n5
      have D := D.ext x5
      have hpt := x5 _ _ hpt
      refine ⟨st, g, c, pt, g1, ts, [""], rfl, D, ot, o5, hpt, h5, by simp, by simp, htl, fun s hs => by cases List.mem_singleton.mp hs; exact g_e, hto, fun z1 M6 D F6 hz1 hL1 => ⟨by decide, newL_i fun g2 M7 n7 h7 x7 => ?_⟩⟩
      have o7 := D.oth n7
      have D := D.ext x7
      have hpt := x7 _ _ (F6.at ot hpt)
      refine ⟨st, g, c, pt, g2, ts, ["\n"], rfl, D, ot, o7, hpt, h7, by simp, by simp, htl, fun s hs => by cases List.mem_singleton.mp hs; exact g_nl, hto, fun z2 M8 D F8 hz2 hL2 => ?_⟩
      have hpt := F8.at ot hpt
      refine ⟨by decide, newL_i fun t1 M9 n9 h9 x9 => hN1 _ _ ?_⟩
      clear hN1 N1
      have ot1 := D.oth n9
      have D := D.ext x9
      have hpt := x9 _ _ hpt
      refine seq_i fun N1 hN1 => ?_
      simp only [mSeq, mAsg, mOp, mUn, mVar, mC, mCB, mCons, mNil, mTup, mLst_n, mB, mTru, mNot, mAnd, mOr, mAndV, mOrV, mNotV, mIf, mIfS, mRet, mRetN, mDrop, mNext, mBreak, mCont, mBM, mBM0, mCall, mFor, mLc, mYes, iSeq, iRng, iRng2, iRevRng, gNameM, gSubM, mAug, mIsi, mSl, mPart, mNoPart, mRaise, getS_0, getS_s, isB_bl, truP_t, truP_b, sIx_t, sIx_o, sIx_r, sIx_s, sAdd_ii, sAdd_ss, sAdd_tt, sAdd_rr, sIAdd_ii, sIAdd_ss, sMul_ii, sMul_si, sI2_ii, sLen_t, sLen_o, sLen_r, sLen_s, sInt_i, sAbs_i, sMin2_i, sMax2_i, sStrI_i, sTupOf_t, sTupOf_r, sLstOf_t, sLstOf_r, sAppend_r, sPop_r, sPopAt_r, sInsert_r, sSet_r, sEq_ii, sEq_ss, sNe_ii, sNe_ss, sIn_ss, sIn_st, sIn_sr, sIs_n, sIsNot_n, isNonP_n, isNonP_t, isNonP_s, isNonP_i, isNonP_r, sNeg_i, sJoin_r, sSl_r, mDict0_n, mDict1_n, gTupM_t, gConsM_c, gNilM_n, seqP_t, seqP_o, seqP_r, withL_upd, upd_upd, dec_if, true_and, and_true, List.set_cons_zero, List.set_cons_succ, atI_0, atI_1, atI_2, ixN_30, ixN_31, ixN_32, ixN_s0, Option.some.injEq, exists_eq_left', exists_eq_left, Bool.not_true, Bool.not_false, if_true, if_false, Bool.false_eq_true, reduceCtorEq, List.length_cons, List.length_nil, endsOf, wipeM, List.map_cons, List.map_nil, ite_true, ite_false, eq_self_iff_true, false_and, Nat.reduceAdd, decide_true, decide_false]
      refine ⟨by decide, newL_i fun g3 M10 n10 h10 x10 => ?_⟩
      have o10 := D.oth n10
      have D := D.ext x10
      have hpt := x10 _ _ hpt
      have h9 := x10 _ _ h9
      refine ⟨st, g, c, pt, g3, ts, ["", " ", "\n", "  ", "\n\n "], rfl, D, ot, o10, hpt, h10, by simp, by simp, htl, fun s hs => ?_, hto, fun z3 M11 D F11 hz3 hL3 => ?_⟩
      · simp only [List.mem_cons, List.not_mem_nil, or_false] at hs
        rcases hs with rfl | rfl | rfl | rfl | rfl
        · exact g_e
        · exact g_sp
        · exact g_nl
        · exact g_2
        · exact g_3
      have h9 := F11.at ot1 h9
      have tlen := txt_len fg.nm
      have fcnt := fg.cnt
      refine ⟨by rw [len_cl, len_cl, cl_g1, cl_mk, sz24]; simp only [List.length_cons, List.length_nil]; omega, by rw [len_cl, len_cl, cl_app, cl_g1, cl_g2, cl_mk, sz24]; simp only [List.length_append, List.length_cons, List.length_nil]; omega, by decide, newL_i fun t2 M12 n12 h12 x12 => ?_⟩
      have h9 := x12 _ _ h9
      simp only [mSeq, mAsg, mOp, mUn, mVar, mC, mCB, mCons, mNil, mTup, mLst_n, mB, mTru, mNot, mAnd, mOr, mAndV, mOrV, mNotV, mIf, mIfS, mRet, mRetN, mDrop, mNext, mBreak, mCont, mBM, mBM0, mCall, mFor, mLc, mYes, iSeq, iRng, iRng2, iRevRng, gNameM, gSubM, mAug, mIsi, mSl, mPart, mNoPart, mRaise, getS_0, getS_s, isB_bl, truP_t, truP_b, sIx_t, sIx_o, sIx_r, sIx_s, sAdd_ii, sAdd_ss, sAdd_tt, sAdd_rr, sIAdd_ii, sIAdd_ss, sMul_ii, sMul_si, sI2_ii, sLen_t, sLen_o, sLen_r, sLen_s, sInt_i, sAbs_i, sMin2_i, sMax2_i, sStrI_i, sTupOf_t, sTupOf_r, sLstOf_t, sLstOf_r, sAppend_r, sPop_r, sPopAt_r, sInsert_r, sSet_r, sEq_ii, sEq_ss, sNe_ii, sNe_ss, sIn_ss, sIn_st, sIn_sr, sIs_n, sIsNot_n, isNonP_n, isNonP_t, isNonP_s, isNonP_i, isNonP_r, sNeg_i, sJoin_r, sSl_r, mDict0_n, mDict1_n, gTupM_t, gConsM_c, gNilM_n, seqP_t, seqP_o, seqP_r, withL_upd, upd_upd, dec_if, true_and, and_true, List.set_cons_zero, List.set_cons_succ, atI_0, atI_1, atI_2, ixN_30, ixN_31, ixN_32, ixN_s0, Option.some.injEq, exists_eq_left', exists_eq_left, Bool.not_true, Bool.not_false, if_true, if_false, Bool.false_eq_true, reduceCtorEq, List.length_cons, List.length_nil, endsOf, wipeM, List.map_cons, List.map_nil, ite_true, ite_false, eq_self_iff_true, false_and, Nat.reduceAdd, decide_true, decide_false, withL_eq h9, withL_eq h12]
      refine ⟨by decide, newL_i fun t3 M13 n13 h13 x13 => hN1 _ _ ?_⟩
      clear hN1 N1
      have D := (D.ext x12).ext x13
      have all5 : ∀ x ∈ [PV.str (mk F.txt), PV.str z1, PV.str z2] ++ [PV.str z3, PV.str (("\n " : Str) ++ mk F.txt ++ (" \n\n" : Str))], ∃ z, x = .str z ∧ GI F z := by
        intro x hx
        simp only [List.cons_append, List.nil_append, List.mem_cons, List.not_mem_nil, or_false] at hx
        rcases hx with rfl | rfl | rfl | rfl | rfl
        · exact ⟨_, rfl, gi_txt fg⟩
        · exact ⟨_, rfl, by omega, ts, hL1, hTF⟩
        · exact ⟨_, rfl, by omega, ts, hL2, hTF⟩
        · exact ⟨_, rfl, by omega, ts, hL3, hTF⟩
        · exact ⟨_, rfl, gi_txt2 fg⟩
      generalize [PV.str (mk F.txt), PV.str z1, PV.str z2] ++ [PV.str z3, PV.str (("\n " : Str) ++ mk F.txt ++ (" \n\n" : Str))] = l5 at all5 h13
      refine seq_i fun N1 hN1 => ?_
      simp only [mSeq, mAsg, mOp, mUn, mVar, mC, mCB, mCons, mNil, mTup, mLst_n, mB, mTru, mNot, mAnd, mOr, mAndV, mOrV, mNotV, mIf, mIfS, mRet, mRetN, mDrop, mNext, mBreak, mCont, mBM, mBM0, mCall, mFor, mLc, mYes, iSeq, iRng, iRng2, iRevRng, gNameM, gSubM, mAug, mIsi, mSl, mPart, mNoPart, mRaise, getS_0, getS_s, isB_bl, truP_t, truP_b, sIx_t, sIx_o, sIx_r, sIx_s, sAdd_ii, sAdd_ss, sAdd_tt, sAdd_rr, sIAdd_ii, sIAdd_ss, sMul_ii, sMul_si, sI2_ii, sLen_t, sLen_o, sLen_r, sLen_s, sInt_i, sAbs_i, sMin2_i, sMax2_i, sStrI_i, sTupOf_t, sTupOf_r, sLstOf_t, sLstOf_r, sAppend_r, sPop_r, sPopAt_r, sInsert_r, sSet_r, sEq_ii, sEq_ss, sNe_ii, sNe_ss, sIn_ss, sIn_st, sIn_sr, sIs_n, sIsNot_n, isNonP_n, isNonP_t, isNonP_s, isNonP_i, isNonP_r, sNeg_i, sJoin_r, sSl_r, mDict0_n, mDict1_n, gTupM_t, gConsM_c, gNilM_n, seqP_t, seqP_o, seqP_r, withL_upd, upd_upd, dec_if, true_and, and_true, List.set_cons_zero, List.set_cons_succ, atI_0, atI_1, atI_2, ixN_30, ixN_31, ixN_32, ixN_s0, Option.some.injEq, exists_eq_left', exists_eq_left, Bool.not_true, Bool.not_false, if_true, if_false, Bool.false_eq_true, reduceCtorEq, List.length_cons, List.length_nil, endsOf, wipeM, List.map_cons, List.map_nil, ite_true, ite_false, eq_self_iff_true, false_and, Nat.reduceAdd, decide_true, decide_false, withL_eq h13]
      have pF : plain 122 (.tup F.pv) := plain_F F 122 fg.cnt (by have := fg.dep; omega)
      refine loopG_ind (it := .live t3 l5) (fun i μ M' => ∃ r t, μ = [some (.rol (pis cs)), some (.ref st), some (.ref nm), some (.int d3), some (.tup F.pv), some (.str (mk F.txt)), some (.ref pt), some (.ref t3), r, t, none] ∧ Ext M13 M')
        (fun i x μ M' L ex h hl => ?_) (fun μ M' h => ?_) ⟨none, none, rfl, Ext.refl⟩
      · obtain ⟨r, t, rfl, xM⟩ := h
        obtain ⟨z, rfl, gi⟩ := all5 x (List.mem_iff_getElem?.mpr ⟨i, ex⟩)
        obtain ⟨ts', L1, L2⟩ := gi.ex
        refine ⟨xM _ _ h13, ?_⟩
        simp only [mSeq, mAsg, mOp, mUn, mVar, mC, mCB, mCons, mNil, mTup, mLst_n, mB, mTru, mNot, mAnd, mOr, mAndV, mOrV, mNotV, mIf, mIfS, mRet, mRetN, mDrop, mNext, mBreak, mCont, mBM, mBM0, mCall, mFor, mLc, mYes, iSeq, iRng, iRng2, iRevRng, gNameM, gSubM, mAug, mIsi, mSl, mPart, mNoPart, mRaise, getS_0, getS_s, isB_bl, truP_t, truP_b, sIx_t, sIx_o, sIx_r, sIx_s, sAdd_ii, sAdd_ss, sAdd_tt, sAdd_rr, sIAdd_ii, sIAdd_ss, sMul_ii, sMul_si, sI2_ii, sLen_t, sLen_o, sLen_r, sLen_s, sInt_i, sAbs_i, sMin2_i, sMax2_i, sStrI_i, sTupOf_t, sTupOf_r, sLstOf_t, sLstOf_r, sAppend_r, sPop_r, sPopAt_r, sInsert_r, sSet_r, sEq_ii, sEq_ss, sNe_ii, sNe_ss, sIn_ss, sIn_st, sIn_sr, sIs_n, sIsNot_n, isNonP_n, isNonP_t, isNonP_s, isNonP_i, isNonP_r, sNeg_i, sJoin_r, sSl_r, mDict0_n, mDict1_n, gTupM_t, gConsM_c, gNilM_n, seqP_t, seqP_o, seqP_r, withL_upd, upd_upd, dec_if, true_and, and_true, List.set_cons_zero, List.set_cons_succ, atI_0, atI_1, atI_2, ixN_30, ixN_31, ixN_32, ixN_s0, Option.some.injEq, exists_eq_left', exists_eq_left, Bool.not_true, Bool.not_false, if_true, if_false, Bool.false_eq_true, reduceCtorEq, List.length_cons, List.length_nil, endsOf, wipeM, List.map_cons, List.map_nil, ite_true, ite_false, eq_self_iff_true, false_and, Nat.reduceAdd, decide_true, decide_false]
        refine ⟨z, F, ts', rfl, gi.len, L1, L2, fg.cnt, fg.dep, fg.nms, fun M14 x14 => ?_⟩
        refine ⟨_, rfl, pF, ?_⟩
        simp only [mSeq, mAsg, mOp, mUn, mVar, mC, mCB, mCons, mNil, mTup, mLst_n, mB, mTru, mNot, mAnd, mOr, mAndV, mOrV, mNotV, mIf, mIfS, mRet, mRetN, mDrop, mNext, mBreak, mCont, mBM, mBM0, mCall, mFor, mLc, mYes, iSeq, iRng, iRng2, iRevRng, gNameM, gSubM, mAug, mIsi, mSl, mPart, mNoPart, mRaise, getS_0, getS_s, isB_bl, truP_t, truP_b, sIx_t, sIx_o, sIx_r, sIx_s, sAdd_ii, sAdd_ss, sAdd_tt, sAdd_rr, sIAdd_ii, sIAdd_ss, sMul_ii, sMul_si, sI2_ii, sLen_t, sLen_o, sLen_r, sLen_s, sInt_i, sAbs_i, sMin2_i, sMax2_i, sStrI_i, sTupOf_t, sTupOf_r, sLstOf_t, sLstOf_r, sAppend_r, sPop_r, sPopAt_r, sInsert_r, sSet_r, sEq_ii, sEq_ss, sNe_ii, sNe_ss, sIn_ss, sIn_st, sIn_sr, sIs_n, sIsNot_n, isNonP_n, isNonP_t, isNonP_s, isNonP_i, isNonP_r, sNeg_i, sJoin_r, sSl_r, mDict0_n, mDict1_n, gTupM_t, gConsM_c, gNilM_n, seqP_t, seqP_o, seqP_r, withL_upd, upd_upd, dec_if, true_and, and_true, List.set_cons_zero, List.set_cons_succ, atI_0, atI_1, atI_2, ixN_30, ixN_31, ixN_32, ixN_s0, Option.some.injEq, exists_eq_left', exists_eq_left, Bool.not_true, Bool.not_false, if_true, if_false, Bool.false_eq_true, reduceCtorEq, List.length_cons, List.length_nil, endsOf, wipeM, List.map_cons, List.map_nil, ite_true, ite_false, eq_self_iff_true, false_and, Nat.reduceAdd, decide_true, decide_false]
        refine ⟨F, rfl, fg.cnt, fg.nm, fun M15 x15 => ?_⟩
        refine ⟨_, rfl, plain_str (d := 121), ?_⟩
        simp only [mSeq, mAsg, mOp, mUn, mVar, mC, mCB, mCons, mNil, mTup, mLst_n, mB, mTru, mNot, mAnd, mOr, mAndV, mOrV, mNotV, mIf, mIfS, mRet, mRetN, mDrop, mNext, mBreak, mCont, mBM, mBM0, mCall, mFor, mLc, mYes, iSeq, iRng, iRng2, iRevRng, gNameM, gSubM, mAug, mIsi, mSl, mPart, mNoPart, mRaise, getS_0, getS_s, isB_bl, truP_t, truP_b, sIx_t, sIx_o, sIx_r, sIx_s, sAdd_ii, sAdd_ss, sAdd_tt, sAdd_rr, sIAdd_ii, sIAdd_ss, sMul_ii, sMul_si, sI2_ii, sLen_t, sLen_o, sLen_r, sLen_s, sInt_i, sAbs_i, sMin2_i, sMax2_i, sStrI_i, sTupOf_t, sTupOf_r, sLstOf_t, sLstOf_r, sAppend_r, sPop_r, sPopAt_r, sInsert_r, sSet_r, sEq_ii, sEq_ss, sNe_ii, sNe_ss, sIn_ss, sIn_st, sIn_sr, sIs_n, sIsNot_n, isNonP_n, isNonP_t, isNonP_s, isNonP_i, isNonP_r, sNeg_i, sJoin_r, sSl_r, mDict0_n, mDict1_n, gTupM_t, gConsM_c, gNilM_n, seqP_t, seqP_o, seqP_r, withL_upd, upd_upd, dec_if, true_and, and_true, List.set_cons_zero, List.set_cons_succ, atI_0, atI_1, atI_2, ixN_30, ixN_31, ixN_32, ixN_s0, Option.some.injEq, exists_eq_left', exists_eq_left, Bool.not_true, Bool.not_false, if_true, if_false, Bool.false_eq_true, reduceCtorEq, List.length_cons, List.length_nil, endsOf, wipeM, List.map_cons, List.map_nil, ite_true, ite_false, eq_self_iff_true, false_and, Nat.reduceAdd, decide_true, decide_false]
        exact hl _ _ ⟨_, _, rfl, (xM.trans x14).trans x15⟩
      · obtain ⟨r, t, rfl, xM⟩ := h
        refine ⟨xM _ _ h13, hN1 _ _ ?_⟩
        clear hN1 N1
        have D := D.ext xM
        refine seq_i fun N1 hN1 => ?_
        simp only [mSeq, mAsg, mOp, mUn, mVar, mC, mCB, mCons, mNil, mTup, mLst_n, mB, mTru, mNot, mAnd, mOr, mAndV, mOrV, mNotV, mIf, mIfS, mRet, mRetN, mDrop, mNext, mBreak, mCont, mBM, mBM0, mCall, mFor, mLc, mYes, iSeq, iRng, iRng2, iRevRng, gNameM, gSubM, mAug, mIsi, mSl, mPart, mNoPart, mRaise, getS_0, getS_s, isB_bl, truP_t, truP_b, sIx_t, sIx_o, sIx_r, sIx_s, sAdd_ii, sAdd_ss, sAdd_tt, sAdd_rr, sIAdd_ii, sIAdd_ss, sMul_ii, sMul_si, sI2_ii, sLen_t, sLen_o, sLen_r, sLen_s, sInt_i, sAbs_i, sMin2_i, sMax2_i, sStrI_i, sTupOf_t, sTupOf_r, sLstOf_t, sLstOf_r, sAppend_r, sPop_r, sPopAt_r, sInsert_r, sSet_r, sEq_ii, sEq_ss, sNe_ii, sNe_ss, sIn_ss, sIn_st, sIn_sr, sIs_n, sIsNot_n, isNonP_n, isNonP_t, isNonP_s, isNonP_i, isNonP_r, sNeg_i, sJoin_r, sSl_r, mDict0_n, mDict1_n, gTupM_t, gConsM_c, gNilM_n, seqP_t, seqP_o, seqP_r, withL_upd, upd_upd, dec_if, true_and, and_true, List.set_cons_zero, List.set_cons_succ, atI_0, atI_1, atI_2, ixN_30, ixN_31, ixN_32, ixN_s0, Option.some.injEq, exists_eq_left', exists_eq_left, Bool.not_true, Bool.not_false, if_true, if_false, Bool.false_eq_true, reduceCtorEq, List.length_cons, List.length_nil, endsOf, wipeM, List.map_cons, List.map_nil, ite_true, ite_false, eq_self_iff_true, false_and, Nat.reduceAdd, decide_true, decide_false]
        refine ⟨by decide, newL_i fun e1 M14 n14 h14 x14 => draw_i (D.ext x14) (by decide) (by decide) fun d9 M15 hd9 D15 F15 => ?_⟩
        have h14 := F15.at (D.oth n14) h14
        obtain ⟨es, ea, eg⟩ := emp_ok d9 (by omega)
        simp only [mSeq, mAsg, mOp, mUn, mVar, mC, mCB, mCons, mNil, mTup, mLst_n, mB, mTru, mNot, mAnd, mOr, mAndV, mOrV, mNotV, mIf, mIfS, mRet, mRetN, mDrop, mNext, mBreak, mCont, mBM, mBM0, mCall, mFor, mLc, mYes, iSeq, iRng, iRng2, iRevRng, gNameM, gSubM, mAug, mIsi, mSl, mPart, mNoPart, mRaise, getS_0, getS_s, isB_bl, truP_t, truP_b, sIx_t, sIx_o, sIx_r, sIx_s, sAdd_ii, sAdd_ss, sAdd_tt, sAdd_rr, sIAdd_ii, sIAdd_ss, sMul_ii, sMul_si, sI2_ii, sLen_t, sLen_o, sLen_r, sLen_s, sInt_i, sAbs_i, sMin2_i, sMax2_i, sStrI_i, sTupOf_t, sTupOf_r, sLstOf_t, sLstOf_r, sAppend_r, sPop_r, sPopAt_r, sInsert_r, sSet_r, sEq_ii, sEq_ss, sNe_ii, sNe_ss, sIn_ss, sIn_st, sIn_sr, sIs_n, sIsNot_n, isNonP_n, isNonP_t, isNonP_s, isNonP_i, isNonP_r, sNeg_i, sJoin_r, sSl_r, mDict0_n, mDict1_n, gTupM_t, gConsM_c, gNilM_n, seqP_t, seqP_o, seqP_r, withL_upd, upd_upd, dec_if, true_and, and_true, List.set_cons_zero, List.set_cons_succ, atI_0, atI_1, atI_2, ixN_30, ixN_31, ixN_32, ixN_s0, Option.some.injEq, exists_eq_left', exists_eq_left, Bool.not_true, Bool.not_false, if_true, if_false, Bool.false_eq_true, reduceCtorEq, List.length_cons, List.length_nil, endsOf, wipeM, List.map_cons, List.map_nil, ite_true, ite_false, eq_self_iff_true, false_and, Nat.reduceAdd, decide_true, decide_false, withL_eq h14]
        refine ⟨_, ea, hN1 _ _ ?_⟩
        clear hN1 N1
        obtain ⟨ts1, E1, E2⟩ := eg.ex
        obtain ⟨ts2, T1, T2⟩ := (gi_txt fg).ex
        simp only [mSeq, mAsg, mOp, mUn, mVar, mC, mCB, mCons, mNil, mTup, mLst_n, mB, mTru, mNot, mAnd, mOr, mAndV, mOrV, mNotV, mIf, mIfS, mRet, mRetN, mDrop, mNext, mBreak, mCont, mBM, mBM0, mCall, mFor, mLc, mYes, iSeq, iRng, iRng2, iRevRng, gNameM, gSubM, mAug, mIsi, mSl, mPart, mNoPart, mRaise, getS_0, getS_s, isB_bl, truP_t, truP_b, sIx_t, sIx_o, sIx_r, sIx_s, sAdd_ii, sAdd_ss, sAdd_tt, sAdd_rr, sIAdd_ii, sIAdd_ss, sMul_ii, sMul_si, sI2_ii, sLen_t, sLen_o, sLen_r, sLen_s, sInt_i, sAbs_i, sMin2_i, sMax2_i, sStrI_i, sTupOf_t, sTupOf_r, sLstOf_t, sLstOf_r, sAppend_r, sPop_r, sPopAt_r, sInsert_r, sSet_r, sEq_ii, sEq_ss, sNe_ii, sNe_ss, sIn_ss, sIn_st, sIn_sr, sIs_n, sIsNot_n, isNonP_n, isNonP_t, isNonP_s, isNonP_i, isNonP_r, sNeg_i, sJoin_r, sSl_r, mDict0_n, mDict1_n, gTupM_t, gConsM_c, gNilM_n, seqP_t, seqP_o, seqP_r, withL_upd, upd_upd, dec_if, true_and, and_true, List.set_cons_zero, List.set_cons_succ, atI_0, atI_1, atI_2, ixN_30, ixN_31, ixN_32, ixN_s0, Option.some.injEq, exists_eq_left', exists_eq_left, Bool.not_true, Bool.not_false, if_true, if_false, Bool.false_eq_true, reduceCtorEq, List.length_cons, List.length_nil, endsOf, wipeM, List.map_cons, List.map_nil, ite_true, ite_false, eq_self_iff_true, false_and, Nat.reduceAdd, decide_true, decide_false, mCallK]
        refine ⟨es, .nil, ts1, rfl, eg.len, E1, E2, by decide, by decide, trivial, fun M16 x16 => ⟨by decide, _, rfl, ⟨by decide, fun x h => nomatch h⟩, ?_⟩⟩
        simp only [mSeq, mAsg, mOp, mUn, mVar, mC, mCB, mCons, mNil, mTup, mLst_n, mB, mTru, mNot, mAnd, mOr, mAndV, mOrV, mNotV, mIf, mIfS, mRet, mRetN, mDrop, mNext, mBreak, mCont, mBM, mBM0, mCall, mFor, mLc, mYes, iSeq, iRng, iRng2, iRevRng, gNameM, gSubM, mAug, mIsi, mSl, mPart, mNoPart, mRaise, getS_0, getS_s, isB_bl, truP_t, truP_b, sIx_t, sIx_o, sIx_r, sIx_s, sAdd_ii, sAdd_ss, sAdd_tt, sAdd_rr, sIAdd_ii, sIAdd_ss, sMul_ii, sMul_si, sI2_ii, sLen_t, sLen_o, sLen_r, sLen_s, sInt_i, sAbs_i, sMin2_i, sMax2_i, sStrI_i, sTupOf_t, sTupOf_r, sLstOf_t, sLstOf_r, sAppend_r, sPop_r, sPopAt_r, sInsert_r, sSet_r, sEq_ii, sEq_ss, sNe_ii, sNe_ss, sIn_ss, sIn_st, sIn_sr, sIs_n, sIsNot_n, isNonP_n, isNonP_t, isNonP_s, isNonP_i, isNonP_r, sNeg_i, sJoin_r, sSl_r, mDict0_n, mDict1_n, gTupM_t, gConsM_c, gNilM_n, seqP_t, seqP_o, seqP_r, withL_upd, upd_upd, dec_if, true_and, and_true, List.set_cons_zero, List.set_cons_succ, atI_0, atI_1, atI_2, ixN_30, ixN_31, ixN_32, ixN_s0, Option.some.injEq, exists_eq_left', exists_eq_left, Bool.not_true, Bool.not_false, if_true, if_false, Bool.false_eq_true, reduceCtorEq, List.length_cons, List.length_nil, endsOf, wipeM, List.map_cons, List.map_nil, ite_true, ite_false, eq_self_iff_true, false_and, Nat.reduceAdd, decide_true, decide_false]
        refine ⟨by decide, .nil, rfl, by decide, trivial, fun M17 x17 => ?_⟩
        have em : mk Fo.nil.txt = ("" : Str) := cl_inj (by rw [cl_mk, L2.PL.F.cl_e]; rfl)
        rw [em]
        refine ⟨_, rfl, plain_str (d := 121), ?_⟩
        simp only [mSeq, mAsg, mOp, mUn, mVar, mC, mCB, mCons, mNil, mTup, mLst_n, mB, mTru, mNot, mAnd, mOr, mAndV, mOrV, mNotV, mIf, mIfS, mRet, mRetN, mDrop, mNext, mBreak, mCont, mBM, mBM0, mCall, mFor, mLc, mYes, iSeq, iRng, iRng2, iRevRng, gNameM, gSubM, mAug, mIsi, mSl, mPart, mNoPart, mRaise, getS_0, getS_s, isB_bl, truP_t, truP_b, sIx_t, sIx_o, sIx_r, sIx_s, sAdd_ii, sAdd_ss, sAdd_tt, sAdd_rr, sIAdd_ii, sIAdd_ss, sMul_ii, sMul_si, sI2_ii, sLen_t, sLen_o, sLen_r, sLen_s, sInt_i, sAbs_i, sMin2_i, sMax2_i, sStrI_i, sTupOf_t, sTupOf_r, sLstOf_t, sLstOf_r, sAppend_r, sPop_r, sPopAt_r, sInsert_r, sSet_r, sEq_ii, sEq_ss, sNe_ii, sNe_ss, sIn_ss, sIn_st, sIn_sr, sIs_n, sIsNot_n, isNonP_n, isNonP_t, isNonP_s, isNonP_i, isNonP_r, sNeg_i, sJoin_r, sSl_r, mDict0_n, mDict1_n, gTupM_t, gConsM_c, gNilM_n, seqP_t, seqP_o, seqP_r, withL_upd, upd_upd, dec_if, true_and, and_true, List.set_cons_zero, List.set_cons_succ, atI_0, atI_1, atI_2, ixN_30, ixN_31, ixN_32, ixN_s0, Option.some.injEq, exists_eq_left', exists_eq_left, Bool.not_true, Bool.not_false, if_true, if_false, Bool.false_eq_true, reduceCtorEq, List.length_cons, List.length_nil, endsOf, wipeM, List.map_cons, List.map_nil, ite_true, ite_false, eq_self_iff_true, false_and, Nat.reduceAdd, decide_true, decide_false]
        refine ⟨mk F.txt, F, ts2, rfl, (gi_txt fg).len, T1, T2, fg.cnt, fg.dep, fg.nms, fun M18 x18 => ?_⟩
        exact ⟨_, rfl, pF, q _⟩
    simp only [mSeq, mAsg, mOp, mUn, mVar, mC, mCB, mCons, mNil, mTup, mLst_n, mB, mTru, mNot, mAnd, mOr, mAndV, mOrV, mNotV, mIf, mIfS, mRet, mRetN, mDrop, mNext, mBreak, mCont, mBM, mBM0, mCall, mFor, mLc, mYes, iSeq, iRng, iRng2, iRevRng, gNameM, gSubM, mAug, mIsi, mSl, mPart, mNoPart, mRaise, getS_0, getS_s, isB_bl, truP_t, truP_b, sIx_t, sIx_o, sIx_r, sIx_s, sAdd_ii, sAdd_ss, sAdd_tt, sAdd_rr, sIAdd_ii, sIAdd_ss, sMul_ii, sMul_si, sI2_ii, sLen_t, sLen_o, sLen_r, sLen_s, sInt_i, sAbs_i, sMin2_i, sMax2_i, sStrI_i, sTupOf_t, sTupOf_r, sLstOf_t, sLstOf_r, sAppend_r, sPop_r, sPopAt_r, sInsert_r, sSet_r, sEq_ii, sEq_ss, sNe_ii, sNe_ss, sIn_ss, sIn_st, sIn_sr, sIs_n, sIsNot_n, isNonP_n, isNonP_t, isNonP_s, isNonP_i, isNonP_r, sNeg_i, sJoin_r, sSl_r, mDict0_n, mDict1_n, gTupM_t, gConsM_c, gNilM_n, seqP_t, seqP_o, seqP_r, withL_upd, upd_upd, dec_if, true_and, and_true, List.set_cons_zero, List.set_cons_succ, atI_0, atI_1, atI_2, ixN_30, ixN_31, ixN_32, ixN_s0, Option.some.injEq, exists_eq_left', exists_eq_left, Bool.not_true, Bool.not_false, if_true, if_false, Bool.false_eq_true, reduceCtorEq, List.length_cons, List.length_nil, endsOf, wipeM, List.map_cons, List.map_nil, ite_true, ite_false, eq_self_iff_true, false_and, Nat.reduceAdd, decide_true, decide_false]
    by_cases z : (d3 : Int) = 1
    · rw [if_pos z]
      refine draw_i D (by decide) (by decide) fun d6 M6 hd6 D F6 => ?_
      have hnm := F6.at on hnm
      simp only [mSeq, mAsg, mOp, mUn, mVar, mC, mCB, mCons, mNil, mTup, mLst_n, mB, mTru, mNot, mAnd, mOr, mAndV, mOrV, mNotV, mIf, mIfS, mRet, mRetN, mDrop, mNext, mBreak, mCont, mBM, mBM0, mCall, mFor, mLc, mYes, iSeq, iRng, iRng2, iRevRng, gNameM, gSubM, mAug, mIsi, mSl, mPart, mNoPart, mRaise, getS_0, getS_s, isB_bl, truP_t, truP_b, sIx_t, sIx_o, sIx_r, sIx_s, sAdd_ii, sAdd_ss, sAdd_tt, sAdd_rr, sIAdd_ii, sIAdd_ss, sMul_ii, sMul_si, sI2_ii, sLen_t, sLen_o, sLen_r, sLen_s, sInt_i, sAbs_i, sMin2_i, sMax2_i, sStrI_i, sTupOf_t, sTupOf_r, sLstOf_t, sLstOf_r, sAppend_r, sPop_r, sPopAt_r, sInsert_r, sSet_r, sEq_ii, sEq_ss, sNe_ii, sNe_ss, sIn_ss, sIn_st, sIn_sr, sIs_n, sIsNot_n, isNonP_n, isNonP_t, isNonP_s, isNonP_i, isNonP_r, sNeg_i, sJoin_r, sSl_r, mDict0_n, mDict1_n, gTupM_t, gConsM_c, gNilM_n, seqP_t, seqP_o, seqP_r, withL_upd, upd_upd, dec_if, true_and, and_true, List.set_cons_zero, List.set_cons_succ, atI_0, atI_1, atI_2, ixN_30, ixN_31, ixN_32, ixN_s0, Option.some.injEq, exists_eq_left', exists_eq_left, Bool.not_true, Bool.not_false, if_true, if_false, Bool.false_eq_true, reduceCtorEq, List.length_cons, List.length_nil, endsOf, wipeM, List.map_cons, List.map_nil, ite_true, ite_false, eq_self_iff_true, false_and, Nat.reduceAdd, decide_true, decide_false]
      have e6 : 60 + (d6 : Int) = ((60 + d6 : Nat) : Int) := by omega
      rw [e6]
      refine ⟨st, g, c, nm, 60 + d6, 60, ns, rfl, D, on, hnm, hne, hn3, by omega, by omega, by omega, fun l M7 D F7 G => ?_⟩
      obtain ⟨F1, rfl, fg1⟩ := conv l G.good (by have := G.cnt (by omega); omega) (by have := G.dep; omega)
      exact r2 F1 _ fg1 D (F7.at on hnm)
    · rw [if_neg z]
      exact r2 F M' fg D hnm
  simp only [mSeq, mAsg, mOp, mUn, mVar, mC, mCB, mCons, mNil, mTup, mLst_n, mB, mTru, mNot, mAnd, mOr, mAndV, mOrV, mNotV, mIf, mIfS, mRet, mRetN, mDrop, mNext, mBreak, mCont, mBM, mBM0, mCall, mFor, mLc, mYes, iSeq, iRng, iRng2, iRevRng, gNameM, gSubM, mAug, mIsi, mSl, mPart, mNoPart, mRaise, getS_0, getS_s, isB_bl, truP_t, truP_b, sIx_t, sIx_o, sIx_r, sIx_s, sAdd_ii, sAdd_ss, sAdd_tt, sAdd_rr, sIAdd_ii, sIAdd_ss, sMul_ii, sMul_si, sI2_ii, sLen_t, sLen_o, sLen_r, sLen_s, sInt_i, sAbs_i, sMin2_i, sMax2_i, sStrI_i, sTupOf_t, sTupOf_r, sLstOf_t, sLstOf_r, sAppend_r, sPop_r, sPopAt_r, sInsert_r, sSet_r, sEq_ii, sEq_ss, sNe_ii, sNe_ss, sIn_ss, sIn_st, sIn_sr, sIs_n, sIsNot_n, isNonP_n, isNonP_t, isNonP_s, isNonP_i, isNonP_r, sNeg_i, sJoin_r, sSl_r, mDict0_n, mDict1_n, gTupM_t, gConsM_c, gNilM_n, seqP_t, seqP_o, seqP_r, withL_upd, upd_upd, dec_if, true_and, and_true, List.set_cons_zero, List.set_cons_succ, atI_0, atI_1, atI_2, ixN_30, ixN_31, ixN_32, ixN_s0, Option.some.injEq, exists_eq_left', exists_eq_left, Bool.not_true, Bool.not_false, if_true, if_false, Bool.false_eq_true, reduceCtorEq, List.length_cons, List.length_nil, endsOf, wipeM, List.map_cons, List.map_nil, ite_true, ite_false, eq_self_iff_true, false_and, Nat.reduceAdd, decide_true, decide_false]
  by_cases z : (d3 : Int) = 0
  · rw [if_pos z]
    refine draw_i D (by decide) (by decide) fun d6 M6 hd6 D F6 => ?_
    have hnm := F6.at on hnm
    simp only [mSeq, mAsg, mOp, mUn, mVar, mC, mCB, mCons, mNil, mTup, mLst_n, mB, mTru, mNot, mAnd, mOr, mAndV, mOrV, mNotV, mIf, mIfS, mRet, mRetN, mDrop, mNext, mBreak, mCont, mBM, mBM0, mCall, mFor, mLc, mYes, iSeq, iRng, iRng2, iRevRng, gNameM, gSubM, mAug, mIsi, mSl, mPart, mNoPart, mRaise, getS_0, getS_s, isB_bl, truP_t, truP_b, sIx_t, sIx_o, sIx_r, sIx_s, sAdd_ii, sAdd_ss, sAdd_tt, sAdd_rr, sIAdd_ii, sIAdd_ss, sMul_ii, sMul_si, sI2_ii, sLen_t, sLen_o, sLen_r, sLen_s, sInt_i, sAbs_i, sMin2_i, sMax2_i, sStrI_i, sTupOf_t, sTupOf_r, sLstOf_t, sLstOf_r, sAppend_r, sPop_r, sPopAt_r, sInsert_r, sSet_r, sEq_ii, sEq_ss, sNe_ii, sNe_ss, sIn_ss, sIn_st, sIn_sr, sIs_n, sIsNot_n, isNonP_n, isNonP_t, isNonP_s, isNonP_i, isNonP_r, sNeg_i, sJoin_r, sSl_r, mDict0_n, mDict1_n, gTupM_t, gConsM_c, gNilM_n, seqP_t, seqP_o, seqP_r, withL_upd, upd_upd, dec_if, true_and, and_true, List.set_cons_zero, List.set_cons_succ, atI_0, atI_1, atI_2, ixN_30, ixN_31, ixN_32, ixN_s0, Option.some.injEq, exists_eq_left', exists_eq_left, Bool.not_true, Bool.not_false, if_true, if_false, Bool.false_eq_true, reduceCtorEq, List.length_cons, List.length_nil, endsOf, wipeM, List.map_cons, List.map_nil, ite_true, ite_false, eq_self_iff_true, false_and, Nat.reduceAdd, decide_true, decide_false]
    have e6 : 1 + (d6 : Int) = ((1 + d6 : Nat) : Int) := by omega
    rw [e6]
    refine ⟨st, g, c, nm, 2000, 1 + d6, ns, rfl, D, on, hnm, hne, hn3, by omega, by omega, by omega, fun l M7 D F7 G => ?_⟩
    obtain ⟨F1, rfl, fg1⟩ := conv l G.good (by have := G.cnt (by omega); omega) (by have := G.dep; omega)
    exact r1 F1 _ fg1 D (F7.at on hnm)
  · rw [if_neg z]
    exact r1 F0 _ fg0 D hnm
end K02
end PL
end L2
set_option maxRecDepth 100000
set_option maxHeartbeats 4000000
namespace L2
namespace PL
namespace K02
open PySem PySem.Spec PyProof.Rows K01 F
def topS (i : Nat) : Stmt := PySem.Challenge.pw_everyforest_k02_forest_texts.main.body.getD i (.Pass ⟨0, 0, 0, 0⟩)
structure Txt (K : Frg) (mg : Str → Option Value) (cl : Str → Addr) : Prop where
  b_abs : mg "abs" = none
  b_bool : mg "bool" = none
  b_int : mg "int" = none
  b_isinstance : mg "isinstance" = none
  b_len : mg "len" = none
  b_min : mg "min" = none
  b_range : mg "range" = none
  b_reversed : mg "reversed" = none
  b_str : mg "str" = none
  b_tuple : mg "tuple" = none
  c_FOREST_SIGNS : ∃ t, mg "FOREST_SIGNS" = some (.str "()" t)
  c_GREAT : ∃ t, mg "GREAT" = some (.str "ABCDEFGHIJKLMNOPQRSTUVWXYZ" t)
  c_MOST_DEEP : ∃ t, mg "MOST_DEEP" = some (.int 60 t)
  c_MOST_TREES : ∃ t, mg "MOST_TREES" = some (.int 2000 t)
  c_PROJECT_SIGNS : ∃ t, mg "PROJECT_SIGNS" = some (.str "=;,()|*+?" t)
  c_SMALL : ∃ t, mg "SMALL" = some (.str "abcdefghijklmnopqrstuvwxyz" t)
  c_WITHIN : ∃ t, mg "WITHIN" = some (.str "abcdefghijklmnopqrstuvwxyzABCDEFGHIJKLMNOPQRSTUVWXYZ0123456789_" t)

abbrev s__law_state : Stmt := topS 22

theorem sc__law_state : FnScope N__law_state ["script"] (defScope s__law_state) := ⟨rfl, rfl, rfl, by decide +kernel, rfl, by decide +kernel, by decide +kernel⟩

theorem der__law_state {P : Program} {w : World} {K : Frg} {mg : Str → Option Value} {base : Heap} {cl : Str → Addr} {f : Addr} {k : Nat} (T : Txt K mg cl)
    (cdv : Value) (A : Around) (outer : List Env) (s : Shared) (H : Hp) (E : XK) (hr : Room k (A.deeper (envOfC "_law_state" (defScope s__law_state) s.heap.objs.size f cdv))) :
    JB (cxOf (L2.CX P w) P w K mg base N__law_state "_law_state" (defScope s__law_state) f cdv A outer s H E) (fun cls d _ H => E cls d H) (defBody s__law_state) m__law_state := by
  have tk : Takes (cxOf (L2.CX P w) P w K mg base N__law_state "_law_state" (defScope s__law_state) f cdv A outer s H E) (fun cls d _ H => E cls d H) := takes_of rfl rfl rfl rfl
  have hp : PassesOwn (model P w) (cxOf (L2.CX P w) P w K mg base N__law_state "_law_state" (defScope s__law_state) f cdv A outer s H E).A (cxOf (L2.CX P w) P w K mg base N__law_state "_law_state" (defScope s__law_state) f cdv A outer s H E).env (cxOf (L2.CX P w) P w K mg base N__law_state "_law_state" (defScope s__law_state) f cdv A outer s H E).xe := passes_of rfl
  have nd := sc__law_state.nd
  unfold m__law_state
  exact (jb_cons (js_setLc (own := [("cell", 2)]) (gT := (gName 2)) (i := 1) rfl nd rfl rfl (sw_true rfl rfl rfl (by decide +kernel)) (ji_seq (je_var (pv 0))) (blkOk_by (N := N__law_state) (sc := defScope s__law_state) (by decide +kernel)) (gok_name (by simp)) (fun _ _ _ _ _ => pg_name (i := 2) nd rfl (by first | exact .inl rfl | exact .inr rfl)) (fun _ _ _ _ _ => jts_nil) (fun _ _ _ _ _ => (je_cb call_absM rfl T.b_abs (by decide +kernel) (ja_cons (je_ct call_intM rfl T.b_int (by decide +kernel) (ja_cons (je_var (pv 2)) ja_nil)) ja_nil))))
    (jb_one (js_ret (je_lst (ja_cons (je_lc (own := [("cell", 2)]) (gT := (gName 2)) rfl nd (ji_seq (je_var (pv 1))) (blkOk_by (N := N__law_state) (sc := defScope s__law_state) (by decide +kernel)) (gok_name (by simp)) (fun _ _ _ _ _ => pg_name (i := 2) nd rfl (by first | exact .inl rfl | exact .inr rfl)) (fun _ _ _ _ _ => (jts_one (jt_cmp op_geM (je_var (pv 2)) (je_op op_powM je_int je_int) (nomark _)))) (fun _ _ _ _ _ => (je_var (pv 2)))) (ja_cons (je_op op_addM (je_var (pv 1)) (je_lst (ja_cons (je_cb call_lenM rfl T.b_len (by decide +kernel) (ja_cons (je_var (pv 1)) ja_nil)) ja_nil))) (ja_cons je_int ja_nil)))))))

abbrev s__law_draw : Stmt := topS 23

theorem sc__law_draw : FnScope N__law_draw ["state", "many"] (defScope s__law_draw) := ⟨rfl, rfl, rfl, by decide +kernel, rfl, by decide +kernel, by decide +kernel⟩

theorem der__law_draw {P : Program} {w : World} {K : Frg} {mg : Str → Option Value} {base : Heap} {cl : Str → Addr} {f : Addr} {k : Nat} (T : Txt K mg cl)
    (cdv : Value) (A : Around) (outer : List Env) (s : Shared) (H : Hp) (E : XK) (hr : Room k (A.deeper (envOfC "_law_draw" (defScope s__law_draw) s.heap.objs.size f cdv))) :
    JB (cxOf (L2.CX P w) P w K mg base N__law_draw "_law_draw" (defScope s__law_draw) f cdv A outer s H E) (fun cls d _ H => E cls d H) (defBody s__law_draw) m__law_draw := by
  have tk : Takes (cxOf (L2.CX P w) P w K mg base N__law_draw "_law_draw" (defScope s__law_draw) f cdv A outer s H E) (fun cls d _ H => E cls d H) := takes_of rfl rfl rfl rfl
  have hp : PassesOwn (model P w) (cxOf (L2.CX P w) P w K mg base N__law_draw "_law_draw" (defScope s__law_draw) f cdv A outer s H E).A (cxOf (L2.CX P w) P w K mg base N__law_draw "_law_draw" (defScope s__law_draw) f cdv A outer s H E).env (cxOf (L2.CX P w) P w K mg base N__law_draw "_law_draw" (defScope s__law_draw) f cdv A outer s H E).xe := passes_of rfl
  have nd := sc__law_draw.nd
  unfold m__law_draw
  exact (jb_cons (js_set (i := 2) nd rfl (by first | exact .inl rfl | exact .inr rfl) (je_ix ix_M (je_var (pv 0)) je_int (fun _ _ => rfl)))
    (jb_cons (js_if (jt_cmp op_gtM (je_cb call_lenM rfl T.b_len (by decide +kernel) (ja_cons (je_var (pv 2)) ja_nil)) je_int (nomark _)) (jb_cons (js_set (i := 3) nd rfl (by first | exact .inl rfl | exact .inr rfl) (je_op op_modM (je_ct call_intM rfl T.b_int (by decide +kernel) (ja_cons (je_ix ix_M (je_var (pv 2)) je_int (fun _ _ => rfl)) ja_nil)) (je_var (pv 1))))
    (jb_cons (js_asg (je_op op_divM (je_ix ix_M (je_var (pv 2)) je_int (fun _ _ => rfl)) (je_var (pv 1))) (jg_sub (je_var (pv 2)) je_int))
    (jb_cons (js_if (jt_cmp op_eqM (je_ix ix_M (je_var (pv 2)) je_int (fun _ _ => rfl)) je_int (nomark _)) (jb_one (js_expr (je_bm PySem.F.plainAttrs_list PySem.F.slot_list_pop PySem.F.type_list_pop mt_popAtM (je_var (pv 2)) (ja_cons je_int ja_nil)))) jb_nil)
    (jb_one (js_ret (je_var (pv 3))))))) jb_nil)
    (jb_cons (js_asg (je_op op_addM (je_ix ix_M (je_var (pv 0)) je_int (fun _ _ => rfl)) je_int) (jg_sub (je_var (pv 0)) je_int))
    (jb_cons (js_set (i := 4) nd rfl (by first | exact .inl rfl | exact .inr rfl) (je_ix ix_M (je_var (pv 0)) je_int (fun _ _ => rfl)))
    (jb_cons (js_set (i := 5) nd rfl (by first | exact .inl rfl | exact .inr rfl) (je_ix ix_M (je_var (pv 4)) (je_op op_modM (je_ct call_intM rfl T.b_int (by decide +kernel) (ja_cons (je_ix ix_M (je_var (pv 0)) je_int (fun _ _ => rfl)) ja_nil)) (je_cb call_lenM rfl T.b_len (by decide +kernel) (ja_cons (je_var (pv 4)) ja_nil))) (fun _ _ => rfl)))
    (jb_cons (js_set (i := 6) nd rfl (by first | exact .inl rfl | exact .inr rfl) (je_op op_modM (je_ct call_intM rfl T.b_int (by decide +kernel) (ja_cons (je_op op_addM (je_op op_addM (je_op op_mulM (je_op op_modM (je_var (pv 5)) je_int) je_int) (je_op op_mulM (je_op op_modM (je_op op_divM (je_var (pv 5)) je_int) je_int) je_int)) (je_op op_mulM (je_ix ix_M (je_var (pv 0)) je_int (fun _ _ => rfl)) je_int)) ja_nil)) je_int))
    (jb_cons (js_set (i := 7) nd rfl (by first | exact .inl rfl | exact .inr rfl) (je_op op_modM (je_ct call_intM rfl T.b_int (by decide +kernel) (ja_cons (je_op op_addM (je_op op_addM (je_op op_mulM (je_var (pv 6)) je_int) (je_op op_mulM (je_op op_divM (je_var (pv 6)) je_int) je_int)) (je_op op_mulM (je_ix ix_M (je_var (pv 0)) je_int (fun _ _ => rfl)) je_int)) ja_nil)) je_int))
    (jb_one (js_ret (je_op op_modM (je_op op_divM (je_var (pv 7)) je_int) (je_var (pv 1))))))))))))

abbrev s__law_names : Stmt := topS 26

theorem sc__law_names : FnScope N__law_names ["state"] (defScope s__law_names) := ⟨rfl, rfl, rfl, by decide +kernel, rfl, by decide +kernel, by decide +kernel⟩

theorem der__law_names {P : Program} {w : World} {K : Frg} {mg : Str → Option Value} {base : Heap} {cl : Str → Addr} {f : Addr} {k : Nat} (T : Txt K mg cl) {j__law_draw : Nat} (h__law_draw : j__law_draw ≤ k) (D__law_draw : Def P w K mg base "_law_draw" j__law_draw ["state", "many"] sp__law_draw)
    (cdv : Value) (A : Around) (outer : List Env) (s : Shared) (H : Hp) (E : XK) (hr : Room k (A.deeper (envOfC "_law_names" (defScope s__law_names) s.heap.objs.size f cdv))) :
    JB (cxOf (L2.CX P w) P w K mg base N__law_names "_law_names" (defScope s__law_names) f cdv A outer s H E) (fun cls d _ H => E cls d H) (defBody s__law_names) m__law_names := by
  have tk : Takes (cxOf (L2.CX P w) P w K mg base N__law_names "_law_names" (defScope s__law_names) f cdv A outer s H E) (fun cls d _ H => E cls d H) := takes_of rfl rfl rfl rfl
  have hp : PassesOwn (model P w) (cxOf (L2.CX P w) P w K mg base N__law_names "_law_names" (defScope s__law_names) f cdv A outer s H E).A (cxOf (L2.CX P w) P w K mg base N__law_names "_law_names" (defScope s__law_names) f cdv A outer s H E).env (cxOf (L2.CX P w) P w K mg base N__law_names "_law_names" (defScope s__law_names) f cdv A outer s H E).xe := passes_of rfl
  have nd := sc__law_names.nd
  unfold m__law_names
  exact (jb_cons (js_set (i := 1) nd rfl (by first | exact .inl rfl | exact .inr rfl) je_str)
    (jb_cons (js_set (i := 2) nd rfl (by first | exact .inl rfl | exact .inr rfl) je_str)
    (jb_cons (js_set (i := 3) nd rfl (by first | exact .inl rfl | exact .inr rfl) (je_ix ix_M (je_lst (ja_cons je_str (ja_cons je_str (ja_cons je_str (ja_cons (je_op op_mulM je_str je_int) ja_nil))))) (je_def D__law_draw (hr.mono (by omega)) rfl tk (ja_cons (je_var (pv 0)) (ja_cons je_int ja_nil))) (fun _ _ => rfl)))
    (jb_cons (js_set (i := 4) nd rfl (by first | exact .inl rfl | exact .inr rfl) (je_lst ja_nil))
    (jb_cons (js_for hp rfl (ji_range rfl T.b_range (ja_cons (je_op op_addM je_int (je_def D__law_draw (hr.mono (by omega)) rfl tk (ja_cons (je_var (pv 0)) (ja_cons je_int ja_nil)))) ja_nil)) (jg_name (i := 5) nd rfl (by first | exact .inl rfl | exact .inr rfl))
    (jb_cons (js_set (i := 6) nd rfl (by first | exact .inl rfl | exact .inr rfl) (je_op op_addM (je_var (pv 3)) (je_ix ix_M (je_var (pv 1)) (je_def D__law_draw (hr.mono (by omega)) rfl tk (ja_cons (je_var (pv 0)) (ja_cons je_int ja_nil))) (fun _ _ => rfl))))
    (jb_cons (js_for hp rfl (ji_range rfl T.b_range (ja_cons (je_def D__law_draw (hr.mono (by omega)) rfl tk (ja_cons (je_var (pv 0)) (ja_cons je_int ja_nil))) ja_nil)) (jg_name (i := 7) nd rfl (by first | exact .inl rfl | exact .inr rfl))
    (jb_one (js_set (i := 6) nd rfl (by first | exact .inl rfl | exact .inr rfl) (je_op op_addM (je_var (pv 6)) (je_ix ix_M (je_var (pv 2)) (je_def D__law_draw (hr.mono (by omega)) rfl tk (ja_cons (je_var (pv 0)) (ja_cons je_int ja_nil))) (fun _ _ => rfl))))))
    (jb_cons (js_if (jt_cmp op_inM (je_var (pv 6)) (je_var (pv 4)) (by rfl)) (jb_one (js_set (i := 6) nd rfl (by first | exact .inl rfl | exact .inr rfl) (je_op op_addM (je_op op_addM (je_var (pv 6)) je_str) (je_ct call_strIM rfl T.b_str (by decide +kernel) (ja_cons (je_var (pv 5)) ja_nil))))) jb_nil)
    (jb_one (js_expr (je_bm PySem.F.plainAttrs_list PySem.F.slot_list_append PySem.F.type_list_append mt_appendM (je_var (pv 4)) (ja_cons (je_var (pv 6)) ja_nil))))))))
    (jb_one (js_ret (je_var (pv 4)))))))))

abbrev s__law_forest : Stmt := topS 24

theorem sc__law_forest : FnScope N__law_forest ["state", "many", "names"] (defScope s__law_forest) := ⟨rfl, rfl, rfl, by decide +kernel, rfl, by decide +kernel, by decide +kernel⟩

theorem der__law_forest {P : Program} {w : World} {K : Frg} {mg : Str → Option Value} {base : Heap} {cl : Str → Addr} {f : Addr} {k : Nat} (T : Txt K mg cl) {j__law_draw : Nat} (h__law_draw : j__law_draw ≤ k) (D__law_draw : Def P w K mg base "_law_draw" j__law_draw ["state", "many"] sp__law_draw)
    (cdv : Value) (A : Around) (outer : List Env) (s : Shared) (H : Hp) (E : XK) (hr : Room k (A.deeper (envOfC "_law_forest" (defScope s__law_forest) s.heap.objs.size f cdv))) :
    JB (cxOf (L2.CX P w) P w K mg base N__law_forest "_law_forest" (defScope s__law_forest) f cdv A outer s H E) (fun cls d _ H => E cls d H) (defBody s__law_forest) m__law_forest := by
  have tk : Takes (cxOf (L2.CX P w) P w K mg base N__law_forest "_law_forest" (defScope s__law_forest) f cdv A outer s H E) (fun cls d _ H => E cls d H) := takes_of rfl rfl rfl rfl
  have hp : PassesOwn (model P w) (cxOf (L2.CX P w) P w K mg base N__law_forest "_law_forest" (defScope s__law_forest) f cdv A outer s H E).A (cxOf (L2.CX P w) P w K mg base N__law_forest "_law_forest" (defScope s__law_forest) f cdv A outer s H E).env (cxOf (L2.CX P w) P w K mg base N__law_forest "_law_forest" (defScope s__law_forest) f cdv A outer s H E).xe := passes_of rfl
  have nd := sc__law_forest.nd
  unfold m__law_forest
  exact (jb_cons (js_set (i := 3) nd rfl (by first | exact .inl rfl | exact .inr rfl) (je_lst ja_nil))
    (jb_cons (js_setLc (own := [("k", 6)]) (gT := (gName 6)) (i := 4) rfl nd rfl rfl (sw_true rfl rfl rfl (by decide +kernel)) (ji_range rfl T.b_range (ja_cons (je_op op_addM (je_var (pv 1)) je_int) ja_nil)) (blkOk_by (N := N__law_forest) (sc := defScope s__law_forest) (by decide +kernel)) (gok_name (by simp)) (fun _ _ _ _ _ => pg_name (i := 6) nd rfl (by first | exact .inl rfl | exact .inr rfl)) (fun _ _ _ _ _ => jts_nil) (fun _ _ _ _ _ => je_int))
    (jb_cons (js_setLc (own := [("k", 6)]) (gT := (gName 6)) (i := 5) rfl nd rfl rfl (sw_true rfl rfl rfl (by decide +kernel)) (ji_range rfl T.b_range (ja_cons (je_op op_addM (je_var (pv 1)) je_int) ja_nil)) (blkOk_by (N := N__law_forest) (sc := defScope s__law_forest) (by decide +kernel)) (gok_name (by simp)) (fun _ _ _ _ _ => pg_name (i := 6) nd rfl (by first | exact .inl rfl | exact .inr rfl)) (fun _ _ _ _ _ => jts_nil) (fun _ _ _ _ _ => (je_lst ja_nil)))
    (jb_cons (js_for hp rfl (ji_range rfl T.b_range (ja_cons (je_var (pv 1)) ja_nil)) (jg_name (i := 6) nd rfl (by first | exact .inl rfl | exact .inr rfl))
    (jb_cons (js_expr (je_bm PySem.F.plainAttrs_list PySem.F.slot_list_append PySem.F.type_list_append mt_appendM (je_var (pv 3)) (ja_cons (je_ix ix_M (je_var (pv 2)) (je_def D__law_draw (hr.mono (by omega)) rfl tk (ja_cons (je_var (pv 0)) (ja_cons (je_cb call_lenM rfl T.b_len (by decide +kernel) (ja_cons (je_var (pv 2)) ja_nil)) ja_nil))) (fun _ _ => rfl)) ja_nil)))
    (jb_cons (js_set (i := 7) nd rfl (by first | exact .inl rfl | exact .inr rfl) (je_def D__law_draw (hr.mono (by omega)) rfl tk (ja_cons (je_var (pv 0)) (ja_cons (je_op op_addM (je_var (pv 6)) je_int) ja_nil))))
    (jb_cons (js_if (jt_cmp op_geM (je_ix ix_M (je_var (pv 4)) (je_var (pv 7)) (fun _ _ => rfl)) je_int (nomark _)) (jb_one (js_set (i := 7) nd rfl (by first | exact .inl rfl | exact .inr rfl) je_int)) jb_nil)
    (jb_cons (js_asg (je_op op_addM (je_ix ix_M (je_var (pv 4)) (je_var (pv 7)) (fun _ _ => rfl)) je_int) (jg_sub (je_var (pv 4)) (je_op op_addM (je_var (pv 6)) je_int)))
    (jb_one (js_expr (je_bm PySem.F.plainAttrs_list PySem.F.slot_list_insert PySem.F.type_list_insert mt_insertM (je_ix ix_M (je_var (pv 5)) (je_var (pv 7)) (fun _ _ => rfl)) (ja_cons (je_def D__law_draw (hr.mono (by omega)) rfl tk (ja_cons (je_var (pv 0)) (ja_cons (je_op op_addM (je_cb call_lenM rfl T.b_len (by decide +kernel) (ja_cons (je_ix ix_M (je_var (pv 5)) (je_var (pv 7)) (fun _ _ => rfl)) ja_nil)) je_int) ja_nil))) (ja_cons (je_var (pv 6)) ja_nil))))))))))
    (jb_cons (js_set (i := 8) nd rfl (by first | exact .inl rfl | exact .inr rfl) (je_lc (own := [("k", 6)]) (gT := (gName 6)) rfl nd (ji_range rfl T.b_range (ja_cons (je_var (pv 1)) ja_nil)) (blkOk_by (N := N__law_forest) (sc := defScope s__law_forest) (by decide +kernel)) (gok_name (by simp)) (fun _ _ _ _ _ => pg_name (i := 6) nd rfl (by first | exact .inl rfl | exact .inr rfl)) (fun _ _ _ _ _ => jts_nil) (fun _ _ _ _ _ => (je_tup ja_nil))))
    (jb_cons (js_for hp rfl (ji_revRange rfl T.b_reversed rfl T.b_range (je_var (pv 1))) (jg_name (i := 6) nd rfl (by first | exact .inl rfl | exact .inr rfl))
    (jb_one (js_asg (je_tup (ja_cons (je_ix ix_M (je_var (pv 3)) (je_var (pv 6)) (fun _ _ => rfl)) (ja_cons (je_ct call_tupM rfl T.b_tuple (by decide +kernel) (ja_cons (je_lc (own := [("one", 9)]) (gT := (gName 9)) rfl nd (ji_seq (je_ix ix_M (je_var (pv 5)) (je_op op_addM (je_var (pv 6)) je_int) (fun _ _ => rfl))) (blkOk_by (N := N__law_forest) (sc := defScope s__law_forest) (by decide +kernel)) (gok_name (by simp)) (fun _ _ _ _ _ => pg_name (i := 9) nd rfl (by first | exact .inl rfl | exact .inr rfl)) (fun _ _ _ _ _ => jts_nil) (fun _ _ _ _ _ => (je_ix ix_M (je_var (pv 8)) (je_var (pv 9)) (fun _ _ => rfl)))) ja_nil)) ja_nil))) (jg_sub (je_var (pv 8)) (je_var (pv 6))))))
    (jb_one (js_ret (je_ct call_tupM rfl T.b_tuple (by decide +kernel) (ja_cons (je_lc (own := [("one", 9)]) (gT := (gName 9)) rfl nd (ji_seq (je_ix ix_M (je_var (pv 5)) je_int (fun _ _ => rfl))) (blkOk_by (N := N__law_forest) (sc := defScope s__law_forest) (by decide +kernel)) (gok_name (by simp)) (fun _ _ _ _ _ => pg_name (i := 9) nd rfl (by first | exact .inl rfl | exact .inr rfl)) (fun _ _ _ _ _ => jts_nil) (fun _ _ _ _ _ => (je_ix ix_M (je_var (pv 8)) (je_var (pv 9)) (fun _ _ => rfl)))) ja_nil))))))))))

abbrev s__law_text : Stmt := topS 28

theorem sc__law_text : FnScope N__law_text ["forest"] (defScope s__law_text) := ⟨rfl, rfl, rfl, by decide +kernel, rfl, by decide +kernel, by decide +kernel⟩

theorem der__law_text {P : Program} {w : World} {K : Frg} {mg : Str → Option Value} {base : Heap} {cl : Str → Addr} {f : Addr} {k : Nat} (T : Txt K mg cl) {self : MSp} (D__law_text : Def P w K mg base "_law_text" k ["forest"] self)
    (cdv : Value) (A : Around) (outer : List Env) (s : Shared) (H : Hp) (E : XK) (hr : Room k (A.deeper (envOfC "_law_text" (defScope s__law_text) s.heap.objs.size f cdv))) :
    JB (cxOf (L2.CX P w) P w K mg base N__law_text "_law_text" (defScope s__law_text) f cdv A outer s H E) (fun cls d _ H => E cls d H) (defBody s__law_text) (m__law_text self) := by
  have tk : Takes (cxOf (L2.CX P w) P w K mg base N__law_text "_law_text" (defScope s__law_text) f cdv A outer s H E) (fun cls d _ H => E cls d H) := takes_of rfl rfl rfl rfl
  have hp : PassesOwn (model P w) (cxOf (L2.CX P w) P w K mg base N__law_text "_law_text" (defScope s__law_text) f cdv A outer s H E).A (cxOf (L2.CX P w) P w K mg base N__law_text "_law_text" (defScope s__law_text) f cdv A outer s H E).env (cxOf (L2.CX P w) P w K mg base N__law_text "_law_text" (defScope s__law_text) f cdv A outer s H E).xe := passes_of rfl
  have nd := sc__law_text.nd
  unfold m__law_text
  exact (jb_cons (js_set (i := 1) nd rfl (by first | exact .inl rfl | exact .inr rfl) (je_lst ja_nil))
    (jb_cons (js_for hp rfl (ji_seq (je_var (pv 0))) (jg_name (i := 2) nd rfl (by first | exact .inl rfl | exact .inr rfl))
    (jb_cons (js_expr (je_bm PySem.F.plainAttrs_list PySem.F.slot_list_append PySem.F.type_list_append mt_appendM (je_var (pv 1)) (ja_cons (je_ix ix_M (je_var (pv 2)) je_int (fun _ _ => rfl)) ja_nil)))
    (jb_one (js_if (jt_cmp op_gtM (je_cb call_lenM rfl T.b_len (by decide +kernel) (ja_cons (je_ix ix_M (je_var (pv 2)) je_int (fun _ _ => rfl)) ja_nil)) je_int (nomark _)) (jb_one (js_asg (je_op op_addM (je_op op_addM (je_op op_addM (je_ix ix_M (je_var (pv 2)) je_int (fun _ _ => rfl)) je_str) (je_def D__law_text hr rfl tk (ja_cons (je_ix ix_M (je_var (pv 2)) je_int (fun _ _ => rfl)) ja_nil))) je_str) (jg_sub (je_var (pv 1)) (je_un un_negM je_int)))) jb_nil))))
    (jb_one (js_ret (je_bm PySem.F.plainAttrs_str PySem.F.slot_str_join PySem.F.type_str_join mt_joinM je_str (ja_cons (je_var (pv 1)) ja_nil))))))

abbrev s__law_tokens : Stmt := topS 29

theorem sc__law_tokens : FnScope N__law_tokens ["forest", "state"] (defScope s__law_tokens) := ⟨rfl, rfl, rfl, by decide +kernel, rfl, by decide +kernel, by decide +kernel⟩

theorem der__law_tokens {P : Program} {w : World} {K : Frg} {mg : Str → Option Value} {base : Heap} {cl : Str → Addr} {f : Addr} {k : Nat} (T : Txt K mg cl) {self : MSp} {j__law_draw : Nat} (h__law_draw : j__law_draw ≤ k) (D__law_draw : Def P w K mg base "_law_draw" j__law_draw ["state", "many"] sp__law_draw) (D__law_tokens : Def P w K mg base "_law_tokens" k ["forest", "state"] self)
    (cdv : Value) (A : Around) (outer : List Env) (s : Shared) (H : Hp) (E : XK) (hr : Room k (A.deeper (envOfC "_law_tokens" (defScope s__law_tokens) s.heap.objs.size f cdv))) :
    JB (cxOf (L2.CX P w) P w K mg base N__law_tokens "_law_tokens" (defScope s__law_tokens) f cdv A outer s H E) (fun cls d _ H => E cls d H) (defBody s__law_tokens) (m__law_tokens self) := by
  have tk : Takes (cxOf (L2.CX P w) P w K mg base N__law_tokens "_law_tokens" (defScope s__law_tokens) f cdv A outer s H E) (fun cls d _ H => E cls d H) := takes_of rfl rfl rfl rfl
  have hp : PassesOwn (model P w) (cxOf (L2.CX P w) P w K mg base N__law_tokens "_law_tokens" (defScope s__law_tokens) f cdv A outer s H E).A (cxOf (L2.CX P w) P w K mg base N__law_tokens "_law_tokens" (defScope s__law_tokens) f cdv A outer s H E).env (cxOf (L2.CX P w) P w K mg base N__law_tokens "_law_tokens" (defScope s__law_tokens) f cdv A outer s H E).xe := passes_of rfl
  have nd := sc__law_tokens.nd
  unfold m__law_tokens
  exact (jb_cons (js_set (i := 2) nd rfl (by first | exact .inl rfl | exact .inr rfl) (je_lst ja_nil))
    (jb_cons (js_for hp rfl (ji_seq (je_var (pv 0))) (jg_name (i := 3) nd rfl (by first | exact .inl rfl | exact .inr rfl))
    (jb_cons (js_expr (je_bm PySem.F.plainAttrs_list PySem.F.slot_list_append PySem.F.type_list_append mt_appendM (je_var (pv 2)) (ja_cons (je_ix ix_M (je_var (pv 3)) je_int (fun _ _ => rfl)) ja_nil)))
    (jb_one (js_if (jt_cmp op_gtM (je_cb call_lenM rfl T.b_len (by decide +kernel) (ja_cons (je_ix ix_M (je_var (pv 3)) je_int (fun _ _ => rfl)) ja_nil)) je_int (nomark _)) (jb_one (js_set (i := 2) nd rfl (by first | exact .inl rfl | exact .inr rfl) (je_op op_addM (je_op op_addM (je_op op_addM (je_var (pv 2)) (je_lst (ja_cons je_str ja_nil))) (je_def D__law_tokens hr rfl tk (ja_cons (je_ix ix_M (je_var (pv 3)) je_int (fun _ _ => rfl)) (ja_cons (je_var (pv 1)) ja_nil)))) (je_lst (ja_cons je_str ja_nil))))) (jb_one (js_if (jt_cmp op_eqM (je_def D__law_draw (hr.mono (by omega)) rfl tk (ja_cons (je_var (pv 1)) (ja_cons je_int ja_nil))) je_int (nomark _)) (jb_one (js_set (i := 2) nd rfl (by first | exact .inl rfl | exact .inr rfl) (je_op op_addM (je_var (pv 2)) (je_lst (ja_cons je_str (ja_cons je_str ja_nil)))))) jb_nil))))))
    (jb_one (js_ret (je_var (pv 2))))))

abbrev s__law_great : Stmt := topS 25

theorem sc__law_great : FnScope N__law_great ["state", "names", "size", "deep"] (defScope s__law_great) := ⟨rfl, rfl, rfl, by decide +kernel, rfl, by decide +kernel, by decide +kernel⟩

theorem der__law_great {P : Program} {w : World} {K : Frg} {mg : Str → Option Value} {base : Heap} {cl : Str → Addr} {f : Addr} {k : Nat} (T : Txt K mg cl) {j__law_draw : Nat} (h__law_draw : j__law_draw ≤ k) (D__law_draw : Def P w K mg base "_law_draw" j__law_draw ["state", "many"] sp__law_draw)
    (cdv : Value) (A : Around) (outer : List Env) (s : Shared) (H : Hp) (E : XK) (hr : Room k (A.deeper (envOfC "_law_great" (defScope s__law_great) s.heap.objs.size f cdv))) :
    JB (cxOf (L2.CX P w) P w K mg base N__law_great "_law_great" (defScope s__law_great) f cdv A outer s H E) (fun cls d _ H => E cls d H) (defBody s__law_great) m__law_great := by
  have tk : Takes (cxOf (L2.CX P w) P w K mg base N__law_great "_law_great" (defScope s__law_great) f cdv A outer s H E) (fun cls d _ H => E cls d H) := takes_of rfl rfl rfl rfl
  have hp : PassesOwn (model P w) (cxOf (L2.CX P w) P w K mg base N__law_great "_law_great" (defScope s__law_great) f cdv A outer s H E).A (cxOf (L2.CX P w) P w K mg base N__law_great "_law_great" (defScope s__law_great) f cdv A outer s H E).env (cxOf (L2.CX P w) P w K mg base N__law_great "_law_great" (defScope s__law_great) f cdv A outer s H E).xe := passes_of rfl
  have nd := sc__law_great.nd
  unfold m__law_great
  exact (jb_cons (js_set (i := 4) nd rfl (by first | exact .inl rfl | exact .inr rfl) (je_tup ja_nil))
    (jb_cons (js_for hp rfl (ji_range rfl T.b_range (ja_cons (je_var (pv 3)) ja_nil)) (jg_name (i := 5) nd rfl (by first | exact .inl rfl | exact .inr rfl))
    (jb_one (js_set (i := 4) nd rfl (by first | exact .inl rfl | exact .inr rfl) (je_tup (ja_cons (je_tup (ja_cons (je_ix ix_M (je_var (pv 1)) (je_op op_modM (je_ct call_intM rfl T.b_int (by decide +kernel) (ja_cons (je_var (pv 5)) ja_nil)) (je_cb call_lenM rfl T.b_len (by decide +kernel) (ja_cons (je_var (pv 1)) ja_nil))) (fun _ _ => rfl)) (ja_cons (je_var (pv 4)) ja_nil))) ja_nil)))))
    (jb_cons (js_set (i := 6) nd rfl (by first | exact .inl rfl | exact .inr rfl) (je_lst ja_nil))
    (jb_cons (js_set (i := 7) nd rfl (by first | exact .inl rfl | exact .inr rfl) (je_op op_subM (je_var (pv 2)) (je_var (pv 3))))
    (jb_cons (js_for hp rfl (ji_range rfl T.b_range (ja_cons je_int ja_nil)) (jg_name (i := 8) nd rfl (by first | exact .inl rfl | exact .inr rfl))
    (jb_cons (js_if (jt_cmp op_eqM (je_var (pv 7)) je_int (nomark _)) (jb_one js_break) jb_nil)
    (jb_cons (js_set (i := 9) nd rfl (by first | exact .inl rfl | exact .inr rfl) (je_cb (call_min2M rfl) rfl T.b_min (by decide +kernel) (ja_cons (je_var (pv 7)) (ja_cons (je_op op_addM je_int (je_def D__law_draw (hr.mono (by omega)) rfl tk (ja_cons (je_var (pv 0)) (ja_cons je_int ja_nil)))) ja_nil))))
    (jb_cons (js_set (i := 10) nd rfl (by first | exact .inl rfl | exact .inr rfl) (je_ix ix_M (je_var (pv 1)) (je_def D__law_draw (hr.mono (by omega)) rfl tk (ja_cons (je_var (pv 0)) (ja_cons (je_cb call_lenM rfl T.b_len (by decide +kernel) (ja_cons (je_var (pv 1)) ja_nil)) ja_nil))) (fun _ _ => rfl)))
    (jb_cons (js_expr (je_bm PySem.F.plainAttrs_list PySem.F.slot_list_append PySem.F.type_list_append mt_appendM (je_var (pv 6)) (ja_cons (je_tup (ja_cons (je_var (pv 10)) (ja_cons (je_ct call_tupM rfl T.b_tuple (by decide +kernel) (ja_cons (je_lc (own := [("k", 5)]) (gT := (gName 5)) rfl nd (ji_range rfl T.b_range (ja_cons (je_op op_subM (je_var (pv 9)) je_int) ja_nil)) (blkOk_by (N := N__law_great) (sc := defScope s__law_great) (by decide +kernel)) (gok_name (by simp)) (fun _ _ _ _ _ => pg_name (i := 5) nd rfl (by first | exact .inl rfl | exact .inr rfl)) (fun _ _ _ _ _ => jts_nil) (fun _ _ _ _ _ => (je_tup (ja_cons (je_ix ix_M (je_var (pv 1)) (je_op op_modM (je_ct call_intM rfl T.b_int (by decide +kernel) (ja_cons (je_var (pv 5)) ja_nil)) (je_cb call_lenM rfl T.b_len (by decide +kernel) (ja_cons (je_var (pv 1)) ja_nil))) (fun _ _ => rfl)) (ja_cons (je_tup ja_nil) ja_nil))))) ja_nil)) ja_nil))) ja_nil)))
    (jb_one (js_set (i := 7) nd rfl (by first | exact .inl rfl | exact .inr rfl) (je_op op_subM (je_var (pv 7)) (je_var (pv 9))))))))))
    (jb_cons (js_set (i := 11) nd rfl (by first | exact .inl rfl | exact .inr rfl) (je_def D__law_draw (hr.mono (by omega)) rfl tk (ja_cons (je_var (pv 0)) (ja_cons (je_op op_addM (je_cb call_lenM rfl T.b_len (by decide +kernel) (ja_cons (je_var (pv 6)) ja_nil)) je_int) ja_nil))))
    (jb_one (js_ret (je_op op_addM (je_op op_addM (je_ct call_tupM rfl T.b_tuple (by decide +kernel) (ja_cons (je_sl (je_var (pv 6)) jo_none (jo_some (je_var (pv 11)))) ja_nil)) (je_var (pv 4))) (je_ct call_tupM rfl T.b_tuple (by decide +kernel) (ja_cons (je_sl (je_var (pv 6)) (jo_some (je_var (pv 11))) jo_none) ja_nil)))))))))))

abbrev s__law_laid : Stmt := topS 30

theorem sc__law_laid : FnScope N__law_laid ["state", "tokens_v", "gaps"] (defScope s__law_laid) := ⟨rfl, rfl, rfl, by decide +kernel, rfl, by decide +kernel, by decide +kernel⟩

theorem der__law_laid {P : Program} {w : World} {K : Frg} {mg : Str → Option Value} {base : Heap} {cl : Str → Addr} {f : Addr} {k : Nat} (T : Txt K mg cl) {j__law_draw : Nat} (h__law_draw : j__law_draw ≤ k) (D__law_draw : Def P w K mg base "_law_draw" j__law_draw ["state", "many"] sp__law_draw)
    (cdv : Value) (A : Around) (outer : List Env) (s : Shared) (H : Hp) (E : XK) (hr : Room k (A.deeper (envOfC "_law_laid" (defScope s__law_laid) s.heap.objs.size f cdv))) :
    JB (cxOf (L2.CX P w) P w K mg base N__law_laid "_law_laid" (defScope s__law_laid) f cdv A outer s H E) (fun cls d _ H => E cls d H) (defBody s__law_laid) m__law_laid := by
  have tk : Takes (cxOf (L2.CX P w) P w K mg base N__law_laid "_law_laid" (defScope s__law_laid) f cdv A outer s H E) (fun cls d _ H => E cls d H) := takes_of rfl rfl rfl rfl
  have hp : PassesOwn (model P w) (cxOf (L2.CX P w) P w K mg base N__law_laid "_law_laid" (defScope s__law_laid) f cdv A outer s H E).A (cxOf (L2.CX P w) P w K mg base N__law_laid "_law_laid" (defScope s__law_laid) f cdv A outer s H E).env (cxOf (L2.CX P w) P w K mg base N__law_laid "_law_laid" (defScope s__law_laid) f cdv A outer s H E).xe := passes_of rfl
  have nd := sc__law_laid.nd
  unfold m__law_laid
  exact (jb_cons (js_set (i := 3) nd rfl (by first | exact .inl rfl | exact .inr rfl) (je_lst (ja_cons (je_ix ix_M (je_var (pv 2)) (je_def D__law_draw (hr.mono (by omega)) rfl tk (ja_cons (je_var (pv 0)) (ja_cons (je_cb call_lenM rfl T.b_len (by decide +kernel) (ja_cons (je_var (pv 2)) ja_nil)) ja_nil))) (fun _ _ => rfl)) ja_nil)))
    (jb_cons (js_for hp rfl (ji_range rfl T.b_range (ja_cons (je_cb call_lenM rfl T.b_len (by decide +kernel) (ja_cons (je_var (pv 1)) ja_nil)) ja_nil)) (jg_name (i := 4) nd rfl (by first | exact .inl rfl | exact .inr rfl))
    (jb_cons (js_expr (je_bm PySem.F.plainAttrs_list PySem.F.slot_list_append PySem.F.type_list_append mt_appendM (je_var (pv 3)) (ja_cons (je_ix ix_M (je_var (pv 1)) (je_var (pv 4)) (fun _ _ => rfl)) ja_nil)))
    (jb_cons (js_set (i := 5) nd rfl (by first | exact .inl rfl | exact .inr rfl) (je_ix ix_M (je_var (pv 2)) (je_def D__law_draw (hr.mono (by omega)) rfl tk (ja_cons (je_var (pv 0)) (ja_cons (je_cb call_lenM rfl T.b_len (by decide +kernel) (ja_cons (je_var (pv 2)) ja_nil)) ja_nil))) (fun _ _ => rfl)))
    (jb_cons (js_if (PW.pt (jw_and (jt_cmp op_eqM (je_var (pv 5)) je_str (nomark _)) (jw_and (jt_cmp op_ltM (je_op op_addM (je_var (pv 4)) je_int) (je_cb call_lenM rfl T.b_len (by decide +kernel) (ja_cons (je_var (pv 1)) ja_nil)) (nomark _)) (jw_and (jt_cmp op_notInM (je_ix ix_M (je_var (pv 1)) (je_var (pv 4)) (fun _ _ => rfl)) je_str (by rfl)) (jw_and1 (jt_cmp op_notInM (je_ix ix_M (je_var (pv 1)) (je_op op_addM (je_var (pv 4)) je_int) (fun _ _ => rfl)) je_str (by rfl))))))) (jb_one (js_set (i := 5) nd rfl (by first | exact .inl rfl | exact .inr rfl) (je_ix ix_M (je_lst (ja_cons je_str (ja_cons je_str ja_nil))) (je_def D__law_draw (hr.mono (by omega)) rfl tk (ja_cons (je_var (pv 0)) (ja_cons je_int ja_nil))) (fun _ _ => rfl)))) jb_nil)
    (jb_one (js_expr (je_bm PySem.F.plainAttrs_list PySem.F.slot_list_append PySem.F.type_list_append mt_appendM (je_var (pv 3)) (ja_cons (je_var (pv 5)) ja_nil))))))))
    (jb_one (js_ret (je_bm PySem.F.plainAttrs_str PySem.F.slot_str_join PySem.F.type_str_join mt_joinM je_str (ja_cons (je_var (pv 3)) ja_nil))))))

abbrev s_name_end : Stmt := topS 14

theorem sc_name_end : FnScope N_name_end ["text", "at"] (defScope s_name_end) := ⟨rfl, rfl, rfl, by decide +kernel, rfl, by decide +kernel, by decide +kernel⟩

theorem der_name_end {P : Program} {w : World} {K : Frg} {mg : Str → Option Value} {base : Heap} {cl : Str → Addr} {f : Addr} {k : Nat} (T : Txt K mg cl)
    (cdv : Value) (A : Around) (outer : List Env) (s : Shared) (H : Hp) (E : XK) (hr : Room k (A.deeper (envOfC "name_end" (defScope s_name_end) s.heap.objs.size f cdv))) :
    JB (cxOf (L2.CX P w) P w K mg base N_name_end "name_end" (defScope s_name_end) f cdv A outer s H E) (fun cls d _ H => E cls d H) (defBody s_name_end) m_name_end := by
  have tk : Takes (cxOf (L2.CX P w) P w K mg base N_name_end "name_end" (defScope s_name_end) f cdv A outer s H E) (fun cls d _ H => E cls d H) := takes_of rfl rfl rfl rfl
  have hp : PassesOwn (model P w) (cxOf (L2.CX P w) P w K mg base N_name_end "name_end" (defScope s_name_end) f cdv A outer s H E).A (cxOf (L2.CX P w) P w K mg base N_name_end "name_end" (defScope s_name_end) f cdv A outer s H E).env (cxOf (L2.CX P w) P w K mg base N_name_end "name_end" (defScope s_name_end) f cdv A outer s H E).xe := passes_of rfl
  have nd := sc_name_end.nd
  unfold m_name_end
  exact (jb_cons (js_set (i := 2) nd rfl (by first | exact .inl rfl | exact .inr rfl) (je_var (pv 1)))
    (jb_cons (js_while hp (PW.pt (jw_and (jt_cmp op_ltM (je_var (pv 2)) (je_cb call_lenM rfl T.b_len (by decide +kernel) (ja_cons (je_var (pv 0)) ja_nil)) (nomark _)) (jw_and1 (jt_cmp op_inM (je_ix ix_M (je_var (pv 0)) (je_var (pv 2)) (fun _ _ => rfl)) (je_globS' rfl T.c_WITHIN) (by rfl)))))
    (jb_one (js_aug (i := 2) nd rfl (by first | exact .inl rfl | exact .inr rfl) je_int iop_addM)))
    (jb_one (js_ret (je_var (pv 2))))))

abbrev s_token_at : Stmt := topS 15

theorem sc_token_at : FnScope N_token_at ["text", "at", "project"] (defScope s_token_at) := ⟨rfl, rfl, rfl, by decide +kernel, rfl, by decide +kernel, by decide +kernel⟩

theorem der_token_at {P : Program} {w : World} {K : Frg} {mg : Str → Option Value} {base : Heap} {cl : Str → Addr} {f : Addr} {k : Nat} (T : Txt K mg cl) {j_name_end : Nat} (h_name_end : j_name_end ≤ k) (D_name_end : Def P w K mg base "name_end" j_name_end ["text", "at"] sp_name_end)
    (cdv : Value) (A : Around) (outer : List Env) (s : Shared) (H : Hp) (E : XK) (hr : Room k (A.deeper (envOfC "token_at" (defScope s_token_at) s.heap.objs.size f cdv))) :
    JB (cxOf (L2.CX P w) P w K mg base N_token_at "token_at" (defScope s_token_at) f cdv A outer s H E) (fun cls d _ H => E cls d H) (defBody s_token_at) m_token_at := by
  have tk : Takes (cxOf (L2.CX P w) P w K mg base N_token_at "token_at" (defScope s_token_at) f cdv A outer s H E) (fun cls d _ H => E cls d H) := takes_of rfl rfl rfl rfl
  have hp : PassesOwn (model P w) (cxOf (L2.CX P w) P w K mg base N_token_at "token_at" (defScope s_token_at) f cdv A outer s H E).A (cxOf (L2.CX P w) P w K mg base N_token_at "token_at" (defScope s_token_at) f cdv A outer s H E).env (cxOf (L2.CX P w) P w K mg base N_token_at "token_at" (defScope s_token_at) f cdv A outer s H E).xe := passes_of rfl
  have nd := sc_token_at.nd
  unfold m_token_at
  exact (jb_cons (js_set (i := 3) nd rfl (by first | exact .inl rfl | exact .inr rfl) (je_ix ix_M (je_var (pv 0)) (je_var (pv 1)) (fun _ _ => rfl)))
    (jb_cons (js_if (PW.pt (jw_or (jt_cmp op_inM (je_var (pv 3)) (je_globS' rfl T.c_SMALL) (by rfl)) (jw_or1 (jt_cmp op_inM (je_var (pv 3)) (je_globS' rfl T.c_GREAT) (by rfl))))) (jb_cons (js_set (i := 4) nd rfl (by first | exact .inl rfl | exact .inr rfl) (je_sl (je_var (pv 0)) (jo_some (je_var (pv 1))) (jo_some (je_def D_name_end (hr.mono (by omega)) rfl tk (ja_cons (je_var (pv 0)) (ja_cons (je_var (pv 1)) ja_nil))))))
    (jb_cons (js_if (PW.pt (jw_and (jt_tru (je_var (pv 2))) (jw_and1 (jt_cmp op_inM (je_var (pv 4)) je_neverE (by rfl))))) (jb_one (js_ret (je_tup (ja_cons (je_var (pv 4)) (ja_cons (je_var (pv 4)) ja_nil))))) jb_nil)
    (jb_one (js_ret (je_tup (ja_cons (je_if (jt_cmp op_inM (je_var (pv 3)) (je_globS' rfl T.c_SMALL) (by rfl)) je_str je_str) (ja_cons (je_var (pv 4)) ja_nil))))))) jb_nil)
    (jb_cons (js_if (PW.pt (jw_and (jt_tru (je_var (pv 2))) (jw_and1 (jt_cmp op_eqM (je_sl (je_var (pv 0)) (jo_some (je_var (pv 1))) (jo_some (je_op op_addM (je_var (pv 1)) je_int))) je_str (nomark _))))) (jb_one (js_ret (je_tup (ja_cons je_str (ja_cons je_str ja_nil))))) jb_nil)
    (jb_cons (js_if (jt_cmp op_inM (je_var (pv 3)) (je_if (jt_tru (je_var (pv 2))) (je_globS' rfl T.c_PROJECT_SIGNS) (je_globS' rfl T.c_FOREST_SIGNS)) (by rfl)) (jb_one (js_ret (je_tup (ja_cons (je_var (pv 3)) (ja_cons (je_var (pv 3)) ja_nil))))) jb_nil)
    (jb_one (js_ret (je_tup (ja_cons je_str (ja_cons (je_var (pv 3)) ja_nil)))))))))

abbrev s_tokens : Stmt := topS 17

theorem sc_tokens : FnScope N_tokens ["text", "project"] (defScope s_tokens) := ⟨rfl, rfl, rfl, by decide +kernel, rfl, by decide +kernel, by decide +kernel⟩

theorem der_tokens {P : Program} {w : World} {K : Frg} {mg : Str → Option Value} {base : Heap} {cl : Str → Addr} {f : Addr} {k : Nat} (T : Txt K mg cl) {j_token_at : Nat} (h_token_at : j_token_at ≤ k) (D_token_at : Def P w K mg base "token_at" j_token_at ["text", "at", "project"] sp_token_at)
    (cdv : Value) (A : Around) (outer : List Env) (s : Shared) (H : Hp) (E : XK) (hr : Room k (A.deeper (envOfC "tokens" (defScope s_tokens) s.heap.objs.size f cdv))) :
    JB (cxOf (L2.CX P w) P w K mg base N_tokens "tokens" (defScope s_tokens) f cdv A outer s H E) (fun cls d _ H => E cls d H) (defBody s_tokens) m_tokens := by
  have tk : Takes (cxOf (L2.CX P w) P w K mg base N_tokens "tokens" (defScope s_tokens) f cdv A outer s H E) (fun cls d _ H => E cls d H) := takes_of rfl rfl rfl rfl
  have hp : PassesOwn (model P w) (cxOf (L2.CX P w) P w K mg base N_tokens "tokens" (defScope s_tokens) f cdv A outer s H E).A (cxOf (L2.CX P w) P w K mg base N_tokens "tokens" (defScope s_tokens) f cdv A outer s H E).env (cxOf (L2.CX P w) P w K mg base N_tokens "tokens" (defScope s_tokens) f cdv A outer s H E).xe := passes_of rfl
  have nd := sc_tokens.nd
  unfold m_tokens
  exact (jb_cons (js_set (i := 2) nd rfl (by first | exact .inl rfl | exact .inr rfl) (je_lst ja_nil))
    (jb_cons (js_set (i := 3) nd rfl (by first | exact .inl rfl | exact .inr rfl) je_int)
    (jb_cons (js_set (i := 4) nd rfl (by first | exact .inl rfl | exact .inr rfl) je_int)
    (jb_cons (js_set (i := 5) nd rfl (by first | exact .inl rfl | exact .inr rfl) je_int)
    (jb_cons (js_while hp (jt_cmp op_ltM (je_var (pv 5)) (je_cb call_lenM rfl T.b_len (by decide +kernel) (ja_cons (je_var (pv 0)) ja_nil)) (nomark _))
    (jb_one (js_if (jt_cmp op_eqM (je_ix ix_M (je_var (pv 0)) (je_var (pv 5)) (fun _ _ => rfl)) je_str (nomark _)) (jb_cons (js_aug (i := 3) nd rfl (by first | exact .inl rfl | exact .inr rfl) je_int iop_addM)
    (jb_cons (js_aug (i := 5) nd rfl (by first | exact .inl rfl | exact .inr rfl) je_int iop_addM)
    (jb_one (js_set (i := 4) nd rfl (by first | exact .inl rfl | exact .inr rfl) (je_var (pv 5)))))) (jb_one (js_if (jt_cmp op_eqM (je_ix ix_M (je_var (pv 0)) (je_var (pv 5)) (fun _ _ => rfl)) je_str (nomark _)) (jb_one (js_aug (i := 5) nd rfl (by first | exact .inl rfl | exact .inr rfl) je_int iop_addM)) (jb_one (js_if (PW.pt (jw_and (jt_tru (je_var (pv 1))) (jw_and1 (jt_cmp op_eqM (je_ix ix_M (je_var (pv 0)) (je_var (pv 5)) (fun _ _ => rfl)) je_str (nomark _))))) (jb_cons (js_set (i := 5) nd rfl (by first | exact .inl rfl | exact .inr rfl) je_neverE)
    (jb_one (js_if (PW.pt (jw_and (jt_cmp op_ltM (je_var (pv 5)) (je_cb call_lenM rfl T.b_len (by decide +kernel) (ja_cons (je_var (pv 0)) ja_nil)) (nomark _)) (jw_and1 (jt_cmp op_neM (je_ix ix_M (je_var (pv 0)) (je_var (pv 5)) (fun _ _ => rfl)) je_str (nomark _))))) (jb_cons (js_expr (je_bm PySem.F.plainAttrs_list PySem.F.slot_list_append PySem.F.type_list_append mt_appendM (je_var (pv 2)) (ja_cons (je_tup (ja_cons je_str (ja_cons (je_ix ix_M (je_var (pv 0)) (je_var (pv 5)) (fun _ _ => rfl)) (ja_cons (je_var (pv 3)) (ja_cons (je_op op_addM (je_op op_subM (je_var (pv 5)) (je_var (pv 4))) je_int) ja_nil))))) ja_nil)))
    (jb_one (js_ret (je_var (pv 2))))) jb_nil))) (jb_cons (js_asg (je_def D_token_at (hr.mono (by omega)) rfl tk (ja_cons (je_var (pv 0)) (ja_cons (je_var (pv 5)) (ja_cons (je_var (pv 1)) ja_nil)))) (jg_tup rfl (jgs_cons (jg_name (i := 6) nd rfl (by first | exact .inl rfl | exact .inr rfl)) (jgs_cons (jg_name (i := 7) nd rfl (by first | exact .inl rfl | exact .inr rfl)) jgs_nil))))
    (jb_cons (js_expr (je_bm PySem.F.plainAttrs_list PySem.F.slot_list_append PySem.F.type_list_append mt_appendM (je_var (pv 2)) (ja_cons (je_tup (ja_cons (je_var (pv 6)) (ja_cons (je_var (pv 7)) (ja_cons (je_var (pv 3)) (ja_cons (je_op op_addM (je_op op_subM (je_var (pv 5)) (je_var (pv 4))) je_int) ja_nil))))) ja_nil)))
    (jb_cons (js_if (jt_cmp op_eqM (je_var (pv 6)) je_str (nomark _)) (jb_one (js_ret (je_var (pv 2)))) jb_nil)
    (jb_one (js_aug (i := 5) nd rfl (by first | exact .inl rfl | exact .inr rfl) (je_cb call_lenM rfl T.b_len (by decide +kernel) (ja_cons (je_var (pv 7)) ja_nil)) iop_addM))))))))))))
    (jb_cons (js_expr (je_bm PySem.F.plainAttrs_list PySem.F.slot_list_append PySem.F.type_list_append mt_appendM (je_var (pv 2)) (ja_cons (je_tup (ja_cons je_str (ja_cons je_str (ja_cons (je_var (pv 3)) (ja_cons (je_op op_addM (je_op op_subM (je_cb call_lenM rfl T.b_len (by decide +kernel) (ja_cons (je_var (pv 0)) ja_nil)) (je_var (pv 4))) je_int) ja_nil))))) ja_nil)))
    (jb_one (js_ret (je_var (pv 2))))))))))

abbrev s_read_forest : Stmt := topS 19

theorem sc_read_forest : FnScope N_read_forest ["text"] (defScope s_read_forest) := ⟨rfl, rfl, rfl, by decide +kernel, rfl, by decide +kernel, by decide +kernel⟩

theorem der_read_forest {P : Program} {w : World} {K : Frg} {mg : Str → Option Value} {base : Heap} {cl : Str → Addr} {f : Addr} {k : Nat} (T : Txt K mg cl) {j_tokens : Nat} (h_tokens : j_tokens ≤ k) (D_tokens : Def P w K mg base "tokens" j_tokens ["text", "project"] sp_tokens)
    (cdv : Value) (A : Around) (outer : List Env) (s : Shared) (H : Hp) (E : XK) (hr : Room k (A.deeper (envOfC "read_forest" (defScope s_read_forest) s.heap.objs.size f cdv))) :
    JB (cxOf (L2.CX P w) P w K mg base N_read_forest "read_forest" (defScope s_read_forest) f cdv A outer s H E) (fun cls d _ H => E cls d H) (defBody s_read_forest) m_read_forest := by
  have tk : Takes (cxOf (L2.CX P w) P w K mg base N_read_forest "read_forest" (defScope s_read_forest) f cdv A outer s H E) (fun cls d _ H => E cls d H) := takes_of rfl rfl rfl rfl
  have hp : PassesOwn (model P w) (cxOf (L2.CX P w) P w K mg base N_read_forest "read_forest" (defScope s_read_forest) f cdv A outer s H E).A (cxOf (L2.CX P w) P w K mg base N_read_forest "read_forest" (defScope s_read_forest) f cdv A outer s H E).env (cxOf (L2.CX P w) P w K mg base N_read_forest "read_forest" (defScope s_read_forest) f cdv A outer s H E).xe := passes_of rfl
  have nd := sc_read_forest.nd
  unfold m_read_forest
  exact (jb_cons (js_set (i := 1) nd rfl (by first | exact .inl rfl | exact .inr rfl) (je_lst (ja_cons (je_lst ja_nil) ja_nil)))
    (jb_cons (js_set (i := 2) nd rfl (by first | exact .inl rfl | exact .inr rfl) (je_lst ja_nil))
    (jb_cons (js_set (i := 3) nd rfl (by first | exact .inl rfl | exact .inr rfl) je_int)
    (jb_cons (js_set (i := 4) nd rfl (by first | exact .inl rfl | exact .inr rfl) je_bl)
    (jb_cons (js_for hp rfl (ji_seq (je_def D_tokens (hr.mono (by omega)) rfl tk (ja_cons (je_var (pv 0)) (ja_cons je_bl ja_nil)))) (jg_tup rfl (jgs_cons (jg_name (i := 5) nd rfl (by first | exact .inl rfl | exact .inr rfl)) (jgs_cons (jg_name (i := 6) nd rfl (by first | exact .inl rfl | exact .inr rfl)) (jgs_cons (jg_name (i := 7) nd rfl (by first | exact .inl rfl | exact .inr rfl)) (jgs_cons (jg_name (i := 8) nd rfl (by first | exact .inl rfl | exact .inr rfl)) jgs_nil)))))
    (jb_cons (js_if (PW.pt (jw_and (jt_cmp op_eqM (je_var (pv 5)) je_str (nomark _)) (jw_and (jt_cmp op_ltM (je_var (pv 3)) (je_globI' rfl T.c_MOST_TREES) (nomark _)) (jw_and1 (jt_cmp op_leM (je_cb call_lenM rfl T.b_len (by decide +kernel) (ja_cons (je_var (pv 1)) ja_nil)) (je_globI' rfl T.c_MOST_DEEP) (nomark _)))))) (jb_cons (js_expr (je_bm PySem.F.plainAttrs_list PySem.F.slot_list_append PySem.F.type_list_append mt_appendM (je_ix ix_M (je_var (pv 1)) (je_un un_negM je_int) (fun _ _ => rfl)) (ja_cons (je_tup (ja_cons (je_var (pv 6)) (ja_cons (je_tup ja_nil) ja_nil))) ja_nil)))
    (jb_one (js_aug (i := 3) nd rfl (by first | exact .inl rfl | exact .inr rfl) je_int iop_addM))) (jb_one (js_if (PW.pt (jw_and (jt_cmp op_eqM (je_var (pv 5)) je_str (nomark _)) (jw_and1 (jt_tru (je_var (pv 4)))))) (jb_cons (js_set (i := 9) nd rfl (by first | exact .inl rfl | exact .inr rfl) (je_bm0 PySem.F.plainAttrs_list PySem.F.slot_list_pop PySem.F.type_list_pop mt_popM (je_ix ix_M (je_var (pv 1)) (je_un un_negM je_int) (fun _ _ => rfl))))
    (jb_cons (js_expr (je_bm PySem.F.plainAttrs_list PySem.F.slot_list_append PySem.F.type_list_append mt_appendM (je_var (pv 2)) (ja_cons (je_ix ix_M (je_var (pv 9)) je_int (fun _ _ => rfl)) ja_nil)))
    (jb_one (js_expr (je_bm PySem.F.plainAttrs_list PySem.F.slot_list_append PySem.F.type_list_append mt_appendM (je_var (pv 1)) (ja_cons (je_lst ja_nil) ja_nil)))))) (jb_one (js_if (PW.pt (jw_and (jt_cmp op_eqM (je_var (pv 5)) je_str (nomark _)) (jw_and1 (jt_tru (je_var (pv 2)))))) (jb_cons (js_set (i := 10) nd rfl (by first | exact .inl rfl | exact .inr rfl) (je_ct call_tupM rfl T.b_tuple (by decide +kernel) (ja_cons (je_bm0 PySem.F.plainAttrs_list PySem.F.slot_list_pop PySem.F.type_list_pop mt_popM (je_var (pv 1))) ja_nil)))
    (jb_one (js_expr (je_bm PySem.F.plainAttrs_list PySem.F.slot_list_append PySem.F.type_list_append mt_appendM (je_ix ix_M (je_var (pv 1)) (je_un un_negM je_int) (fun _ _ => rfl)) (ja_cons (je_tup (ja_cons (je_bm0 PySem.F.plainAttrs_list PySem.F.slot_list_pop PySem.F.type_list_pop mt_popM (je_var (pv 2))) (ja_cons (je_var (pv 10)) ja_nil))) ja_nil))))) (jb_one (js_if (PW.pt (jw_or (jt_cmp op_neM (je_var (pv 5)) je_str (nomark _)) (jw_or1 (jt_tru (je_var (pv 2)))))) (jb_one js_never) jb_nil)))))))
    (jb_one (js_set (i := 4) nd rfl (by first | exact .inl rfl | exact .inr rfl) (je_cmp op_eqM (je_var (pv 5)) je_str (nomark _))))))
    (jb_one (js_ret (je_ct call_tupM rfl T.b_tuple (by decide +kernel) (ja_cons (je_ix ix_M (je_var (pv 1)) je_int (fun _ _ => rfl)) ja_nil)))))))))

abbrev s__law_same : Stmt := topS 27

theorem sc__law_same : FnScope N__law_same ["actual", "due"] (defScope s__law_same) := ⟨rfl, rfl, rfl, by decide +kernel, rfl, by decide +kernel, by decide +kernel⟩

theorem der__law_same {P : Program} {w : World} {K : Frg} {mg : Str → Option Value} {base : Heap} {cl : Str → Addr} {f : Addr} {k : Nat} (T : Txt K mg cl) {self : MSp} (D__law_same : Def P w K mg base "_law_same" k ["actual", "due"] self)
    (cdv : Value) (A : Around) (outer : List Env) (s : Shared) (H : Hp) (E : XK) (hr : Room k (A.deeper (envOfC "_law_same" (defScope s__law_same) s.heap.objs.size f cdv))) :
    JB (cxOf (L2.CX P w) P w K mg base N__law_same "_law_same" (defScope s__law_same) f cdv A outer s H E) (fun cls d _ H => E cls d H) (defBody s__law_same) (m__law_same self) := by
  have tk : Takes (cxOf (L2.CX P w) P w K mg base N__law_same "_law_same" (defScope s__law_same) f cdv A outer s H E) (fun cls d _ H => E cls d H) := takes_of rfl rfl rfl rfl
  have hp : PassesOwn (model P w) (cxOf (L2.CX P w) P w K mg base N__law_same "_law_same" (defScope s__law_same) f cdv A outer s H E).A (cxOf (L2.CX P w) P w K mg base N__law_same "_law_same" (defScope s__law_same) f cdv A outer s H E).env (cxOf (L2.CX P w) P w K mg base N__law_same "_law_same" (defScope s__law_same) f cdv A outer s H E).xe := passes_of rfl
  have nd := sc__law_same.nd
  unfold m__law_same
  exact (jb_cons (js_if (jt_tru (je_isi (je_var (pv 1)) rfl T.b_isinstance (by decide +kernel) rfl T.b_tuple (by decide +kernel))) (jb_cons (js_if (PW.pt (jw_or (jt_not (jt_tru (je_isi (je_var (pv 0)) rfl T.b_isinstance (by decide +kernel) rfl T.b_tuple (by decide +kernel)))) (jw_or1 (jt_cmp op_neM (je_cb call_lenM rfl T.b_len (by decide +kernel) (ja_cons (je_var (pv 0)) ja_nil)) (je_cb call_lenM rfl T.b_len (by decide +kernel) (ja_cons (je_var (pv 1)) ja_nil)) (nomark _))))) (jb_one (js_ret je_bl)) jb_nil)
    (jb_cons (js_for hp rfl (ji_range rfl T.b_range (ja_cons (je_cb call_lenM rfl T.b_len (by decide +kernel) (ja_cons (je_var (pv 1)) ja_nil)) ja_nil)) (jg_name (i := 2) nd rfl (by first | exact .inl rfl | exact .inr rfl))
    (jb_one (js_if (jt_not (jt_tru (je_def D__law_same hr rfl tk (ja_cons (je_ix ix_M (je_var (pv 0)) (je_var (pv 2)) (fun _ _ => rfl)) (ja_cons (je_ix ix_M (je_var (pv 1)) (je_var (pv 2)) (fun _ _ => rfl)) ja_nil))))) (jb_one (js_ret je_bl)) jb_nil)))
    (jb_one (js_ret je_bl)))) jb_nil)
    (jb_cons (js_if (jt_cmp op_isM (je_var (pv 1)) je_non (nomark _)) (jb_one (js_ret (je_cmp op_isM (je_var (pv 0)) je_non (nomark _)))) jb_nil)
    (jb_cons (js_if (jt_tru (je_isi (je_var (pv 1)) rfl T.b_isinstance (by decide +kernel) rfl T.b_str (by decide +kernel))) (jb_one (js_ret (je_and (je_isi (je_var (pv 0)) rfl T.b_isinstance (by decide +kernel) rfl T.b_str (by decide +kernel)) (je_one (je_cmp op_eqM (je_var (pv 0)) (je_var (pv 1)) (nomark _)))))) jb_nil)
    (jb_one (js_ret (je_and (je_isi (je_var (pv 0)) rfl T.b_isinstance (by decide +kernel) rfl T.b_int (by decide +kernel)) (je_and (je_not (je_isi (je_var (pv 0)) rfl T.b_isinstance (by decide +kernel) rfl T.b_bool (by decide +kernel))) (je_one (je_cmp op_eqM (je_var (pv 0)) (je_var (pv 1)) (nomark _))))))))))

abbrev s_steps : Stmt := topS 9

theorem sc_steps : FnScope N_steps ["forest"] (defScope s_steps) := ⟨rfl, rfl, rfl, by decide +kernel, rfl, by decide +kernel, by decide +kernel⟩

theorem der_steps {P : Program} {w : World} {K : Frg} {mg : Str → Option Value} {base : Heap} {cl : Str → Addr} {f : Addr} {k : Nat} (T : Txt K mg cl)
    (cdv : Value) (A : Around) (outer : List Env) (s : Shared) (H : Hp) (E : XK) (hr : Room k (A.deeper (envOfC "steps" (defScope s_steps) s.heap.objs.size f cdv))) :
    JB (cxOf (L2.CX P w) P w K mg base N_steps "steps" (defScope s_steps) f cdv A outer s H E) (fun cls d _ H => E cls d H) (defBody s_steps) m_steps := by
  have tk : Takes (cxOf (L2.CX P w) P w K mg base N_steps "steps" (defScope s_steps) f cdv A outer s H E) (fun cls d _ H => E cls d H) := takes_of rfl rfl rfl rfl
  have hp : PassesOwn (model P w) (cxOf (L2.CX P w) P w K mg base N_steps "steps" (defScope s_steps) f cdv A outer s H E).A (cxOf (L2.CX P w) P w K mg base N_steps "steps" (defScope s_steps) f cdv A outer s H E).env (cxOf (L2.CX P w) P w K mg base N_steps "steps" (defScope s_steps) f cdv A outer s H E).xe := passes_of rfl
  have nd := sc_steps.nd
  unfold m_steps
  exact (jb_cons (js_set (i := 1) nd rfl (by first | exact .inl rfl | exact .inr rfl) (je_lst ja_nil))
    (jb_cons (js_set (i := 2) nd rfl (by first | exact .inl rfl | exact .inr rfl) (je_lst (ja_cons (je_tup (ja_cons (je_var (pv 0)) (ja_cons je_int ja_nil))) ja_nil)))
    (jb_cons (js_while hp (jt_tru (je_var (pv 2)))
    (jb_cons (js_asg (je_bm0 PySem.F.plainAttrs_list PySem.F.slot_list_pop PySem.F.type_list_pop mt_popM (je_var (pv 2))) (jg_tup rfl (jgs_cons (jg_name (i := 3) nd rfl (by first | exact .inl rfl | exact .inr rfl)) (jgs_cons (jg_name (i := 4) nd rfl (by first | exact .inl rfl | exact .inr rfl)) jgs_nil))))
    (jb_one (js_if (jt_cmp op_ltM (je_var (pv 4)) (je_cb call_lenM rfl T.b_len (by decide +kernel) (ja_cons (je_var (pv 3)) ja_nil)) (nomark _)) (jb_cons (js_expr (je_bm PySem.F.plainAttrs_list PySem.F.slot_list_append PySem.F.type_list_append mt_appendM (je_var (pv 2)) (ja_cons (je_tup (ja_cons (je_var (pv 3)) (ja_cons (je_op op_addM (je_var (pv 4)) je_int) ja_nil))) ja_nil)))
    (jb_cons (js_asg (je_ix ix_M (je_var (pv 3)) (je_var (pv 4)) (fun _ _ => rfl)) (jg_tup rfl (jgs_cons (jg_name (i := 5) nd rfl (by first | exact .inl rfl | exact .inr rfl)) (jgs_cons (jg_name (i := 6) nd rfl (by first | exact .inl rfl | exact .inr rfl)) jgs_nil))))
    (jb_cons (js_expr (je_bm PySem.F.plainAttrs_list PySem.F.slot_list_append PySem.F.type_list_append mt_appendM (je_var (pv 1)) (ja_cons (je_var (pv 5)) ja_nil)))
    (jb_one (js_expr (je_bm PySem.F.plainAttrs_list PySem.F.slot_list_append PySem.F.type_list_append mt_appendM (je_var (pv 2)) (ja_cons (je_tup (ja_cons (je_var (pv 6)) (ja_cons je_int ja_nil))) ja_nil))))))) (jb_one (js_if (jt_tru (je_var (pv 2))) (jb_one (js_expr (je_bm PySem.F.plainAttrs_list PySem.F.slot_list_append PySem.F.type_list_append mt_appendM (je_var (pv 1)) (ja_cons je_non ja_nil)))) jb_nil))))))
    (jb_one (js_ret (je_var (pv 1)))))))

abbrev s_write_forest : Stmt := topS 20

theorem sc_write_forest : FnScope N_write_forest ["forest"] (defScope s_write_forest) := ⟨rfl, rfl, rfl, by decide +kernel, rfl, by decide +kernel, by decide +kernel⟩

theorem der_write_forest {P : Program} {w : World} {K : Frg} {mg : Str → Option Value} {base : Heap} {cl : Str → Addr} {f : Addr} {k : Nat} (T : Txt K mg cl) {j_steps : Nat} (h_steps : j_steps ≤ k) (D_steps : Def P w K mg base "steps" j_steps ["forest"] sp_steps)
    (cdv : Value) (A : Around) (outer : List Env) (s : Shared) (H : Hp) (E : XK) (hr : Room k (A.deeper (envOfC "write_forest" (defScope s_write_forest) s.heap.objs.size f cdv))) :
    JB (cxOf (L2.CX P w) P w K mg base N_write_forest "write_forest" (defScope s_write_forest) f cdv A outer s H E) (fun cls d _ H => E cls d H) (defBody s_write_forest) m_write_forest := by
  have tk : Takes (cxOf (L2.CX P w) P w K mg base N_write_forest "write_forest" (defScope s_write_forest) f cdv A outer s H E) (fun cls d _ H => E cls d H) := takes_of rfl rfl rfl rfl
  have hp : PassesOwn (model P w) (cxOf (L2.CX P w) P w K mg base N_write_forest "write_forest" (defScope s_write_forest) f cdv A outer s H E).A (cxOf (L2.CX P w) P w K mg base N_write_forest "write_forest" (defScope s_write_forest) f cdv A outer s H E).env (cxOf (L2.CX P w) P w K mg base N_write_forest "write_forest" (defScope s_write_forest) f cdv A outer s H E).xe := passes_of rfl
  have nd := sc_write_forest.nd
  unfold m_write_forest
  exact (jb_cons (js_set (i := 1) nd rfl (by first | exact .inl rfl | exact .inr rfl) (je_lst ja_nil))
    (jb_cons (js_set (i := 2) nd rfl (by first | exact .inl rfl | exact .inr rfl) je_str)
    (jb_cons (js_for hp rfl (ji_seq (je_def D_steps (hr.mono (by omega)) rfl tk (ja_cons (je_var (pv 0)) ja_nil))) (jg_name (i := 3) nd rfl (by first | exact .inl rfl | exact .inr rfl))
    (jb_one (js_if (jt_cmp op_isM (je_var (pv 3)) je_non (nomark _)) (jb_cons (js_if (jt_cmp op_eqM (je_var (pv 2)) je_str (nomark _)) (jb_one (js_expr (je_bm PySem.F.plainAttrs_list PySem.F.slot_list_append PySem.F.type_list_append mt_appendM (je_var (pv 1)) (ja_cons je_str ja_nil)))) jb_nil)
    (jb_one (js_set (i := 2) nd rfl (by first | exact .inl rfl | exact .inr rfl) je_str))) (jb_cons (js_if (jt_cmp op_eqM (je_var (pv 2)) je_str (nomark _)) (jb_one (js_expr (je_bm PySem.F.plainAttrs_list PySem.F.slot_list_append PySem.F.type_list_append mt_appendM (je_var (pv 1)) (ja_cons je_str ja_nil)))) (jb_one (js_if (jt_cmp op_eqM (je_var (pv 2)) je_str (nomark _)) (jb_one (js_expr (je_bm PySem.F.plainAttrs_list PySem.F.slot_list_append PySem.F.type_list_append mt_appendM (je_var (pv 1)) (ja_cons je_str ja_nil)))) jb_nil)))
    (jb_cons (js_expr (je_bm PySem.F.plainAttrs_list PySem.F.slot_list_append PySem.F.type_list_append mt_appendM (je_var (pv 1)) (ja_cons (je_var (pv 3)) ja_nil)))
    (jb_one (js_set (i := 2) nd rfl (by first | exact .inl rfl | exact .inr rfl) je_str)))))))
    (jb_one (js_ret (je_bm PySem.F.plainAttrs_str PySem.F.slot_str_join PySem.F.type_str_join mt_joinM je_str (ja_cons (je_var (pv 1)) ja_nil)))))))

abbrev s_law : Stmt := topS 31

theorem sc_law : FnScope N_law ["script"] (defScope s_law) := ⟨rfl, rfl, rfl, by decide +kernel, rfl, by decide +kernel, by decide +kernel⟩

theorem der_law {P : Program} {w : World} {K : Frg} {mg : Str → Option Value} {base : Heap} {cl : Str → Addr} {f : Addr} {k : Nat} (T : Txt K mg cl) {j_write_forest : Nat} (h_write_forest : j_write_forest ≤ k) {j_read_forest : Nat} (h_read_forest : j_read_forest ≤ k) {j__law_tokens : Nat} (h__law_tokens : j__law_tokens ≤ k) {j__law_text : Nat} (h__law_text : j__law_text ≤ k) {j__law_state : Nat} (h__law_state : j__law_state ≤ k) {j__law_same : Nat} (h__law_same : j__law_same ≤ k) {j__law_names : Nat} (h__law_names : j__law_names ≤ k) {j__law_laid : Nat} (h__law_laid : j__law_laid ≤ k) {j__law_great : Nat} (h__law_great : j__law_great ≤ k) {j__law_forest : Nat} (h__law_forest : j__law_forest ≤ k) {j__law_draw : Nat} (h__law_draw : j__law_draw ≤ k) (D__law_draw : Def P w K mg base "_law_draw" j__law_draw ["state", "many"] sp__law_draw) (D__law_forest : Def P w K mg base "_law_forest" j__law_forest ["state", "many", "names"] sp__law_forest) (D__law_great : Def P w K mg base "_law_great" j__law_great ["state", "names", "size", "deep"] sp__law_great) (D__law_laid : Def P w K mg base "_law_laid" j__law_laid ["state", "tokens_v", "gaps"] sp__law_laid) (D__law_names : Def P w K mg base "_law_names" j__law_names ["state"] sp__law_names) (D__law_same : Def P w K mg base "_law_same" j__law_same ["actual", "due"] sp__law_same) (D__law_state : Def P w K mg base "_law_state" j__law_state ["script"] sp__law_state) (D__law_text : Def P w K mg base "_law_text" j__law_text ["forest"] sp__law_text) (D__law_tokens : Def P w K mg base "_law_tokens" j__law_tokens ["forest", "state"] sp__law_tokens) (D_read_forest : Def P w K mg base "read_forest" j_read_forest ["text"] sp_read_forest) (D_read_forest_kw : DefKw P w K mg base "read_forest" j_read_forest ["text"] ["text"] [0] sp_read_forest) (D_write_forest : Def P w K mg base "write_forest" j_write_forest ["forest"] sp_write_forest) (D_write_forest_kw : DefKw P w K mg base "write_forest" j_write_forest ["forest"] ["forest"] [0] sp_write_forest)
    (cdv : Value) (A : Around) (outer : List Env) (s : Shared) (H : Hp) (E : XK) (hr : Room k (A.deeper (envOfC "law" (defScope s_law) s.heap.objs.size f cdv))) :
    JB (cxOf (L2.CX P w) P w K mg base N_law "law" (defScope s_law) f cdv A outer s H E) (fun cls d _ H => E cls d H) (defBody s_law) m_law := by
  have tk : Takes (cxOf (L2.CX P w) P w K mg base N_law "law" (defScope s_law) f cdv A outer s H E) (fun cls d _ H => E cls d H) := takes_of rfl rfl rfl rfl
  have hp : PassesOwn (model P w) (cxOf (L2.CX P w) P w K mg base N_law "law" (defScope s_law) f cdv A outer s H E).A (cxOf (L2.CX P w) P w K mg base N_law "law" (defScope s_law) f cdv A outer s H E).env (cxOf (L2.CX P w) P w K mg base N_law "law" (defScope s_law) f cdv A outer s H E).xe := passes_of rfl
  have nd := sc_law.nd
  unfold m_law
  exact (jb_cons (js_set (i := 1) nd rfl (by first | exact .inl rfl | exact .inr rfl) (je_def D__law_state (hr.mono (by omega)) rfl tk (ja_cons (je_var (pv 0)) ja_nil)))
    (jb_cons (js_set (i := 2) nd rfl (by first | exact .inl rfl | exact .inr rfl) (je_def D__law_names (hr.mono (by omega)) rfl tk (ja_cons (je_var (pv 1)) ja_nil)))
    (jb_cons (js_set (i := 3) nd rfl (by first | exact .inl rfl | exact .inr rfl) (je_def D__law_draw (hr.mono (by omega)) rfl tk (ja_cons (je_var (pv 1)) (ja_cons je_int ja_nil))))
    (jb_cons (js_set (i := 4) nd rfl (by first | exact .inl rfl | exact .inr rfl) (je_def D__law_forest (hr.mono (by omega)) rfl tk (ja_cons (je_var (pv 1)) (ja_cons (je_def D__law_draw (hr.mono (by omega)) rfl tk (ja_cons (je_var (pv 1)) (ja_cons je_int ja_nil))) (ja_cons (je_var (pv 2)) ja_nil)))))
    (jb_cons (js_if (jt_cmp op_eqM (je_var (pv 3)) je_int (nomark _)) (jb_one (js_set (i := 4) nd rfl (by first | exact .inl rfl | exact .inr rfl) (je_def D__law_great (hr.mono (by omega)) rfl tk (ja_cons (je_var (pv 1)) (ja_cons (je_var (pv 2)) (ja_cons je_int (ja_cons (je_op op_addM je_int (je_def D__law_draw (hr.mono (by omega)) rfl tk (ja_cons (je_var (pv 1)) (ja_cons je_int ja_nil)))) ja_nil))))))) jb_nil)
    (jb_cons (js_if (jt_cmp op_eqM (je_var (pv 3)) je_int (nomark _)) (jb_one (js_set (i := 4) nd rfl (by first | exact .inl rfl | exact .inr rfl) (je_def D__law_great (hr.mono (by omega)) rfl tk (ja_cons (je_var (pv 1)) (ja_cons (je_var (pv 2)) (ja_cons (je_op op_addM je_int (je_def D__law_draw (hr.mono (by omega)) rfl tk (ja_cons (je_var (pv 1)) (ja_cons je_int ja_nil)))) (ja_cons je_int ja_nil))))))) jb_nil)
    (jb_cons (js_set (i := 5) nd rfl (by first | exact .inl rfl | exact .inr rfl) (je_def D__law_text (hr.mono (by omega)) rfl tk (ja_cons (je_var (pv 4)) ja_nil)))
    (jb_cons (js_if (PW.pt (jw_or (jt_not (jt_tru (je_def D__law_same (hr.mono (by omega)) rfl tk (ja_cons (je_def D_write_forest (hr.mono (by omega)) rfl tk (ja_cons (je_var (pv 4)) ja_nil)) (ja_cons (je_var (pv 5)) ja_nil))))) (jw_or1 (jt_not (jt_tru (je_def D__law_same (hr.mono (by omega)) rfl tk (ja_cons (je_defKw D_write_forest_kw (hr.mono (by omega)) rfl tk (jk_cons (je_var (pv 4)) jk_nil)) (ja_cons (je_var (pv 5)) ja_nil)))))))) (jb_one (js_ret je_bl)) jb_nil)
    (jb_cons (js_set (i := 6) nd rfl (by first | exact .inl rfl | exact .inr rfl) (je_def D__law_tokens (hr.mono (by omega)) rfl tk (ja_cons (je_var (pv 4)) (ja_cons (je_var (pv 1)) ja_nil))))
    (jb_cons (js_set (i := 7) nd rfl (by first | exact .inl rfl | exact .inr rfl) (je_lst (ja_cons (je_var (pv 5)) (ja_cons (je_def D__law_laid (hr.mono (by omega)) rfl tk (ja_cons (je_var (pv 1)) (ja_cons (je_var (pv 6)) (ja_cons (je_lst (ja_cons je_str ja_nil)) ja_nil)))) (ja_cons (je_def D__law_laid (hr.mono (by omega)) rfl tk (ja_cons (je_var (pv 1)) (ja_cons (je_var (pv 6)) (ja_cons (je_lst (ja_cons je_str ja_nil)) ja_nil)))) ja_nil)))))
    (jb_cons (js_set (i := 7) nd rfl (by first | exact .inl rfl | exact .inr rfl) (je_op op_addM (je_var (pv 7)) (je_lst (ja_cons (je_def D__law_laid (hr.mono (by omega)) rfl tk (ja_cons (je_var (pv 1)) (ja_cons (je_var (pv 6)) (ja_cons (je_lst (ja_cons je_str (ja_cons je_str (ja_cons je_str (ja_cons je_str (ja_cons je_str ja_nil)))))) ja_nil)))) (ja_cons (je_op op_addM (je_op op_addM je_str (je_var (pv 5))) je_str) ja_nil)))))
    (jb_cons (js_for hp rfl (ji_seq (je_var (pv 7))) (jg_name (i := 8) nd rfl (by first | exact .inl rfl | exact .inr rfl))
    (jb_cons (js_set (i := 9) nd rfl (by first | exact .inl rfl | exact .inr rfl) (je_def D_read_forest (hr.mono (by omega)) rfl tk (ja_cons (je_var (pv 8)) ja_nil)))
    (jb_one (js_if (PW.pt (jw_or (jt_not (jt_tru (je_def D__law_same (hr.mono (by omega)) rfl tk (ja_cons (je_var (pv 9)) (ja_cons (je_var (pv 4)) ja_nil))))) (jw_or1 (jt_not (jt_tru (je_def D__law_same (hr.mono (by omega)) rfl tk (ja_cons (je_def D_write_forest (hr.mono (by omega)) rfl tk (ja_cons (je_var (pv 9)) ja_nil)) (ja_cons (je_var (pv 5)) ja_nil)))))))) (jb_one (js_ret je_bl)) jb_nil))))
    (jb_cons (js_set (i := 10) nd rfl (by first | exact .inl rfl | exact .inr rfl) (je_ix ix_M (je_lst (ja_cons je_str (ja_cons je_str (ja_cons je_str (ja_cons je_str ja_nil))))) (je_def D__law_draw (hr.mono (by omega)) rfl tk (ja_cons (je_var (pv 1)) (ja_cons je_int ja_nil))) (fun _ _ => rfl)))
    (jb_one (js_ret (je_and (je_def D__law_same (hr.mono (by omega)) rfl tk (ja_cons (je_def D_read_forest (hr.mono (by omega)) rfl tk (ja_cons (je_var (pv 10)) ja_nil)) (ja_cons (je_tup ja_nil) ja_nil))) (je_and (je_def D__law_same (hr.mono (by omega)) rfl tk (ja_cons (je_def D_write_forest (hr.mono (by omega)) rfl tk (ja_cons (je_tup ja_nil) ja_nil)) (ja_cons je_str ja_nil))) (je_one (je_def D__law_same (hr.mono (by omega)) rfl tk (ja_cons (je_defKw D_read_forest_kw (hr.mono (by omega)) rfl tk (jk_cons (je_var (pv 5)) jk_nil)) (ja_cons (je_var (pv 4)) ja_nil)))))))))))))))))))))

end K02
end PL
end L2
set_option maxRecDepth 100000
set_option maxHeartbeats 4000000
namespace L2
namespace PL
namespace K02
open PySem PySem.Spec PyProof.Rows K01 F
theorem fn_void {P : Program} {w : World} {K : Frg} {mg : Str → Option Value} {base : Heap} {f : Addr} {fd : FuncData} {ps : List Str} {k : Nat} {sp : MSp} (h : ∀ xs M Q E, ¬ sp xs M Q E) : FnOk P w K mg base (L2.CX P w) k f fd ps (upSp K sp) :=
  ⟨fun vs H Q E ⟨_, _, _, _, _, _, s, _⟩ => (h _ _ _ _ s).elim, fun A outer s H args us vs Q E _ _ _ _ ⟨_, _, _, _, _, _, z, _⟩ => (h _ _ _ _ z).elim⟩
def sp_law0 : MSp := fun xs M Q _ => ∃ cs : List Int, xs = [.rol (pis cs)] ∧ cs.length ≤ 63 ∧ ∀ M', Q (.bl true) M'
theorem kit_ref {K : Frg} {C D : Addr} {b : Bool} (hne : (Value.ref C == Value.ref D) = false) (hdct : PySem.W.hasDictIn K D = true) (ht : PySem.W.typeIn K (.ref D) = some (.type "type")) (h4 : PySem.W.subIn K (.ref C) (.ref D) = some b) : PySem.W.kitOne K (.ref C) (.ref D) = some b := by
  obtain ⟨cd, hc, _⟩ := PySem.W.any_some hdct
  have e2 : ((PySem.W.clsIn K D).isSome && PySem.W.typeIn K (.ref D) == some (.type "type")) = true := by rw [hc, ht] <;> rfl
  show (if (Value.ref C == Value.ref D) = true then some true else if ((PySem.W.clsIn K D).isSome && PySem.W.typeIn K (.ref D) == some (.type "type")) = true then PySem.W.subIn K (.ref C) (.ref D) else none) = some b
  rw [hne, if_neg (by decide), if_pos e2]
  exact h4
theorem rvs_ints {K : Frg} {H : Hp} : ∀ ns : List Int, RVs K H (pis ns) (ns.map V.int)
  | [] => .nil
  | i :: ns => .cons .i_int (rvs_ints ns)
theorem law_head {K : Frg} {H : Hp} {a : Addr} {ns : List Int} (hl : ns.length ≤ 63) (hO : Only H) (hS : SqL K H a (ns.map V.int)) : upSp K sp_law0 [.ref a] H (fun v _ => v = .bl true) (fun _ _ _ => False) := by
  have ro : RoL K H a (ns.map V.int) := by
    rcases hS with (h | ⟨o, h⟩) | h
    · rcases hO a with z | ⟨o, xs, z⟩
      · rw [h] at z; cases z
      · rw [h] at z; cases z
    · exact .inl ⟨o, h⟩
    · exact .inr h
  exact ⟨[.rol (pis ns)], fun _ => none, fun x _ => x = .bl true, fun _ _ => False, .cons (by unfold RV; exact ⟨a, _, rfl, ro, rvs_ints ns⟩) .nil, (fun _ _ h => nomatch h), ⟨ns, rfl, hl, fun _ => rfl⟩,
    (fun v H' ⟨x, M', r, _, _, e⟩ => by subst e; exact r.bl), fun _ _ _ ⟨_, _, _, _, _, z⟩ => z⟩

theorem ok_law {P : Program} {w : World} {K : Frg} {mg : Str → Option Value} {base : Heap} {cl : Str → Addr} {f__law_state : Addr} {fd__law_state : FuncData} {f__law_draw : Addr} {fd__law_draw : FuncData} {f__law_names : Addr} {fd__law_names : FuncData} {f__law_forest : Addr} {fd__law_forest : FuncData} {f__law_text : Addr} {fd__law_text : FuncData} {f__law_tokens : Addr} {fd__law_tokens : FuncData} {f__law_great : Addr} {fd__law_great : FuncData} {f__law_laid : Addr} {fd__law_laid : FuncData} {f_name_end : Addr} {fd_name_end : FuncData} {f_token_at : Addr} {fd_token_at : FuncData} {f_tokens : Addr} {fd_tokens : FuncData} {f_read_forest : Addr} {fd_read_forest : FuncData} {f__law_same : Addr} {fd__law_same : FuncData} {f_steps : Addr} {fd_steps : FuncData} {f_write_forest : Addr} {fd_write_forest : FuncData} {f_law : Addr} {fd_law : FuncData} (T : Txt K mg cl)
    (m__law_state : mg "_law_state" = some (.ref f__law_state)) (k__law_state : PySem.W.keepIn K (.ref f__law_state) = true) (F__law_state : Fun K "_law_state" "_law_state" s__law_state f__law_state fd__law_state) (b__law_state : Binds K fd__law_state ["script"] [])
    (m__law_draw : mg "_law_draw" = some (.ref f__law_draw)) (k__law_draw : PySem.W.keepIn K (.ref f__law_draw) = true) (F__law_draw : Fun K "_law_draw" "_law_draw" s__law_draw f__law_draw fd__law_draw) (b__law_draw : Binds K fd__law_draw ["state", "many"] [])
    (m__law_names : mg "_law_names" = some (.ref f__law_names)) (k__law_names : PySem.W.keepIn K (.ref f__law_names) = true) (F__law_names : Fun K "_law_names" "_law_names" s__law_names f__law_names fd__law_names) (b__law_names : Binds K fd__law_names ["state"] [])
    (m__law_forest : mg "_law_forest" = some (.ref f__law_forest)) (k__law_forest : PySem.W.keepIn K (.ref f__law_forest) = true) (F__law_forest : Fun K "_law_forest" "_law_forest" s__law_forest f__law_forest fd__law_forest) (b__law_forest : Binds K fd__law_forest ["state", "many", "names"] [])
    (m__law_text : mg "_law_text" = some (.ref f__law_text)) (k__law_text : PySem.W.keepIn K (.ref f__law_text) = true) (F__law_text : Fun K "_law_text" "_law_text" s__law_text f__law_text fd__law_text) (b__law_text : Binds K fd__law_text ["forest"] [])
    (m__law_tokens : mg "_law_tokens" = some (.ref f__law_tokens)) (k__law_tokens : PySem.W.keepIn K (.ref f__law_tokens) = true) (F__law_tokens : Fun K "_law_tokens" "_law_tokens" s__law_tokens f__law_tokens fd__law_tokens) (b__law_tokens : Binds K fd__law_tokens ["forest", "state"] [])
    (m__law_great : mg "_law_great" = some (.ref f__law_great)) (k__law_great : PySem.W.keepIn K (.ref f__law_great) = true) (F__law_great : Fun K "_law_great" "_law_great" s__law_great f__law_great fd__law_great) (b__law_great : Binds K fd__law_great ["state", "names", "size", "deep"] [])
    (m__law_laid : mg "_law_laid" = some (.ref f__law_laid)) (k__law_laid : PySem.W.keepIn K (.ref f__law_laid) = true) (F__law_laid : Fun K "_law_laid" "_law_laid" s__law_laid f__law_laid fd__law_laid) (b__law_laid : Binds K fd__law_laid ["state", "tokens_v", "gaps"] [])
    (m_name_end : mg "name_end" = some (.ref f_name_end)) (k_name_end : PySem.W.keepIn K (.ref f_name_end) = true) (F_name_end : Fun K "name_end" "name_end" s_name_end f_name_end fd_name_end) (b_name_end : Binds K fd_name_end ["text", "at"] [])
    (m_token_at : mg "token_at" = some (.ref f_token_at)) (k_token_at : PySem.W.keepIn K (.ref f_token_at) = true) (F_token_at : Fun K "token_at" "token_at" s_token_at f_token_at fd_token_at) (b_token_at : Binds K fd_token_at ["text", "at", "project"] [])
    (m_tokens : mg "tokens" = some (.ref f_tokens)) (k_tokens : PySem.W.keepIn K (.ref f_tokens) = true) (F_tokens : Fun K "tokens" "tokens" s_tokens f_tokens fd_tokens) (b_tokens : Binds K fd_tokens ["text", "project"] [])
    (m_read_forest : mg "read_forest" = some (.ref f_read_forest)) (k_read_forest : PySem.W.keepIn K (.ref f_read_forest) = true) (F_read_forest : Fun K "read_forest" "read_forest" s_read_forest f_read_forest fd_read_forest) (b_read_forest : Binds K fd_read_forest ["text"] []) (kw_read_forest : KwOnly K fd_read_forest ["text"] ["text"] [0])
    (m__law_same : mg "_law_same" = some (.ref f__law_same)) (k__law_same : PySem.W.keepIn K (.ref f__law_same) = true) (F__law_same : Fun K "_law_same" "_law_same" s__law_same f__law_same fd__law_same) (b__law_same : Binds K fd__law_same ["actual", "due"] [])
    (m_steps : mg "steps" = some (.ref f_steps)) (k_steps : PySem.W.keepIn K (.ref f_steps) = true) (F_steps : Fun K "steps" "steps" s_steps f_steps fd_steps) (b_steps : Binds K fd_steps ["forest"] [])
    (m_write_forest : mg "write_forest" = some (.ref f_write_forest)) (k_write_forest : PySem.W.keepIn K (.ref f_write_forest) = true) (F_write_forest : Fun K "write_forest" "write_forest" s_write_forest f_write_forest fd_write_forest) (b_write_forest : Binds K fd_write_forest ["forest"] []) (kw_write_forest : KwOnly K fd_write_forest ["forest"] ["forest"] [0])
    (m_law : mg "law" = some (.ref f_law)) (k_law : PySem.W.keepIn K (.ref f_law) = true) (F_law : Fun K "law" "law" s_law f_law fd_law) :
    FnOk P w K mg base (L2.CX P w) 123 f_law fd_law ["script"] (upSp K sp_law0) := by
  have Ok__law_state : FnOk P w K mg base (L2.CX P w) 1 f__law_state fd__law_state ["script"] (upSp K sp__law_state) := fn_okM F__law_state sc__law_state (fun xs M Q E h => by first | (exact h.elim; done) | (obtain ⟨_, rfl, _⟩ := h; rfl) | (obtain ⟨_, _, rfl, _⟩ := h; rfl) | (obtain ⟨_, _, _, rfl, _⟩ := h; rfl) | (obtain ⟨_, _, _, _, rfl, _⟩ := h; rfl) | (obtain ⟨_, _, _, _, _, rfl, _⟩ := h; rfl) | (obtain ⟨_, _, _, _, _, _, rfl, _⟩ := h; rfl) | (obtain ⟨_, _, _, _, _, _, _, rfl, _⟩ := h; rfl) | (obtain ⟨_, _, _, _, _, _, _, _, rfl, _⟩ := h; rfl)) (fun cdv A outer s H E hr => der__law_state T cdv A outer s H E hr) d_state
  have D__law_state : Def P w K mg base "_law_state" 1 ["script"] sp__law_state := ⟨f__law_state, fd__law_state, m__law_state, k__law_state, b__law_state, Ok__law_state⟩
  have Ok__law_draw : FnOk P w K mg base (L2.CX P w) 1 f__law_draw fd__law_draw ["state", "many"] (upSp K sp__law_draw) := fn_okM F__law_draw sc__law_draw (fun xs M Q E h => by first | (exact h.elim; done) | (obtain ⟨_, rfl, _⟩ := h; rfl) | (obtain ⟨_, _, rfl, _⟩ := h; rfl) | (obtain ⟨_, _, _, rfl, _⟩ := h; rfl) | (obtain ⟨_, _, _, _, rfl, _⟩ := h; rfl) | (obtain ⟨_, _, _, _, _, rfl, _⟩ := h; rfl) | (obtain ⟨_, _, _, _, _, _, rfl, _⟩ := h; rfl) | (obtain ⟨_, _, _, _, _, _, _, rfl, _⟩ := h; rfl) | (obtain ⟨_, _, _, _, _, _, _, _, rfl, _⟩ := h; rfl)) (fun cdv A outer s H E hr => der__law_draw T cdv A outer s H E hr) d_draw
  have D__law_draw : Def P w K mg base "_law_draw" 1 ["state", "many"] sp__law_draw := ⟨f__law_draw, fd__law_draw, m__law_draw, k__law_draw, b__law_draw, Ok__law_draw⟩
  have Ok__law_names : FnOk P w K mg base (L2.CX P w) 2 f__law_names fd__law_names ["state"] (upSp K sp__law_names) := fn_okM F__law_names sc__law_names (fun xs M Q E h => by first | (exact h.elim; done) | (obtain ⟨_, rfl, _⟩ := h; rfl) | (obtain ⟨_, _, rfl, _⟩ := h; rfl) | (obtain ⟨_, _, _, rfl, _⟩ := h; rfl) | (obtain ⟨_, _, _, _, rfl, _⟩ := h; rfl) | (obtain ⟨_, _, _, _, _, rfl, _⟩ := h; rfl) | (obtain ⟨_, _, _, _, _, _, rfl, _⟩ := h; rfl) | (obtain ⟨_, _, _, _, _, _, _, rfl, _⟩ := h; rfl) | (obtain ⟨_, _, _, _, _, _, _, _, rfl, _⟩ := h; rfl)) (fun cdv A outer s H E hr => der__law_names T (h__law_draw := (by decide : 1 ≤ 1)) (D__law_draw := D__law_draw) cdv A outer s H E hr) d_names
  have D__law_names : Def P w K mg base "_law_names" 2 ["state"] sp__law_names := ⟨f__law_names, fd__law_names, m__law_names, k__law_names, b__law_names, Ok__law_names⟩
  have Ok__law_forest : FnOk P w K mg base (L2.CX P w) 2 f__law_forest fd__law_forest ["state", "many", "names"] (upSp K sp__law_forest) := fn_okM F__law_forest sc__law_forest (fun xs M Q E h => by first | (exact h.elim; done) | (obtain ⟨_, rfl, _⟩ := h; rfl) | (obtain ⟨_, _, rfl, _⟩ := h; rfl) | (obtain ⟨_, _, _, rfl, _⟩ := h; rfl) | (obtain ⟨_, _, _, _, rfl, _⟩ := h; rfl) | (obtain ⟨_, _, _, _, _, rfl, _⟩ := h; rfl) | (obtain ⟨_, _, _, _, _, _, rfl, _⟩ := h; rfl) | (obtain ⟨_, _, _, _, _, _, _, rfl, _⟩ := h; rfl) | (obtain ⟨_, _, _, _, _, _, _, _, rfl, _⟩ := h; rfl)) (fun cdv A outer s H E hr => der__law_forest T (h__law_draw := (by decide : 1 ≤ 1)) (D__law_draw := D__law_draw) cdv A outer s H E hr) d_forest2
  have D__law_forest : Def P w K mg base "_law_forest" 2 ["state", "many", "names"] sp__law_forest := ⟨f__law_forest, fd__law_forest, m__law_forest, k__law_forest, b__law_forest, Ok__law_forest⟩
  have D__law_text' : ∀ d : Nat, FnOk P w K mg base (L2.CX P w) (0 + d) f__law_text fd__law_text ["forest"] (upSp K (sp_text d)) := by
    intro d
    induction d with
    | zero => exact fn_void (fun xs M Q E h => by obtain ⟨_, _, h, _⟩ := h; omega)
    | succ d ih => exact fn_okM F__law_text sc__law_text (fun xs M Q E h => by first | (exact h.elim; done) | (obtain ⟨_, rfl, _⟩ := h; rfl) | (obtain ⟨_, _, rfl, _⟩ := h; rfl) | (obtain ⟨_, _, _, rfl, _⟩ := h; rfl) | (obtain ⟨_, _, _, _, rfl, _⟩ := h; rfl) | (obtain ⟨_, _, _, _, _, rfl, _⟩ := h; rfl) | (obtain ⟨_, _, _, _, _, _, rfl, _⟩ := h; rfl) | (obtain ⟨_, _, _, _, _, _, _, rfl, _⟩ := h; rfl) | (obtain ⟨_, _, _, _, _, _, _, _, rfl, _⟩ := h; rfl)) (fun cdv A outer s H E hr => der__law_text T (D__law_text := ⟨f__law_text, fd__law_text, m__law_text, k__law_text, b__law_text, ih⟩) cdv A outer s H E hr) (d_text d)
  have D__law_text : Def P w K mg base "_law_text" 61 ["forest"] sp__law_text := ⟨f__law_text, fd__law_text, m__law_text, k__law_text, b__law_text, D__law_text' 61⟩
  have D__law_tokens' : ∀ d : Nat, FnOk P w K mg base (L2.CX P w) (1 + d) f__law_tokens fd__law_tokens ["forest", "state"] (upSp K (sp_ltok d)) := by
    intro d
    induction d with
    | zero => exact fn_void (fun xs M Q E h => by obtain ⟨_, _, _, _, _, _, h, _⟩ := h; omega)
    | succ d ih => exact fn_okM F__law_tokens sc__law_tokens (fun xs M Q E h => by first | (exact h.elim; done) | (obtain ⟨_, rfl, _⟩ := h; rfl) | (obtain ⟨_, _, rfl, _⟩ := h; rfl) | (obtain ⟨_, _, _, rfl, _⟩ := h; rfl) | (obtain ⟨_, _, _, _, rfl, _⟩ := h; rfl) | (obtain ⟨_, _, _, _, _, rfl, _⟩ := h; rfl) | (obtain ⟨_, _, _, _, _, _, rfl, _⟩ := h; rfl) | (obtain ⟨_, _, _, _, _, _, _, rfl, _⟩ := h; rfl) | (obtain ⟨_, _, _, _, _, _, _, _, rfl, _⟩ := h; rfl)) (fun cdv A outer s H E hr => der__law_tokens T (h__law_draw := by omega) (D__law_draw := D__law_draw) (D__law_tokens := ⟨f__law_tokens, fd__law_tokens, m__law_tokens, k__law_tokens, b__law_tokens, ih⟩) cdv A outer s H E hr) (d_ltok d)
  have D__law_tokens : Def P w K mg base "_law_tokens" 62 ["forest", "state"] sp__law_tokens := ⟨f__law_tokens, fd__law_tokens, m__law_tokens, k__law_tokens, b__law_tokens, D__law_tokens' 61⟩
  have Ok__law_great : FnOk P w K mg base (L2.CX P w) 2 f__law_great fd__law_great ["state", "names", "size", "deep"] (upSp K sp__law_great) := fn_okM F__law_great sc__law_great (fun xs M Q E h => by first | (exact h.elim; done) | (obtain ⟨_, rfl, _⟩ := h; rfl) | (obtain ⟨_, _, rfl, _⟩ := h; rfl) | (obtain ⟨_, _, _, rfl, _⟩ := h; rfl) | (obtain ⟨_, _, _, _, rfl, _⟩ := h; rfl) | (obtain ⟨_, _, _, _, _, rfl, _⟩ := h; rfl) | (obtain ⟨_, _, _, _, _, _, rfl, _⟩ := h; rfl) | (obtain ⟨_, _, _, _, _, _, _, rfl, _⟩ := h; rfl) | (obtain ⟨_, _, _, _, _, _, _, _, rfl, _⟩ := h; rfl)) (fun cdv A outer s H E hr => der__law_great T (h__law_draw := (by decide : 1 ≤ 1)) (D__law_draw := D__law_draw) cdv A outer s H E hr) d_great
  have D__law_great : Def P w K mg base "_law_great" 2 ["state", "names", "size", "deep"] sp__law_great := ⟨f__law_great, fd__law_great, m__law_great, k__law_great, b__law_great, Ok__law_great⟩
  have Ok__law_laid : FnOk P w K mg base (L2.CX P w) 2 f__law_laid fd__law_laid ["state", "tokens_v", "gaps"] (upSp K sp__law_laid) := fn_okM F__law_laid sc__law_laid (fun xs M Q E h => by first | (exact h.elim; done) | (obtain ⟨_, rfl, _⟩ := h; rfl) | (obtain ⟨_, _, rfl, _⟩ := h; rfl) | (obtain ⟨_, _, _, rfl, _⟩ := h; rfl) | (obtain ⟨_, _, _, _, rfl, _⟩ := h; rfl) | (obtain ⟨_, _, _, _, _, rfl, _⟩ := h; rfl) | (obtain ⟨_, _, _, _, _, _, rfl, _⟩ := h; rfl) | (obtain ⟨_, _, _, _, _, _, _, rfl, _⟩ := h; rfl) | (obtain ⟨_, _, _, _, _, _, _, _, rfl, _⟩ := h; rfl)) (fun cdv A outer s H E hr => der__law_laid T (h__law_draw := (by decide : 1 ≤ 1)) (D__law_draw := D__law_draw) cdv A outer s H E hr) d_laid
  have D__law_laid : Def P w K mg base "_law_laid" 2 ["state", "tokens_v", "gaps"] sp__law_laid := ⟨f__law_laid, fd__law_laid, m__law_laid, k__law_laid, b__law_laid, Ok__law_laid⟩
  have Ok_name_end : FnOk P w K mg base (L2.CX P w) 1 f_name_end fd_name_end ["text", "at"] (upSp K sp_name_end) := fn_okM F_name_end sc_name_end (fun xs M Q E h => by first | (exact h.elim; done) | (obtain ⟨_, rfl, _⟩ := h; rfl) | (obtain ⟨_, _, rfl, _⟩ := h; rfl) | (obtain ⟨_, _, _, rfl, _⟩ := h; rfl) | (obtain ⟨_, _, _, _, rfl, _⟩ := h; rfl) | (obtain ⟨_, _, _, _, _, rfl, _⟩ := h; rfl) | (obtain ⟨_, _, _, _, _, _, rfl, _⟩ := h; rfl) | (obtain ⟨_, _, _, _, _, _, _, rfl, _⟩ := h; rfl) | (obtain ⟨_, _, _, _, _, _, _, _, rfl, _⟩ := h; rfl)) (fun cdv A outer s H E hr => der_name_end T cdv A outer s H E hr) d_name_end
  have D_name_end : Def P w K mg base "name_end" 1 ["text", "at"] sp_name_end := ⟨f_name_end, fd_name_end, m_name_end, k_name_end, b_name_end, Ok_name_end⟩
  have Ok_token_at : FnOk P w K mg base (L2.CX P w) 2 f_token_at fd_token_at ["text", "at", "project"] (upSp K sp_token_at) := fn_okM F_token_at sc_token_at (fun xs M Q E h => by first | (exact h.elim; done) | (obtain ⟨_, rfl, _⟩ := h; rfl) | (obtain ⟨_, _, rfl, _⟩ := h; rfl) | (obtain ⟨_, _, _, rfl, _⟩ := h; rfl) | (obtain ⟨_, _, _, _, rfl, _⟩ := h; rfl) | (obtain ⟨_, _, _, _, _, rfl, _⟩ := h; rfl) | (obtain ⟨_, _, _, _, _, _, rfl, _⟩ := h; rfl) | (obtain ⟨_, _, _, _, _, _, _, rfl, _⟩ := h; rfl) | (obtain ⟨_, _, _, _, _, _, _, _, rfl, _⟩ := h; rfl)) (fun cdv A outer s H E hr => der_token_at T (h_name_end := (by decide : 1 ≤ 1)) (D_name_end := D_name_end) cdv A outer s H E hr) d_token_at
  have D_token_at : Def P w K mg base "token_at" 2 ["text", "at", "project"] sp_token_at := ⟨f_token_at, fd_token_at, m_token_at, k_token_at, b_token_at, Ok_token_at⟩
  have Ok_tokens : FnOk P w K mg base (L2.CX P w) 3 f_tokens fd_tokens ["text", "project"] (upSp K sp_tokens) := fn_okM F_tokens sc_tokens (fun xs M Q E h => by first | (exact h.elim; done) | (obtain ⟨_, rfl, _⟩ := h; rfl) | (obtain ⟨_, _, rfl, _⟩ := h; rfl) | (obtain ⟨_, _, _, rfl, _⟩ := h; rfl) | (obtain ⟨_, _, _, _, rfl, _⟩ := h; rfl) | (obtain ⟨_, _, _, _, _, rfl, _⟩ := h; rfl) | (obtain ⟨_, _, _, _, _, _, rfl, _⟩ := h; rfl) | (obtain ⟨_, _, _, _, _, _, _, rfl, _⟩ := h; rfl) | (obtain ⟨_, _, _, _, _, _, _, _, rfl, _⟩ := h; rfl)) (fun cdv A outer s H E hr => der_tokens T (h_token_at := (by decide : 2 ≤ 2)) (D_token_at := D_token_at) cdv A outer s H E hr) d_tokens
  have D_tokens : Def P w K mg base "tokens" 3 ["text", "project"] sp_tokens := ⟨f_tokens, fd_tokens, m_tokens, k_tokens, b_tokens, Ok_tokens⟩
  have Ok_read_forest : FnOk P w K mg base (L2.CX P w) 4 f_read_forest fd_read_forest ["text"] (upSp K sp_read_forest) := fn_okM F_read_forest sc_read_forest (fun xs M Q E h => by first | (exact h.elim; done) | (obtain ⟨_, rfl, _⟩ := h; rfl) | (obtain ⟨_, _, rfl, _⟩ := h; rfl) | (obtain ⟨_, _, _, rfl, _⟩ := h; rfl) | (obtain ⟨_, _, _, _, rfl, _⟩ := h; rfl) | (obtain ⟨_, _, _, _, _, rfl, _⟩ := h; rfl) | (obtain ⟨_, _, _, _, _, _, rfl, _⟩ := h; rfl) | (obtain ⟨_, _, _, _, _, _, _, rfl, _⟩ := h; rfl) | (obtain ⟨_, _, _, _, _, _, _, _, rfl, _⟩ := h; rfl)) (fun cdv A outer s H E hr => der_read_forest T (h_tokens := (by decide : 3 ≤ 3)) (D_tokens := D_tokens) cdv A outer s H E hr) d_read
  have D_read_forest : Def P w K mg base "read_forest" 4 ["text"] sp_read_forest := ⟨f_read_forest, fd_read_forest, m_read_forest, k_read_forest, b_read_forest, Ok_read_forest⟩
  have D__law_same' : ∀ d : Nat, FnOk P w K mg base (L2.CX P w) (0 + d) f__law_same fd__law_same ["actual", "due"] (upSp K (sp_same d)) := by
    intro d
    induction d with
    | zero => exact fn_void (fun xs M Q E h => by obtain ⟨_, _, h, _⟩ := h; exact h.elim)
    | succ d ih => exact fn_okM F__law_same sc__law_same (fun xs M Q E h => by first | (exact h.elim; done) | (obtain ⟨_, rfl, _⟩ := h; rfl) | (obtain ⟨_, _, rfl, _⟩ := h; rfl) | (obtain ⟨_, _, _, rfl, _⟩ := h; rfl) | (obtain ⟨_, _, _, _, rfl, _⟩ := h; rfl) | (obtain ⟨_, _, _, _, _, rfl, _⟩ := h; rfl) | (obtain ⟨_, _, _, _, _, _, rfl, _⟩ := h; rfl) | (obtain ⟨_, _, _, _, _, _, _, rfl, _⟩ := h; rfl) | (obtain ⟨_, _, _, _, _, _, _, _, rfl, _⟩ := h; rfl)) (fun cdv A outer s H E hr => der__law_same T (D__law_same := ⟨f__law_same, fd__law_same, m__law_same, k__law_same, b__law_same, ih⟩) cdv A outer s H E hr) (d_same d)
  have D__law_same : Def P w K mg base "_law_same" 122 ["actual", "due"] sp__law_same := ⟨f__law_same, fd__law_same, m__law_same, k__law_same, b__law_same, D__law_same' 122⟩
  have Ok_steps : FnOk P w K mg base (L2.CX P w) 1 f_steps fd_steps ["forest"] (upSp K sp_steps) := fn_okM F_steps sc_steps (fun xs M Q E h => by first | (exact h.elim; done) | (obtain ⟨_, rfl, _⟩ := h; rfl) | (obtain ⟨_, _, rfl, _⟩ := h; rfl) | (obtain ⟨_, _, _, rfl, _⟩ := h; rfl) | (obtain ⟨_, _, _, _, rfl, _⟩ := h; rfl) | (obtain ⟨_, _, _, _, _, rfl, _⟩ := h; rfl) | (obtain ⟨_, _, _, _, _, _, rfl, _⟩ := h; rfl) | (obtain ⟨_, _, _, _, _, _, _, rfl, _⟩ := h; rfl) | (obtain ⟨_, _, _, _, _, _, _, _, rfl, _⟩ := h; rfl)) (fun cdv A outer s H E hr => der_steps T cdv A outer s H E hr) d_steps
  have D_steps : Def P w K mg base "steps" 1 ["forest"] sp_steps := ⟨f_steps, fd_steps, m_steps, k_steps, b_steps, Ok_steps⟩
  have Ok_write_forest : FnOk P w K mg base (L2.CX P w) 2 f_write_forest fd_write_forest ["forest"] (upSp K sp_write_forest) := fn_okM F_write_forest sc_write_forest (fun xs M Q E h => by first | (exact h.elim; done) | (obtain ⟨_, rfl, _⟩ := h; rfl) | (obtain ⟨_, _, rfl, _⟩ := h; rfl) | (obtain ⟨_, _, _, rfl, _⟩ := h; rfl) | (obtain ⟨_, _, _, _, rfl, _⟩ := h; rfl) | (obtain ⟨_, _, _, _, _, rfl, _⟩ := h; rfl) | (obtain ⟨_, _, _, _, _, _, rfl, _⟩ := h; rfl) | (obtain ⟨_, _, _, _, _, _, _, rfl, _⟩ := h; rfl) | (obtain ⟨_, _, _, _, _, _, _, _, rfl, _⟩ := h; rfl)) (fun cdv A outer s H E hr => der_write_forest T (h_steps := (by decide : 1 ≤ 1)) (D_steps := D_steps) cdv A outer s H E hr) d_write
  have D_write_forest : Def P w K mg base "write_forest" 2 ["forest"] sp_write_forest := ⟨f_write_forest, fd_write_forest, m_write_forest, k_write_forest, b_write_forest, Ok_write_forest⟩
  have Ok_law : FnOk P w K mg base (L2.CX P w) 123 f_law fd_law ["script"] (upSp K sp_law) := fn_okM F_law sc_law (fun xs M Q E h => by first | (exact h.elim; done) | (obtain ⟨_, rfl, _⟩ := h; rfl) | (obtain ⟨_, _, rfl, _⟩ := h; rfl) | (obtain ⟨_, _, _, rfl, _⟩ := h; rfl) | (obtain ⟨_, _, _, _, rfl, _⟩ := h; rfl) | (obtain ⟨_, _, _, _, _, rfl, _⟩ := h; rfl) | (obtain ⟨_, _, _, _, _, _, rfl, _⟩ := h; rfl) | (obtain ⟨_, _, _, _, _, _, _, rfl, _⟩ := h; rfl) | (obtain ⟨_, _, _, _, _, _, _, _, rfl, _⟩ := h; rfl)) (fun cdv A outer s H E hr => der_law T (h__law_draw := (by decide : 1 ≤ 122)) (D__law_draw := D__law_draw) (h__law_forest := (by decide : 2 ≤ 122)) (D__law_forest := D__law_forest) (h__law_great := (by decide : 2 ≤ 122)) (D__law_great := D__law_great) (h__law_laid := (by decide : 2 ≤ 122)) (D__law_laid := D__law_laid) (h__law_names := (by decide : 2 ≤ 122)) (D__law_names := D__law_names) (h__law_same := (by decide : 122 ≤ 122)) (D__law_same := D__law_same) (h__law_state := (by decide : 1 ≤ 122)) (D__law_state := D__law_state) (h__law_text := (by decide : 61 ≤ 122)) (D__law_text := D__law_text) (h__law_tokens := (by decide : 62 ≤ 122)) (D__law_tokens := D__law_tokens) (h_read_forest := (by decide : 4 ≤ 122)) (D_read_forest := D_read_forest) (D_read_forest_kw := ⟨f_read_forest, fd_read_forest, m_read_forest, k_read_forest, kw_read_forest, Ok_read_forest⟩) (h_write_forest := (by decide : 2 ≤ 122)) (D_write_forest := D_write_forest) (D_write_forest_kw := ⟨f_write_forest, fd_write_forest, m_write_forest, k_write_forest, kw_write_forest, Ok_write_forest⟩) cdv A outer s H E hr) d_law
  exact FnOk.impM Ok_law fun xs M Q E h => h
theorem all_mk {P : Program} {w : World} {K : Frg} {h : Heap} {mg : Str → Option Value} {fa : Addr} (X : K.In h) (G : h.Ns mainGlobals mg) (hfa : mg "law" = some (.ref fa)) {f__law_state : Addr} {oc__law_state kV__law_state dc__law_state pm__law_state cd__law_state ct__law_state : Value} {od__law_state an__law_state : Option Addr} {sl__law_state : Array (Option Value)} {f__law_draw : Addr} {oc__law_draw kV__law_draw dc__law_draw pm__law_draw cd__law_draw ct__law_draw : Value} {od__law_draw an__law_draw : Option Addr} {sl__law_draw : Array (Option Value)} {f__law_names : Addr} {oc__law_names kV__law_names dc__law_names pm__law_names cd__law_names ct__law_names : Value} {od__law_names an__law_names : Option Addr} {sl__law_names : Array (Option Value)} {f__law_forest : Addr} {oc__law_forest kV__law_forest dc__law_forest pm__law_forest cd__law_forest ct__law_forest : Value} {od__law_forest an__law_forest : Option Addr} {sl__law_forest : Array (Option Value)} {f__law_text : Addr} {oc__law_text kV__law_text dc__law_text pm__law_text cd__law_text ct__law_text : Value} {od__law_text an__law_text : Option Addr} {sl__law_text : Array (Option Value)} {f__law_tokens : Addr} {oc__law_tokens kV__law_tokens dc__law_tokens pm__law_tokens cd__law_tokens ct__law_tokens : Value} {od__law_tokens an__law_tokens : Option Addr} {sl__law_tokens : Array (Option Value)} {f__law_great : Addr} {oc__law_great kV__law_great dc__law_great pm__law_great cd__law_great ct__law_great : Value} {od__law_great an__law_great : Option Addr} {sl__law_great : Array (Option Value)} {f__law_laid : Addr} {oc__law_laid kV__law_laid dc__law_laid pm__law_laid cd__law_laid ct__law_laid : Value} {od__law_laid an__law_laid : Option Addr} {sl__law_laid : Array (Option Value)} {f_name_end : Addr} {oc_name_end kV_name_end dc_name_end pm_name_end cd_name_end ct_name_end : Value} {od_name_end an_name_end : Option Addr} {sl_name_end : Array (Option Value)} {f_token_at : Addr} {oc_token_at kV_token_at dc_token_at pm_token_at cd_token_at ct_token_at : Value} {od_token_at an_token_at : Option Addr} {sl_token_at : Array (Option Value)} {f_tokens : Addr} {oc_tokens kV_tokens dc_tokens pm_tokens cd_tokens ct_tokens : Value} {od_tokens an_tokens : Option Addr} {sl_tokens : Array (Option Value)} {f_read_forest : Addr} {oc_read_forest kV_read_forest dc_read_forest pm_read_forest cd_read_forest ct_read_forest : Value} {od_read_forest an_read_forest : Option Addr} {sl_read_forest : Array (Option Value)} {f__law_same : Addr} {oc__law_same kV__law_same dc__law_same pm__law_same cd__law_same ct__law_same : Value} {od__law_same an__law_same : Option Addr} {sl__law_same : Array (Option Value)} {f_steps : Addr} {oc_steps kV_steps dc_steps pm_steps cd_steps ct_steps : Value} {od_steps an_steps : Option Addr} {sl_steps : Array (Option Value)} {f_write_forest : Addr} {oc_write_forest kV_write_forest dc_write_forest pm_write_forest cd_write_forest ct_write_forest : Value} {od_write_forest an_write_forest : Option Addr} {sl_write_forest : Array (Option Value)} {f_law : Addr} {oc_law kV_law dc_law pm_law cd_law ct_law : Value} {od_law an_law : Option Addr} {sl_law : Array (Option Value)} {tk_FOREST_SIGNS : Tok} {tk_GREAT : Tok} {tk_MOST_DEEP : Tok} {tk_MOST_TREES : Tok} {tk_PROJECT_SIGNS : Tok} {tk_SMALL : Tok} {tk_WITHIN : Tok}
    (a__law_state : PySem.W.nsIn K mainGlobals "_law_state" = some (some (.ref f__law_state))) (l__law_state : K.lookup f__law_state = some ⟨oc__law_state, od__law_state, .func (PySem.W.fnOf "_law_state" "_law_state" (defArgs s__law_state) (defBody s__law_state) (defScope s__law_state) .none kV__law_state dc__law_state pm__law_state an__law_state cd__law_state ct__law_state), sl__law_state⟩) (c__law_state : PySem.W.codeIn K cd__law_state "_law_state" = true) (k__law_state : PySem.W.keepIn K (.ref f__law_state) = true)
    (a__law_draw : PySem.W.nsIn K mainGlobals "_law_draw" = some (some (.ref f__law_draw))) (l__law_draw : K.lookup f__law_draw = some ⟨oc__law_draw, od__law_draw, .func (PySem.W.fnOf "_law_draw" "_law_draw" (defArgs s__law_draw) (defBody s__law_draw) (defScope s__law_draw) .none kV__law_draw dc__law_draw pm__law_draw an__law_draw cd__law_draw ct__law_draw), sl__law_draw⟩) (c__law_draw : PySem.W.codeIn K cd__law_draw "_law_draw" = true) (k__law_draw : PySem.W.keepIn K (.ref f__law_draw) = true)
    (a__law_names : PySem.W.nsIn K mainGlobals "_law_names" = some (some (.ref f__law_names))) (l__law_names : K.lookup f__law_names = some ⟨oc__law_names, od__law_names, .func (PySem.W.fnOf "_law_names" "_law_names" (defArgs s__law_names) (defBody s__law_names) (defScope s__law_names) .none kV__law_names dc__law_names pm__law_names an__law_names cd__law_names ct__law_names), sl__law_names⟩) (c__law_names : PySem.W.codeIn K cd__law_names "_law_names" = true) (k__law_names : PySem.W.keepIn K (.ref f__law_names) = true)
    (a__law_forest : PySem.W.nsIn K mainGlobals "_law_forest" = some (some (.ref f__law_forest))) (l__law_forest : K.lookup f__law_forest = some ⟨oc__law_forest, od__law_forest, .func (PySem.W.fnOf "_law_forest" "_law_forest" (defArgs s__law_forest) (defBody s__law_forest) (defScope s__law_forest) .none kV__law_forest dc__law_forest pm__law_forest an__law_forest cd__law_forest ct__law_forest), sl__law_forest⟩) (c__law_forest : PySem.W.codeIn K cd__law_forest "_law_forest" = true) (k__law_forest : PySem.W.keepIn K (.ref f__law_forest) = true)
    (a__law_text : PySem.W.nsIn K mainGlobals "_law_text" = some (some (.ref f__law_text))) (l__law_text : K.lookup f__law_text = some ⟨oc__law_text, od__law_text, .func (PySem.W.fnOf "_law_text" "_law_text" (defArgs s__law_text) (defBody s__law_text) (defScope s__law_text) .none kV__law_text dc__law_text pm__law_text an__law_text cd__law_text ct__law_text), sl__law_text⟩) (c__law_text : PySem.W.codeIn K cd__law_text "_law_text" = true) (k__law_text : PySem.W.keepIn K (.ref f__law_text) = true)
    (a__law_tokens : PySem.W.nsIn K mainGlobals "_law_tokens" = some (some (.ref f__law_tokens))) (l__law_tokens : K.lookup f__law_tokens = some ⟨oc__law_tokens, od__law_tokens, .func (PySem.W.fnOf "_law_tokens" "_law_tokens" (defArgs s__law_tokens) (defBody s__law_tokens) (defScope s__law_tokens) .none kV__law_tokens dc__law_tokens pm__law_tokens an__law_tokens cd__law_tokens ct__law_tokens), sl__law_tokens⟩) (c__law_tokens : PySem.W.codeIn K cd__law_tokens "_law_tokens" = true) (k__law_tokens : PySem.W.keepIn K (.ref f__law_tokens) = true)
    (a__law_great : PySem.W.nsIn K mainGlobals "_law_great" = some (some (.ref f__law_great))) (l__law_great : K.lookup f__law_great = some ⟨oc__law_great, od__law_great, .func (PySem.W.fnOf "_law_great" "_law_great" (defArgs s__law_great) (defBody s__law_great) (defScope s__law_great) .none kV__law_great dc__law_great pm__law_great an__law_great cd__law_great ct__law_great), sl__law_great⟩) (c__law_great : PySem.W.codeIn K cd__law_great "_law_great" = true) (k__law_great : PySem.W.keepIn K (.ref f__law_great) = true)
    (a__law_laid : PySem.W.nsIn K mainGlobals "_law_laid" = some (some (.ref f__law_laid))) (l__law_laid : K.lookup f__law_laid = some ⟨oc__law_laid, od__law_laid, .func (PySem.W.fnOf "_law_laid" "_law_laid" (defArgs s__law_laid) (defBody s__law_laid) (defScope s__law_laid) .none kV__law_laid dc__law_laid pm__law_laid an__law_laid cd__law_laid ct__law_laid), sl__law_laid⟩) (c__law_laid : PySem.W.codeIn K cd__law_laid "_law_laid" = true) (k__law_laid : PySem.W.keepIn K (.ref f__law_laid) = true)
    (a_name_end : PySem.W.nsIn K mainGlobals "name_end" = some (some (.ref f_name_end))) (l_name_end : K.lookup f_name_end = some ⟨oc_name_end, od_name_end, .func (PySem.W.fnOf "name_end" "name_end" (defArgs s_name_end) (defBody s_name_end) (defScope s_name_end) .none kV_name_end dc_name_end pm_name_end an_name_end cd_name_end ct_name_end), sl_name_end⟩) (c_name_end : PySem.W.codeIn K cd_name_end "name_end" = true) (k_name_end : PySem.W.keepIn K (.ref f_name_end) = true)
    (a_token_at : PySem.W.nsIn K mainGlobals "token_at" = some (some (.ref f_token_at))) (l_token_at : K.lookup f_token_at = some ⟨oc_token_at, od_token_at, .func (PySem.W.fnOf "token_at" "token_at" (defArgs s_token_at) (defBody s_token_at) (defScope s_token_at) .none kV_token_at dc_token_at pm_token_at an_token_at cd_token_at ct_token_at), sl_token_at⟩) (c_token_at : PySem.W.codeIn K cd_token_at "token_at" = true) (k_token_at : PySem.W.keepIn K (.ref f_token_at) = true)
    (a_tokens : PySem.W.nsIn K mainGlobals "tokens" = some (some (.ref f_tokens))) (l_tokens : K.lookup f_tokens = some ⟨oc_tokens, od_tokens, .func (PySem.W.fnOf "tokens" "tokens" (defArgs s_tokens) (defBody s_tokens) (defScope s_tokens) .none kV_tokens dc_tokens pm_tokens an_tokens cd_tokens ct_tokens), sl_tokens⟩) (c_tokens : PySem.W.codeIn K cd_tokens "tokens" = true) (k_tokens : PySem.W.keepIn K (.ref f_tokens) = true)
    (a_read_forest : PySem.W.nsIn K mainGlobals "read_forest" = some (some (.ref f_read_forest))) (l_read_forest : K.lookup f_read_forest = some ⟨oc_read_forest, od_read_forest, .func (PySem.W.fnOf "read_forest" "read_forest" (defArgs s_read_forest) (defBody s_read_forest) (defScope s_read_forest) .none kV_read_forest dc_read_forest pm_read_forest an_read_forest cd_read_forest ct_read_forest), sl_read_forest⟩) (c_read_forest : PySem.W.codeIn K cd_read_forest "read_forest" = true) (k_read_forest : PySem.W.keepIn K (.ref f_read_forest) = true)
    (a__law_same : PySem.W.nsIn K mainGlobals "_law_same" = some (some (.ref f__law_same))) (l__law_same : K.lookup f__law_same = some ⟨oc__law_same, od__law_same, .func (PySem.W.fnOf "_law_same" "_law_same" (defArgs s__law_same) (defBody s__law_same) (defScope s__law_same) .none kV__law_same dc__law_same pm__law_same an__law_same cd__law_same ct__law_same), sl__law_same⟩) (c__law_same : PySem.W.codeIn K cd__law_same "_law_same" = true) (k__law_same : PySem.W.keepIn K (.ref f__law_same) = true)
    (a_steps : PySem.W.nsIn K mainGlobals "steps" = some (some (.ref f_steps))) (l_steps : K.lookup f_steps = some ⟨oc_steps, od_steps, .func (PySem.W.fnOf "steps" "steps" (defArgs s_steps) (defBody s_steps) (defScope s_steps) .none kV_steps dc_steps pm_steps an_steps cd_steps ct_steps), sl_steps⟩) (c_steps : PySem.W.codeIn K cd_steps "steps" = true) (k_steps : PySem.W.keepIn K (.ref f_steps) = true)
    (a_write_forest : PySem.W.nsIn K mainGlobals "write_forest" = some (some (.ref f_write_forest))) (l_write_forest : K.lookup f_write_forest = some ⟨oc_write_forest, od_write_forest, .func (PySem.W.fnOf "write_forest" "write_forest" (defArgs s_write_forest) (defBody s_write_forest) (defScope s_write_forest) .none kV_write_forest dc_write_forest pm_write_forest an_write_forest cd_write_forest ct_write_forest), sl_write_forest⟩) (c_write_forest : PySem.W.codeIn K cd_write_forest "write_forest" = true) (k_write_forest : PySem.W.keepIn K (.ref f_write_forest) = true)
    (a_law : PySem.W.nsIn K mainGlobals "law" = some (some (.ref f_law))) (l_law : K.lookup f_law = some ⟨oc_law, od_law, .func (PySem.W.fnOf "law" "law" (defArgs s_law) (defBody s_law) (defScope s_law) .none kV_law dc_law pm_law an_law cd_law ct_law), sl_law⟩) (c_law : PySem.W.codeIn K cd_law "law" = true) (k_law : PySem.W.keepIn K (.ref f_law) = true)
    (z_abs : PySem.W.nsIn K mainGlobals "abs" = some none)
    (z_bool : PySem.W.nsIn K mainGlobals "bool" = some none)
    (z_int : PySem.W.nsIn K mainGlobals "int" = some none)
    (z_isinstance : PySem.W.nsIn K mainGlobals "isinstance" = some none)
    (z_len : PySem.W.nsIn K mainGlobals "len" = some none)
    (z_min : PySem.W.nsIn K mainGlobals "min" = some none)
    (z_range : PySem.W.nsIn K mainGlobals "range" = some none)
    (z_reversed : PySem.W.nsIn K mainGlobals "reversed" = some none)
    (z_str : PySem.W.nsIn K mainGlobals "str" = some none)
    (z_tuple : PySem.W.nsIn K mainGlobals "tuple" = some none)
    (g_FOREST_SIGNS : PySem.W.nsIn K mainGlobals "FOREST_SIGNS" = some (some (.str "()" tk_FOREST_SIGNS)))
    (g_GREAT : PySem.W.nsIn K mainGlobals "GREAT" = some (some (.str "ABCDEFGHIJKLMNOPQRSTUVWXYZ" tk_GREAT)))
    (g_MOST_DEEP : PySem.W.nsIn K mainGlobals "MOST_DEEP" = some (some (.int 60 tk_MOST_DEEP)))
    (g_MOST_TREES : PySem.W.nsIn K mainGlobals "MOST_TREES" = some (some (.int 2000 tk_MOST_TREES)))
    (g_PROJECT_SIGNS : PySem.W.nsIn K mainGlobals "PROJECT_SIGNS" = some (some (.str "=;,()|*+?" tk_PROJECT_SIGNS)))
    (g_SMALL : PySem.W.nsIn K mainGlobals "SMALL" = some (some (.str "abcdefghijklmnopqrstuvwxyz" tk_SMALL)))
    (g_WITHIN : PySem.W.nsIn K mainGlobals "WITHIN" = some (some (.str "abcdefghijklmnopqrstuvwxyzABCDEFGHIJKLMNOPQRSTUVWXYZ0123456789_" tk_WITHIN))) :
    ∃ fd : FuncData, (∀ (s : Shared) (v : Value), BindsTo s fd ⟨[v], []⟩ [("script", v)]) ∧ ∀ base : Heap, K.In base → base.Ns mainGlobals mg → FnOk P w K mg base (L2.CX P w) 123 fa fd ["script"] (upSp K sp_law0) := by
  have e := hfa.symm.trans (PySem.W.mg_of X G a_law)
  cases e
  have T : Txt K mg (fun _ => 0) := ⟨PySem.W.mg_none_of X G z_abs, PySem.W.mg_none_of X G z_bool, PySem.W.mg_none_of X G z_int, PySem.W.mg_none_of X G z_isinstance, PySem.W.mg_none_of X G z_len, PySem.W.mg_none_of X G z_min, PySem.W.mg_none_of X G z_range, PySem.W.mg_none_of X G z_reversed, PySem.W.mg_none_of X G z_str, PySem.W.mg_none_of X G z_tuple, ⟨_, PySem.W.mg_of X G g_FOREST_SIGNS⟩, ⟨_, PySem.W.mg_of X G g_GREAT⟩, ⟨_, PySem.W.mg_of X G g_MOST_DEEP⟩, ⟨_, PySem.W.mg_of X G g_MOST_TREES⟩, ⟨_, PySem.W.mg_of X G g_PROJECT_SIGNS⟩, ⟨_, PySem.W.mg_of X G g_SMALL⟩, ⟨_, PySem.W.mg_of X G g_WITHIN⟩⟩
  have F__law_state := fun_mk (st := s__law_state) l__law_state c__law_state k__law_state
  have b__law_state := F__law_state.binds (ps := ["script"]) fun _ _ _ _ _ _ us hl => match us, hl with | [_], _ => rfl
  have F__law_draw := fun_mk (st := s__law_draw) l__law_draw c__law_draw k__law_draw
  have b__law_draw := F__law_draw.binds (ps := ["state", "many"]) fun _ _ _ _ _ _ us hl => match us, hl with | [_, _], _ => rfl
  have F__law_names := fun_mk (st := s__law_names) l__law_names c__law_names k__law_names
  have b__law_names := F__law_names.binds (ps := ["state"]) fun _ _ _ _ _ _ us hl => match us, hl with | [_], _ => rfl
  have F__law_forest := fun_mk (st := s__law_forest) l__law_forest c__law_forest k__law_forest
  have b__law_forest := F__law_forest.binds (ps := ["state", "many", "names"]) fun _ _ _ _ _ _ us hl => match us, hl with | [_, _, _], _ => rfl
  have F__law_text := fun_mk (st := s__law_text) l__law_text c__law_text k__law_text
  have b__law_text := F__law_text.binds (ps := ["forest"]) fun _ _ _ _ _ _ us hl => match us, hl with | [_], _ => rfl
  have F__law_tokens := fun_mk (st := s__law_tokens) l__law_tokens c__law_tokens k__law_tokens
  have b__law_tokens := F__law_tokens.binds (ps := ["forest", "state"]) fun _ _ _ _ _ _ us hl => match us, hl with | [_, _], _ => rfl
  have F__law_great := fun_mk (st := s__law_great) l__law_great c__law_great k__law_great
  have b__law_great := F__law_great.binds (ps := ["state", "names", "size", "deep"]) fun _ _ _ _ _ _ us hl => match us, hl with | [_, _, _, _], _ => rfl
  have F__law_laid := fun_mk (st := s__law_laid) l__law_laid c__law_laid k__law_laid
  have b__law_laid := F__law_laid.binds (ps := ["state", "tokens_v", "gaps"]) fun _ _ _ _ _ _ us hl => match us, hl with | [_, _, _], _ => rfl
  have F_name_end := fun_mk (st := s_name_end) l_name_end c_name_end k_name_end
  have b_name_end := F_name_end.binds (ps := ["text", "at"]) fun _ _ _ _ _ _ us hl => match us, hl with | [_, _], _ => rfl
  have F_token_at := fun_mk (st := s_token_at) l_token_at c_token_at k_token_at
  have b_token_at := F_token_at.binds (ps := ["text", "at", "project"]) fun _ _ _ _ _ _ us hl => match us, hl with | [_, _, _], _ => rfl
  have F_tokens := fun_mk (st := s_tokens) l_tokens c_tokens k_tokens
  have b_tokens := F_tokens.binds (ps := ["text", "project"]) fun _ _ _ _ _ _ us hl => match us, hl with | [_, _], _ => rfl
  have F_read_forest := fun_mk (st := s_read_forest) l_read_forest c_read_forest k_read_forest
  have b_read_forest := F_read_forest.binds (ps := ["text"]) fun _ _ _ _ _ _ us hl => match us, hl with | [_], _ => rfl
  have F__law_same := fun_mk (st := s__law_same) l__law_same c__law_same k__law_same
  have b__law_same := F__law_same.binds (ps := ["actual", "due"]) fun _ _ _ _ _ _ us hl => match us, hl with | [_, _], _ => rfl
  have F_steps := fun_mk (st := s_steps) l_steps c_steps k_steps
  have b_steps := F_steps.binds (ps := ["forest"]) fun _ _ _ _ _ _ us hl => match us, hl with | [_], _ => rfl
  have F_write_forest := fun_mk (st := s_write_forest) l_write_forest c_write_forest k_write_forest
  have b_write_forest := F_write_forest.binds (ps := ["forest"]) fun _ _ _ _ _ _ us hl => match us, hl with | [_], _ => rfl
  have F_law := fun_mk (st := s_law) l_law c_law k_law
  exact ⟨_, fun s v => .of_eq rfl, fun base _ _ => ok_law T (m__law_state := PySem.W.mg_of X G a__law_state) (k__law_state := k__law_state) (F__law_state := F__law_state) (b__law_state := b__law_state) (m__law_draw := PySem.W.mg_of X G a__law_draw) (k__law_draw := k__law_draw) (F__law_draw := F__law_draw) (b__law_draw := b__law_draw) (m__law_names := PySem.W.mg_of X G a__law_names) (k__law_names := k__law_names) (F__law_names := F__law_names) (b__law_names := b__law_names) (m__law_forest := PySem.W.mg_of X G a__law_forest) (k__law_forest := k__law_forest) (F__law_forest := F__law_forest) (b__law_forest := b__law_forest) (m__law_text := PySem.W.mg_of X G a__law_text) (k__law_text := k__law_text) (F__law_text := F__law_text) (b__law_text := b__law_text) (m__law_tokens := PySem.W.mg_of X G a__law_tokens) (k__law_tokens := k__law_tokens) (F__law_tokens := F__law_tokens) (b__law_tokens := b__law_tokens) (m__law_great := PySem.W.mg_of X G a__law_great) (k__law_great := k__law_great) (F__law_great := F__law_great) (b__law_great := b__law_great) (m__law_laid := PySem.W.mg_of X G a__law_laid) (k__law_laid := k__law_laid) (F__law_laid := F__law_laid) (b__law_laid := b__law_laid) (m_name_end := PySem.W.mg_of X G a_name_end) (k_name_end := k_name_end) (F_name_end := F_name_end) (b_name_end := b_name_end) (m_token_at := PySem.W.mg_of X G a_token_at) (k_token_at := k_token_at) (F_token_at := F_token_at) (b_token_at := b_token_at) (m_tokens := PySem.W.mg_of X G a_tokens) (k_tokens := k_tokens) (F_tokens := F_tokens) (b_tokens := b_tokens) (m_read_forest := PySem.W.mg_of X G a_read_forest) (k_read_forest := k_read_forest) (F_read_forest := F_read_forest) (b_read_forest := b_read_forest) (kw_read_forest := fun s ws _ hl => match ws, hl with | [_], _ => .of_eq rfl) (m__law_same := PySem.W.mg_of X G a__law_same) (k__law_same := k__law_same) (F__law_same := F__law_same) (b__law_same := b__law_same) (m_steps := PySem.W.mg_of X G a_steps) (k_steps := k_steps) (F_steps := F_steps) (b_steps := b_steps) (m_write_forest := PySem.W.mg_of X G a_write_forest) (k_write_forest := k_write_forest) (F_write_forest := F_write_forest) (b_write_forest := b_write_forest) (kw_write_forest := fun s ws _ hl => match ws, hl with | [_], _ => .of_eq rfl) (m_law := PySem.W.mg_of X G a_law) (k_law := k_law) (F_law := F_law)⟩
theorem walk {l : PySem.W.OpenLaw} {q : Program} {loose : List Str} {XP : (Str → Option Value) → Heap → Prop} {YP : World → Heap → Prop} {d : DefRec} {K : Params → PySem.W.Frag} (hn : l.most = some 63) (hdf : d.params.defaults = [])
    (hY : ∀ (w : World) (h : Heap), YP w h → (K w.params).In h)
    (F : ∀ (w : World) (mg : Str → Option Value) (fa : Addr) (h : Heap), (K w.params).In h → h.Ns mainGlobals mg → mg d.name = some (.ref fa) →
      ∃ fd : FuncData, (∀ (s : Shared) (u : Value), BindsTo s fd ⟨[u], []⟩ [("script", u)]) ∧ ∀ base : Heap, (K w.params).In base → base.Ns mainGlobals mg → FnOk l.prog w (K w.params) mg base (L2.CX l.prog w) 123 fa fd ["script"] (upSp (K w.params) sp_law0)) :
    PySem.W.WalkO q loose XP YP l.row.toRowW d [] (fun f vs => PySem.call f vs) :=
  L2.walk_of (n := 63) (k := 123) (x := "script") (CX := fun w => L2.CX l.prog w) (sp := fun w => upSp (K w.params) sp_law0) hn (by decide) hdf ⟨rfl, by decide, by decide⟩ hY F
    (fun w H a ns hl hO hS => law_head hl hO hS) fun w H s e s' h => by
      obtain ⟨_, _, _, _, _, _, _, _, _, _, _, _, z⟩ := h
      exact z.elim
end K02
end PL
end L2
open PySem PySem.W PyProof.Rows
set_option maxRecDepth 100000 in
set_option maxHeartbeats 0 in
theorem PySem.Challenge.cw_everyforest_k02_forest_texts_holds : PySem.Challenge.rw_everyforest_k02_forest_texts.Holds := by
  w_on; o_law; k_head; (case hw => w_witness2)
  k_fill
  refine L2.PL.K02.walk (l := PySem.Challenge.rw_everyforest_k02_forest_texts) rfl rfl (fun w h Y => PySem.W.kIn_of Y) ?F
  case F =>
    intro w mg fa h KX G hmg
    refine' L2.PL.K02.all_mk KX G hmg ?a__law_state ?l__law_state ?c__law_state ?k__law_state ?a__law_draw ?l__law_draw ?c__law_draw ?k__law_draw ?a__law_names ?l__law_names ?c__law_names ?k__law_names ?a__law_forest ?l__law_forest ?c__law_forest ?k__law_forest ?a__law_text ?l__law_text ?c__law_text ?k__law_text ?a__law_tokens ?l__law_tokens ?c__law_tokens ?k__law_tokens ?a__law_great ?l__law_great ?c__law_great ?k__law_great ?a__law_laid ?l__law_laid ?c__law_laid ?k__law_laid ?a_name_end ?l_name_end ?c_name_end ?k_name_end ?a_token_at ?l_token_at ?c_token_at ?k_token_at ?a_tokens ?l_tokens ?c_tokens ?k_tokens ?a_read_forest ?l_read_forest ?c_read_forest ?k_read_forest ?a__law_same ?l__law_same ?c__law_same ?k__law_same ?a_steps ?l_steps ?c_steps ?k_steps ?a_write_forest ?l_write_forest ?c_write_forest ?k_write_forest ?a_law ?l_law ?c_law ?k_law ?z_abs ?z_bool ?z_int ?z_isinstance ?z_len ?z_min ?z_range ?z_reversed ?z_str ?z_tuple ?g_FOREST_SIGNS ?g_GREAT ?g_MOST_DEEP ?g_MOST_TREES ?g_PROJECT_SIGNS ?g_SMALL ?g_WITHIN
    (case a__law_state => k_is)
    (case l__law_state => k_is)
    (case c__law_state => k_is)
    (case k__law_state => k_is)
    (case a__law_draw => k_is)
    (case l__law_draw => k_is)
    (case c__law_draw => k_is)
    (case k__law_draw => k_is)
    (case a__law_names => k_is)
    (case l__law_names => k_is)
    (case c__law_names => k_is)
    (case k__law_names => k_is)
    (case a__law_forest => k_is)
    (case l__law_forest => k_is)
    (case c__law_forest => k_is)
    (case k__law_forest => k_is)
    (case a__law_text => k_is)
    (case l__law_text => k_is)
    (case c__law_text => k_is)
    (case k__law_text => k_is)
    (case a__law_tokens => k_is)
    (case l__law_tokens => k_is)
    (case c__law_tokens => k_is)
    (case k__law_tokens => k_is)
    (case a__law_great => k_is)
    (case l__law_great => k_is)
    (case c__law_great => k_is)
    (case k__law_great => k_is)
    (case a__law_laid => k_is)
    (case l__law_laid => k_is)
    (case c__law_laid => k_is)
    (case k__law_laid => k_is)
    (case a_name_end => k_is)
    (case l_name_end => k_is)
    (case c_name_end => k_is)
    (case k_name_end => k_is)
    (case a_token_at => k_is)
    (case l_token_at => k_is)
    (case c_token_at => k_is)
    (case k_token_at => k_is)
    (case a_tokens => k_is)
    (case l_tokens => k_is)
    (case c_tokens => k_is)
    (case k_tokens => k_is)
    (case a_read_forest => k_is)
    (case l_read_forest => k_is)
    (case c_read_forest => k_is)
    (case k_read_forest => k_is)
    (case a__law_same => k_is)
    (case l__law_same => k_is)
    (case c__law_same => k_is)
    (case k__law_same => k_is)
    (case a_steps => k_is)
    (case l_steps => k_is)
    (case c_steps => k_is)
    (case k_steps => k_is)
    (case a_write_forest => k_is)
    (case l_write_forest => k_is)
    (case c_write_forest => k_is)
    (case k_write_forest => k_is)
    (case a_law => k_is)
    (case l_law => k_is)
    (case c_law => k_is)
    (case k_law => k_is)
    (case z_abs => k_is)
    (case z_bool => k_is)
    (case z_int => k_is)
    (case z_isinstance => k_is)
    (case z_len => k_is)
    (case z_min => k_is)
    (case z_range => k_is)
    (case z_reversed => k_is)
    (case z_str => k_is)
    (case z_tuple => k_is)
    (case g_FOREST_SIGNS => k_is)
    (case g_GREAT => k_is)
    (case g_MOST_DEEP => k_is)
    (case g_MOST_TREES => k_is)
    (case g_PROJECT_SIGNS => k_is)
    (case g_SMALL => k_is)
    (case g_WITHIN => k_is)
