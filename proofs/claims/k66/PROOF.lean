import PyProof.Rows.All
import Wide.All
import OpenK.AllK
import Wide.FinOn
import HandS.ForMost
import HandS.Exc
import HandS.TryOnly
import HandS.ExcOwn
import HandS.WordsExc
import HandS.IsInst
import HandS.Deep
import HandS.TupAny
import HandS.TupMul
import HandS.Conv
import HandS.Rev
import HandS.TupLen
import HandS.DictTup
import HandS.SortInts
import HandS.Wide
import HandS.ExcIs
import HandS.CallLocal
import HandS.CallSlots
import HandS.RevTup
import PySem.Challenge.RW_guesswide_k66_less_times_back
set_option Elab.async false
set_option linter.all false
set_option maxRecDepth 100000
set_option maxHeartbeats 4000000
set_option autoImplicit false
namespace Gd
open PySem PySem.Spec PyProof.Rows L2

/-! ### what a def comes to: a value, an error, or a way that is not taken up -/
inductive Rs (α : Type) where
  | ok (a : α)
  | ex (e : Nat)
  | no
namespace Rs
variable {α β γ : Type}
def bind (m : Rs α) (k : α → Rs β) : Rs β := match m with
  | .ok a => k a
  | .ex e => .ex e
  | .no => .no
@[simp] theorem bind_ok (a : α) (k : α → Rs β) : (Rs.ok a).bind k = k a := rfl
@[simp] theorem bind_ex (e : Nat) (k : α → Rs β) : (Rs.ex e).bind k = .ex e := rfl
@[simp] theorem bind_no (k : α → Rs β) : (Rs.no).bind k = .no := rfl
theorem bind_assoc (m : Rs α) (k : α → Rs β) (l : β → Rs γ) : (m.bind k).bind l = m.bind fun a => (k a).bind l := by
  cases m <;> rfl
/-- an error counts as a way that is not taken up -/
def noEx (m : Rs α) : Rs α := match m with
  | .ok a => .ok a
  | _ => .no
@[simp] theorem noEx_ok (a : α) : (Rs.ok a).noEx = .ok a := rfl
def pr (m : Rs α) (n : Rs β) : Rs (α × β) := m.bind fun x => n.bind fun y => .ok (x, y)
@[simp] theorem pr_ok (a : α) (b : β) : pr (.ok a) (.ok b) = .ok (a, b) := rfl
def cs (m : Rs α) (n : Rs (List α)) : Rs (List α) := m.bind fun x => n.bind fun y => .ok (x :: y)
@[simp] theorem cs_ok (a : α) (b : List α) : cs (.ok a) (.ok b) = .ok (a :: b) := rfl
/-- the same, but nothing looks into it by computing -/
noncomputable def cl (m : Rs α) : Rs α := Classical.choose (⟨m, rfl⟩ : ∃ x, x = m)
theorem cl_eq (m : Rs α) : cl m = m := Classical.choose_spec (⟨m, rfl⟩ : ∃ x, x = m)
/-- only where c -/
noncomputable def gd (c : Prop) [Decidable c] (m : Rs α) : Rs α := cl (if c then m else .no)
theorem gd_pos {c : Prop} [Decidable c] {m : Rs α} (h : c) : gd c m = m := by
  unfold gd
  rw [cl_eq]
  exact if_pos h
theorem gd_ne {c : Prop} [Decidable c] {m : Rs α} (h : gd c m ≠ .no) : c := by
  by_cases hc : c
  · exact hc
  · refine absurd ?_ h
    unfold gd
    rw [cl_eq]
    exact if_neg hc
theorem bind_ne {m : Rs α} {k : α → Rs β} (h : m.bind k ≠ .no) : m ≠ .no := fun e => h (by rw [e]; rfl)
end Rs
inductive Fl (S ρ : Type) where
  | nx (s : S)
  | bk (s : S)
  | rt (r : ρ)

/-! ### values of a kind, as they stand in a heap -/
structure Rel (α : Type) where
  r : α → Hp → V → Prop
  up : ∀ {H H' : Hp} {x : α} {v : V}, Same H H' → r x H v → r x H' v
/-- that do not ask the heap -/
def Rel.Flat {α : Type} (R : Rel α) : Prop := ∀ {x : α} {H H' : Hp} {v : V}, R.r x H v → R.r x H' v
structure HRel (τ : Type) where
  r : τ → Hp → List V → Prop
  up : ∀ {H H' : Hp} {x : τ} {v : List V}, Same H H' → r x H v → r x H' v
section
variable {α β γ τ : Type}
theorem pairedUp {F G : α → V → Prop} : ∀ {xs : List α} {vs : List V}, Paired F xs vs → (∀ x v, F x v → G x v) → Paired G xs vs
  | _, _, .nil, _ => .nil
  | _, _, .cons r t, h => .cons (h _ _ r) (pairedUp t h)
theorem pairedLen {F : α → V → Prop} {xs : List α} {vs : List V} (h : Paired F xs vs) : xs.length = vs.length := Paired.length h
theorem pairedGet {F : α → V → Prop} : ∀ {xs : List α} {vs : List V} {i : Nat} {x : α}, Paired F xs vs → xs[i]? = some x → ∃ v, vs[i]? = some v ∧ F x v
  | _, _, _, _, .nil, e => by simp at e
  | _, _, 0, _, .cons r _, e => by
    simp at e
    subst e
    exact ⟨_, rfl, r⟩
  | _, _, i + 1, _, .cons _ t, e => by
    obtain ⟨v, h1, h2⟩ := pairedGet (i := i) t (by simpa using e)
    exact ⟨v, by simpa using h1, h2⟩
theorem pairedGetV {F : α → V → Prop} : ∀ {xs : List α} {vs : List V} {i : Nat} {v : V}, Paired F xs vs → vs[i]? = some v → ∃ x, xs[i]? = some x ∧ F x v
  | _, _, _, _, .nil, e => by simp at e
  | _, _, 0, _, .cons r _, e => by
    simp at e
    subst e
    exact ⟨_, rfl, r⟩
  | _, _, i + 1, _, .cons _ t, e => by
    obtain ⟨v, h1, h2⟩ := pairedGetV (i := i) t (by simpa using e)
    exact ⟨v, by simpa using h1, h2⟩
theorem pairedApp {F : α → V → Prop} : ∀ {xs ys : List α} {vs ws : List V}, Paired F xs vs → Paired F ys ws → Paired F (xs ++ ys) (vs ++ ws)
  | _, _, _, _, .nil, s => s
  | _, _, _, _, .cons r t, s => .cons r (pairedApp t s)
theorem pairedTake {F : α → V → Prop} : ∀ {xs : List α} {vs : List V} (n : Nat), Paired F xs vs → Paired F (xs.take n) (vs.take n)
  | _, _, 0, _ => .nil
  | _, _, _ + 1, .nil => .nil
  | _, _, n + 1, .cons r t => .cons r (pairedTake n t)
theorem pairedDrop {F : α → V → Prop} : ∀ {xs : List α} {vs : List V} (n : Nat), Paired F xs vs → Paired F (xs.drop n) (vs.drop n)
  | _, _, 0, r => r
  | _, _, _ + 1, .nil => .nil
  | _, _, n + 1, .cons _ t => pairedDrop n t
theorem pairedSet {F : α → V → Prop} {x : α} {v : V} (r : F x v) : ∀ {xs : List α} {vs : List V} (i : Nat), Paired F xs vs → Paired F (xs.set i x) (vs.set i v)
  | _, _, _, .nil => .nil
  | _, _, 0, .cons _ t => .cons r t
  | _, _, i + 1, .cons q t => .cons q (pairedSet r i t)
theorem pairedRev {F : α → V → Prop} : ∀ {xs : List α} {vs : List V}, Paired F xs vs → Paired F xs.reverse vs.reverse
  | _, _, .nil => .nil
  | _, _, .cons r t => by
    rw [List.reverse_cons, List.reverse_cons]
    exact pairedApp (pairedRev t) (.cons r .nil)
theorem pairedRep {F : α → V → Prop} {x : α} {v : V} (r : F x v) : ∀ n, Paired F (List.replicate n x) (List.replicate n v)
  | 0 => .nil
  | n + 1 => .cons r (pairedRep r n)

def RI : Rel Int := ⟨fun i _ v => v = .int i, fun _ h => h⟩
def RB : Rel Bool := ⟨fun b _ v => v = .bl b, fun _ h => h⟩
def RN : Rel Unit := ⟨fun _ _ v => v = .non, fun _ h => h⟩
def RS : Rel Str := ⟨fun s _ v => v = .str s, fun _ h => h⟩
theorem RI.flat : RI.Flat := fun h => h
theorem RB.flat : RB.Flat := fun h => h
theorem RN.flat : RN.Flat := fun h => h
theorem RS.flat : RS.Flat := fun h => h
def RL (R : Rel α) : Rel (List α) where
  r xs H v := ∃ p vs, v = .ref p ∧ H p = some (.lst vs) ∧ Paired (fun x u => R.r x H u) xs vs ∧ xs.length ≤ sizeLine
  up := fun s ⟨p, vs, e, h, q, l⟩ => ⟨p, vs, e, s _ _ h, pairedUp q fun _ _ z => R.up s z, l⟩
def RT (R : Rel α) : Rel (List α) where
  r xs H v := ∃ p vs, v = .ref p ∧ H p = some (.tup vs) ∧ Paired (fun x u => R.r x H u) xs vs ∧ xs.length ≤ sizeLine
  up := fun s ⟨p, vs, e, h, q, l⟩ => ⟨p, vs, e, s _ _ h, pairedUp q fun _ _ z => R.up s z, l⟩
def RO (R : Rel α) : Rel (Option α) where
  r x H v := match x with
    | none => v = .non
    | some y => v ≠ .non ∧ R.r y H v
  up := fun {_ _ x _} s h => by
    cases x with
    | none => exact h
    | some y => exact ⟨h.1, R.up s h.2⟩
theorem RO.flat {R : Rel α} (f : R.Flat) : (RO R).Flat := fun {x _ _ _} h => by
  cases x with
  | none => exact h
  | some y => exact ⟨h.1, f h.2⟩
/-- the script: a list of whole numbers that is only read -/
def RSc (K : PySem.W.Frag) : Rel (List Int) where
  r xs H v := ∃ p, v = .ref p ∧ SqL K H p (xs.map V.int) ∧ xs.length ≤ 63
  up := fun s ⟨p, e, h, l⟩ => ⟨p, e, s.seq h, l⟩
def H1 (R : Rel α) : HRel α where
  r x H vs := ∃ u, vs = [u] ∧ R.r x H u
  up := fun s ⟨u, e, h⟩ => ⟨u, e, R.up s h⟩
def HC (R : Rel α) (T : HRel τ) : HRel (α × τ) where
  r x H vs := ∃ u us, vs = u :: us ∧ R.r x.1 H u ∧ T.r x.2 H us
  up := fun s ⟨u, us, e, h, t⟩ => ⟨u, us, e, R.up s h, T.up s t⟩
def HN : HRel Unit where
  r _ _ vs := vs = []
  up := fun _ h => h
def HL (R : Rel α) : HRel (List α) where
  r xs H vs := Paired (fun x u => R.r x H u) xs vs
  up := fun s h => pairedUp h fun _ _ z => R.up s z
/-- a tuple of things of given kinds -/
def RTu (T : HRel τ) : Rel τ where
  r x H v := ∃ p vs, v = .ref p ∧ H p = some (.tup vs) ∧ T.r x H vs
  up := fun s ⟨p, vs, e, h, q⟩ => ⟨p, vs, e, s _ _ h, T.up s q⟩
/-- a list of things of given kinds -/
def RLi (T : HRel τ) : Rel τ where
  r x H v := ∃ p vs, v = .ref p ∧ H p = some (.lst vs) ∧ T.r x H vs
  up := fun s ⟨p, vs, e, h, q⟩ => ⟨p, vs, e, s _ _ h, T.up s q⟩
/-- what stands at a place of it -/
def HAt (T : HRel τ) (n i : Nat) (R : Rel α) (f : τ → α) : Prop := ∀ {x : τ} {H : Hp} {vs : List V}, T.r x H vs → vs.length = n ∧ ∃ u, vs[i]? = some u ∧ R.r (f x) H u
theorem hlast {R : Rel α} : HAt (H1 R) 1 0 R (fun x => x) := fun ⟨u, e, h⟩ => by
  subst e
  exact ⟨rfl, u, rfl, h⟩
theorem hfst {R : Rel α} {S : Rel γ} {T : HRel τ} {n i : Nat} {f : τ → γ} (q : HAt T n i S f) : HAt (HC R T) (n + 1) 0 R (fun x => x.1) := fun ⟨u, us, e, h, t⟩ => by
  subst e
  exact ⟨by rw [List.length_cons, (q t).1], u, rfl, h⟩
theorem hsnd {R : Rel α} {S : Rel γ} {T : HRel τ} {n i : Nat} {f : τ → γ} (q : HAt T n i S f) : HAt (HC R T) (n + 1) (i + 1) S (fun x => f x.2) := fun ⟨u, us, e, h, t⟩ => by
  subst e
  obtain ⟨l, v, hv, r⟩ := q t
  exact ⟨by rw [List.length_cons, l], v, hv, r⟩
end

/-! ### heaps: B the part that stays for good, H all -/
structure Ext (B H B' H' : Hp) : Prop where
  h : Same H H'
  b : Same B B'
  s : Same B' H'
  n : ∀ x, H x ≠ none → B' x = B x
theorem Ext.refl {B H : Hp} (s : Same B H) : Ext B H B H := ⟨Same.refl _, Same.refl _, s, fun _ _ => rfl⟩
theorem Ext.trans {B H B1 H1 B2 H2 : Hp} (x : Ext B H B1 H1) (y : Ext B1 H1 B2 H2) : Ext B H B2 H2 :=
  ⟨x.h.trans y.h, x.b.trans y.b, y.s, fun a ha => (y.n a fun e => by
    cases q : H a with
    | none => exact ha q
    | some o => rw [x.h a o q] at e; cases e).trans (x.n a ha)⟩
theorem same_upd {H : Hp} {p : Addr} {o : HO} (h : H p = none) : Same H (upd H p o) := fun b x e => by
  rw [upd_ne (ne_of_none e h)]
  exact e
theorem same_upd2 {B H : Hp} {p : Addr} {o : HO} (s : Same B H) : Same (upd B p o) (upd H p o) := fun b x e => by
  by_cases hb : b = p
  · subst hb
    rw [upd_same] at e ⊢
    exact e
  · rw [upd_ne hb] at e ⊢
    exact s _ _ e
theorem same_none {B H : Hp} {p : Addr} (s : Same B H) (h : H p = none) : B p = none := s.free h
/-- a new thing, for good -/
theorem Ext.new {B H : Hp} {p : Addr} {o : HO} (s : Same B H) (h : H p = none) : Ext B H (upd B p o) (upd H p o) :=
  ⟨same_upd h, same_upd (s.free h), same_upd2 s, fun x hx => upd_ne fun e => hx (by rw [e]; exact h)⟩

/-! ### what a frame's slots hold -/
structure Own (τ : Type) where
  r : τ → Hp → Hp → V → List Addr → Prop
  up : ∀ {B B' H H' : Hp} {x : τ} {v : V} {fp : List Addr}, Same B B' → (∀ a ∈ fp, H' a = H a) → r x B H v fp → r x B' H' v fp
def OL {α : Type} (R : Rel α) : Own (List α) where
  r xs B H v fp := ∃ p vs, v = .ref p ∧ fp = [p] ∧ H p = some (.lst vs) ∧ Paired (fun x u => R.r x B u) xs vs ∧ xs.length ≤ sizeLine
  up := fun s k ⟨p, vs, e, f, h, q, l⟩ => ⟨p, vs, e, f, by rw [k p (by rw [f]; exact List.mem_singleton.mpr rfl)]; exact h, pairedUp q fun _ _ z => R.up s z, l⟩
inductive Sl : Type 1 where
  | un
  | fz {α : Type} (R : Rel α) (a : α)
  | ow {τ : Type} (O : Own τ) (a : τ)
def Sl.ok (s : Sl) (B H : Hp) (o : Option V) (fp : List Addr) : Prop := match s with
  | .un => fp = []
  | .fz R a => fp = [] ∧ ∃ v, o = some v ∧ R.r a B v
  | .ow O a => ∃ v, o = some v ∧ O.r a B H v fp
theorem Sl.ok.up {s : Sl} {B B' H H' : Hp} {o : Option V} {fp : List Addr} (b : Same B B') (k : ∀ a ∈ fp, H' a = H a) (h : s.ok B H o fp) : s.ok B' H' o fp := by
  cases s with
  | un => exact h
  | fz R a =>
    obtain ⟨e, v, ev, r⟩ := h
    exact ⟨e, v, ev, R.up b r⟩
  | ow O a =>
    obtain ⟨v, ev, r⟩ := h
    exact ⟨v, ev, O.up b k r⟩
/-- B0, H0: as the def was entered -/
structure St3 (B0 H0 : Hp) (As : List Sl) (σ : L2.St) (B H : Hp) : Prop where
  ext : Ext B0 H0 B H
  len : σ.length = As.length
  fp : ∃ F : Nat → List Addr, (∀ (i : Nat) (s : Sl) (o : Option V), As[i]? = some s → σ[i]? = some o → s.ok B H o (F i)) ∧ (∀ (i : Nat) (a : Addr), a ∈ F i → i < As.length ∧ H0 a = none ∧ B a = none ∧ H a ≠ none) ∧ ∀ (i j : Nat) (a : Addr), a ∈ F i → a ∈ F j → i = j
section
variable {B0 H0 B H B' H' : Hp} {As : List Sl} {σ : L2.St} {i : Nat}
theorem St3.mono (S : St3 B0 H0 As σ B H) (x : Ext B H B' H') : St3 B0 H0 As σ B' H' := by
  refine ⟨S.ext.trans x, S.len, ?_⟩
  obtain ⟨F, h1, h2, h3⟩ := S.fp
  refine ⟨F, fun i s o ei eo => (h1 i s o ei eo).up x.b fun a ha => ?_, fun i a ha => ?_, h3⟩
  · obtain ⟨_, _, _, hn⟩ := h2 i a ha
    cases q : H a with
    | none => exact absurd q hn
    | some u => exact x.h _ _ q
  · obtain ⟨hi, h0, hb, hn⟩ := h2 i a ha
    refine ⟨hi, h0, (x.n a hn).trans hb, fun e => ?_⟩
    cases q : H a with
    | none => exact hn q
    | some u => rw [x.h _ _ q] at e; cases e
theorem St3.get (S : St3 B0 H0 As σ B H) {s : Sl} (h : As[i]? = some s) : ∃ o fp, σ[i]? = some o ∧ s.ok B H o fp := by
  obtain ⟨F, h1, _, _⟩ := S.fp
  have hi : i < σ.length := by
    rw [S.len]
    exact (List.getElem?_eq_some_iff.mp h).1
  exact ⟨σ[i], F i, List.getElem?_eq_getElem hi, h1 i s _ h (List.getElem?_eq_getElem hi)⟩
theorem St3.fz (S : St3 B0 H0 As σ B H) {α : Type} {R : Rel α} {a : α} (h : As[i]? = some (.fz R a)) : ∃ v, σ[i]? = some (some v) ∧ R.r a B v := by
  obtain ⟨o, fp, e, _, v, rfl, r⟩ := S.get h
  exact ⟨v, e, r⟩
theorem St3.ow (S : St3 B0 H0 As σ B H) {τ : Type} {O : Own τ} {a : τ} (h : As[i]? = some (.ow O a)) : ∃ v fp, σ[i]? = some (some v) ∧ O.r a B H v fp := by
  obtain ⟨o, fp, e, v, rfl, r⟩ := S.get h
  exact ⟨v, fp, e, r⟩
/-- a slot is stored -/
theorem St3.set (S : St3 B0 H0 As σ B H) {α : Type} {R : Rel α} {a : α} {v : V} (r : R.r a B v) : St3 B0 H0 (As.set i (.fz R a)) (σ.set i (some v)) B H := by
  refine ⟨S.ext, by rw [List.length_set, List.length_set, S.len], ?_⟩
  obtain ⟨F, h1, h2, h3⟩ := S.fp
  refine ⟨fun j => if j = i then [] else F j, fun j s o ej eo => ?_, fun j a ha => ?_, fun j k a ha hb => ?_⟩
  · by_cases hj : j = i
    · subst hj
      have hl : j < As.length := by
        have := (List.getElem?_eq_some_iff.mp ej).1
        rwa [List.length_set] at this
      have hl2 : j < σ.length := by rw [S.len]; exact hl
      rw [List.getElem?_set_self hl] at ej
      rw [List.getElem?_set_self hl2] at eo
      cases ej
      cases eo
      simp only [if_pos]
      exact ⟨rfl, v, rfl, r⟩
    · rw [List.getElem?_set_ne (Ne.symm hj)] at ej eo
      simp only [if_neg hj]
      exact h1 j s o ej eo
  · by_cases hj : j = i
    · simp [hj] at ha
    · simp only [if_neg hj] at ha
      rw [List.length_set]
      exact h2 j a ha
  · by_cases hj : j = i
    · simp [hj] at ha
    · by_cases hk : k = i
      · simp [hk] at hb
      · simp only [if_neg hj] at ha
        simp only [if_neg hk] at hb
        exact h3 j k a ha hb
/-- a slot is stored with a new thing of its own at p -/
theorem St3.setOw (S : St3 B0 H0 As σ B H) {τ : Type} {O : Own τ} {a : τ} {v : V} {fp : List Addr} (hi : i < As.length) (r : O.r a B H' v fp) (hf : ∀ b ∈ fp, H b = none ∧ H' b ≠ none) (hs : Same H H') :
    St3 B0 H0 (As.set i (.ow O a)) (σ.set i (some v)) B H' := by
  have hx : ∀ x, H x ≠ none → H' x = H x := fun x hx => by
    cases q : H x with
    | none => exact absurd q hx
    | some u => exact hs _ _ q
  have hb0 : ∀ x, H x = none → H0 x = none ∧ B x = none := fun x e => ⟨S.ext.h.free e, S.ext.s.free e⟩
  refine ⟨⟨S.ext.h.trans hs, S.ext.b, S.ext.s.trans hs, S.ext.n⟩, by rw [List.length_set, List.length_set, S.len], ?_⟩
  obtain ⟨F, h1, h2, h3⟩ := S.fp
  refine ⟨fun j => if j = i then fp else F j, fun j s o ej eo => ?_, fun j a ha => ?_, fun j k a ha hb => ?_⟩
  · by_cases hj : j = i
    · subst hj
      have hl2 : j < σ.length := by rw [S.len]; exact hi
      rw [List.getElem?_set_self hi] at ej
      rw [List.getElem?_set_self hl2] at eo
      cases ej
      cases eo
      simp only [if_pos]
      exact ⟨v, rfl, r⟩
    · rw [List.getElem?_set_ne (Ne.symm hj)] at ej eo
      simp only [if_neg hj]
      exact (h1 j s o ej eo).up (Same.refl _) fun a ha => hx a (h2 j a ha).2.2.2
  · by_cases hj : j = i
    · simp only [if_pos hj] at ha
      obtain ⟨q1, q2⟩ := hf a ha
      rw [List.length_set, hj]
      exact ⟨hi, (hb0 a q1).1, (hb0 a q1).2, q2⟩
    · simp only [if_neg hj] at ha
      obtain ⟨q0, q1, q2, q3⟩ := h2 j a ha
      rw [List.length_set]
      exact ⟨q0, q1, q2, by rw [hx a q3]; exact q3⟩
  · by_cases hj : j = i
    · by_cases hk : k = i
      · rw [hj, hk]
      · simp only [if_pos hj] at ha
        simp only [if_neg hk] at hb
        exact absurd (hf a ha).1 (h2 k a hb).2.2.2
    · by_cases hk : k = i
      · simp only [if_neg hj] at ha
        simp only [if_pos hk] at hb
        exact absurd (hf a hb).1 (h2 j a ha).2.2.2
      · simp only [if_neg hj] at ha
        simp only [if_neg hk] at hb
        exact h3 j k a ha hb
/-- a slot's own thing is changed -/
theorem St3.chg (S : St3 B0 H0 As σ B H) {τ τ' : Type} {O : Own τ} {O' : Own τ'} {a : τ} {a' : τ'} (hi : As[i]? = some (.ow O a)) 
    (hr : ∀ v fp, σ[i]? = some (some v) → O.r a B H v fp → (∀ b ∈ fp, H0 b = none ∧ B b = none ∧ H b ≠ none) → ∃ fp', O'.r a' B H' v fp' ∧ (∀ b ∈ fp', (b ∈ fp ∨ H b = none) ∧ H' b ≠ none) ∧ ∀ b, b ∉ fp → H b ≠ none → H' b = H b) :
    St3 B0 H0 (As.set i (.ow O' a')) σ B H' := by
  obtain ⟨F, h1, h2, h3⟩ := S.fp
  have hia : i < As.length := (List.getElem?_eq_some_iff.mp hi).1
  have hl : i < σ.length := by rw [S.len]; exact hia
  obtain ⟨v, ev, r⟩ := h1 i _ _ hi (List.getElem?_eq_getElem hl)
  have ev' : σ[i]? = some (some v) := by rw [List.getElem?_eq_getElem hl, ev]
  obtain ⟨fp', r', hfp', hk⟩ := hr v (F i) ev' r fun b hb => (h2 i b hb).2
  have hsame : ∀ x, x ∉ F i → H x ≠ none → H' x = H x := hk
  have s0 : Same H0 H' := fun x o e => by
    have e1 := S.ext.h _ _ e
    rw [hk x (fun hx => by rw [(h2 i x hx).2.1] at e; cases e) (by rw [e1]; exact Option.some_ne_none _)]
    exact e1
  have sB : Same B H' := fun x o e => by
    have e1 := S.ext.s _ _ e
    rw [hk x (fun hx => by rw [(h2 i x hx).2.2.1] at e; cases e) (by rw [e1]; exact Option.some_ne_none _)]
    exact e1
  refine ⟨⟨s0, S.ext.b, sB, S.ext.n⟩, by rw [List.length_set]; exact S.len, fun j => if j = i then fp' else F j, fun j s o ej eo => ?_, fun j b hb => ?_, fun j k b hb hc => ?_⟩
  · by_cases hj : j = i
    · subst hj
      rw [List.getElem?_set_self hia] at ej
      rw [ev'] at eo
      cases ej
      cases eo
      simp only [if_pos]
      exact ⟨v, rfl, r'⟩
    · rw [List.getElem?_set_ne (Ne.symm hj)] at ej
      simp only [if_neg hj]
      exact (h1 j s o ej eo).up (Same.refl _) fun b hb => hk b (fun hx => hj (h3 _ _ b hb hx)) (h2 j b hb).2.2.2
  · by_cases hj : j = i
    · simp only [if_pos hj] at hb
      obtain ⟨q1, q2⟩ := hfp' b hb
      rw [List.length_set, hj]
      rcases q1 with q1 | q1
      · obtain ⟨_, z0, z1, _⟩ := h2 i b q1
        exact ⟨hia, z0, z1, q2⟩
      · exact ⟨hia, S.ext.h.free q1, S.ext.s.free q1, q2⟩
    · simp only [if_neg hj] at hb
      obtain ⟨q0, q1, q2, q3⟩ := h2 j b hb
      rw [List.length_set]
      exact ⟨q0, q1, q2, by rw [hk b (fun hx => hj (h3 _ _ b hb hx)) q3]; exact q3⟩
  · by_cases hj : j = i
    · by_cases hkk : k = i
      · rw [hj, hkk]
      · simp only [if_pos hj] at hb
        simp only [if_neg hkk] at hc
        rcases (hfp' b hb).1 with q | q
        · exact absurd (h3 _ _ b hc q) hkk
        · exact absurd q (h2 k b hc).2.2.2
    · by_cases hkk : k = i
      · simp only [if_neg hj] at hb
        simp only [if_pos hkk] at hc
        rcases (hfp' b hc).1 with q | q
        · exact absurd (h3 _ _ b hb q) hj
        · exact absurd q (h2 j b hb).2.2.2
      · simp only [if_neg hj] at hb
        simp only [if_neg hkk] at hc
        exact h3 j k b hb hc
/-- a list of one's own is no more changed -/
theorem St3.freeze (S : St3 B0 H0 As σ B H) {α : Type} {R : Rel α} {xs : List α} (hi : As[i]? = some (.ow (OL R) xs)) : ∃ B', St3 B0 H0 (As.set i (.fz (RL R) xs)) σ B' H ∧ Same B B' := by
  obtain ⟨F, h1, h2, h3⟩ := S.fp
  have hia : i < As.length := (List.getElem?_eq_some_iff.mp hi).1
  have hl : i < σ.length := by rw [S.len]; exact hia
  obtain ⟨v, ev, p, vs, rfl, ef, hp, pr, hz⟩ := h1 i _ _ hi (List.getElem?_eq_getElem hl)
  have ev' : σ[i]? = some (some (.ref p)) := by rw [List.getElem?_eq_getElem hl, ev]
  have pin : p ∈ F i := by rw [ef]; exact List.mem_singleton.mpr rfl
  obtain ⟨_, p0, pB, pH⟩ := h2 i p pin
  have sB : Same B (upd B p (.lst vs)) := same_upd pB
  refine ⟨upd B p (.lst vs), ⟨⟨S.ext.h, S.ext.b.trans sB, fun x o e => ?_, fun x hx => ?_⟩, by rw [List.length_set]; exact S.len, fun j => if j = i then [] else F j, fun j s o ej eo => ?_, fun j b hb => ?_, fun j k b hb hc => ?_⟩, sB⟩
  · by_cases hx : x = p
    · subst hx
      rw [upd_same] at e
      cases e
      exact hp
    · rw [upd_ne hx] at e
      exact S.ext.s _ _ e
  · rw [upd_ne (fun e => hx (by rw [e]; exact p0))]
    exact S.ext.n x hx
  · by_cases hj : j = i
    · subst hj
      rw [List.getElem?_set_self hia] at ej
      rw [ev'] at eo
      cases ej
      cases eo
      simp only [if_pos]
      exact ⟨rfl, _, rfl, p, vs, rfl, upd_same, pairedUp pr fun _ _ z => R.up sB z, hz⟩
    · rw [List.getElem?_set_ne (Ne.symm hj)] at ej
      simp only [if_neg hj]
      exact (h1 j s o ej eo).up sB fun _ _ => rfl
  · by_cases hj : j = i
    · simp [hj] at hb
    · simp only [if_neg hj] at hb
      obtain ⟨q0, q1, q2, q3⟩ := h2 j b hb
      rw [List.length_set]
      refine ⟨q0, q1, ?_, q3⟩
      rw [upd_ne (fun e => hj (h3 _ _ p (by rw [← e]; exact hb) pin))]
      exact q2
  · by_cases hj : j = i
    · simp [hj] at hb
    · by_cases hkk : k = i
      · simp [hkk] at hc
      · simp only [if_neg hj] at hb
        simp only [if_neg hkk] at hc
        exact h3 j k b hb hc
/-- what a slot holds is forgotten -/
theorem St3.forget (S : St3 B0 H0 As σ B H) : St3 B0 H0 (As.set i .un) σ B H := by
  obtain ⟨F, h1, h2, h3⟩ := S.fp
  refine ⟨S.ext, by rw [List.length_set]; exact S.len, fun j => if j = i then [] else F j, fun j s o ej eo => ?_, fun j b hb => ?_, fun j k b hb hc => ?_⟩
  · by_cases hj : j = i
    · subst hj
      have hl : j < As.length := by
        have := (List.getElem?_eq_some_iff.mp ej).1
        rwa [List.length_set] at this
      rw [List.getElem?_set_self hl] at ej
      cases ej
      simp only [if_pos]
      rfl
    · rw [List.getElem?_set_ne (Ne.symm hj)] at ej
      simp only [if_neg hj]
      exact h1 j s o ej eo
  · by_cases hj : j = i
    · simp [hj] at hb
    · simp only [if_neg hj] at hb
      rw [List.length_set]
      exact h2 j b hb
  · by_cases hj : j = i
    · simp [hj] at hb
    · by_cases hkk : k = i
      · simp [hkk] at hc
      · simp only [if_neg hj] at hb
        simp only [if_neg hkk] at hc
        exact h3 j k b hb hc
end
end Gd

namespace Gd
open PySem PySem.Spec PyProof.Rows L2

/-! ### what an expression comes to -/
def EvM {α : Type} (cm : Nat → Addr) (W : WX) (te : TE) (As : List Sl) (R : Rel α) (m : Rs α) : Prop :=
  ∀ (B0 H0 : Hp) (σ : L2.St) (B H : Hp), St3 B0 H0 As σ B H → ∀ Q : VK, (∀ a, m = .ok a → ∀ v B' H', Ext B H B' H' → R.r a B' v → Q v H') →
    (∀ e, m = .ex e → ∀ H', Same H H' → W (.ref (cm e)) none σ H') → m ≠ .no → te σ H Q
def EvT (cm : Nat → Addr) (W : WX) (tt : TT) (As : List Sl) (m : Rs Bool) : Prop :=
  ∀ (B0 H0 : Hp) (σ : L2.St) (B H : Hp), St3 B0 H0 As σ B H → ∀ Q : Bool → Hp → Prop, (∀ a, m = .ok a → ∀ B' H', Ext B H B' H' → Q a H') →
    (∀ e, m = .ex e → ∀ H', Same H H' → W (.ref (cm e)) none σ H') → m ≠ .no → tt σ H Q
def EvAr {τ : Type} (cm : Nat → Addr) (W : WX) (ta : TA) (As : List Sl) (T : HRel τ) (m : Rs τ) : Prop :=
  ∀ (B0 H0 : Hp) (σ : L2.St) (B H : Hp), St3 B0 H0 As σ B H → ∀ Q : List V → Hp → Prop, (∀ a, m = .ok a → ∀ v B' H', Ext B H B' H' → T.r a B' v → Q v H') →
    (∀ e, m = .ex e → ∀ H', Same H H' → W (.ref (cm e)) none σ H') → m ≠ .no → ta σ H Q
/-- a list that is read: for good, or of one's own -/
def LV {α : Type} (R : Rel α) (xs : List α) (B H : Hp) (v : V) : Prop := ∃ p vs, v = .ref p ∧ H p = some (.lst vs) ∧ Paired (fun x u => R.r x B u) xs vs ∧ xs.length ≤ sizeLine
theorem LV.up {α : Type} {R : Rel α} {xs : List α} {B H B' H' : Hp} {v : V} (x : Ext B H B' H') (h : LV R xs B H v) : LV R xs B' H' v := by
  obtain ⟨p, vs, e, hp, q, l⟩ := h
  exact ⟨p, vs, e, x.h _ _ hp, pairedUp q fun _ _ z => R.up x.b z, l⟩
def EvL {α : Type} (cm : Nat → Addr) (W : WX) (te : TE) (As : List Sl) (R : Rel α) (m : Rs (List α)) : Prop :=
  ∀ (B0 H0 : Hp) (σ : L2.St) (B H : Hp), St3 B0 H0 As σ B H → ∀ Q : VK, (∀ a, m = .ok a → ∀ v B' H', Ext B H B' H' → LV R a B' H' v → Q v H') →
    (∀ e, m = .ex e → ∀ H', Same H H' → W (.ref (cm e)) none σ H') → m ≠ .no → te σ H Q
/-- a new thing of one's own -/
def EvN {τ : Type} (cm : Nat → Addr) (W : WX) (te : TE) (As : List Sl) (O : Own τ) (m : Rs τ) : Prop :=
  ∀ (B0 H0 : Hp) (σ : L2.St) (B H : Hp), St3 B0 H0 As σ B H → ∀ Q : VK, (∀ a, m = .ok a → ∀ v fp B' H', Ext B H B' H' → O.r a B' H' v fp → (∀ b ∈ fp, H b = none ∧ B' b = none ∧ H' b ≠ none) → Q v H') →
    (∀ e, m = .ex e → ∀ H', Same H H' → W (.ref (cm e)) none σ H') → m ≠ .no → te σ H Q
section
variable {cm : Nat → Addr} {W : WX} {As : List Sl} {K : PySem.W.Frag} {α β γ τ ρ : Type} {R : Rel α} {S : Rel β} {U : Rel γ} {T : HRel τ} {Rr : Rel ρ} {te ta tb tc : TE} {tt tu : TT}
theorem Ext.s' {B H B' H' : Hp} (x : Ext B H B' H') : Ext B' H' B' H' := Ext.refl x.s

/-- first m, then what hangs on its value -/
theorem bindEx {m : Rs α} {k : α → Rs β} {σ : L2.St} {H : Hp} {F : Nat → Hp → Prop} (h : ∀ e, m.bind k = .ex e → ∀ H', Same H H' → F e H') : ∀ e, m = .ex e → ∀ H', Same H H' → F e H' :=
  fun e he => h e (by rw [he]; rfl)
theorem ev_var {i : Nat} {a : α} (h : As[i]? = some (.fz R a)) : EvM cm W (tVar i) As R (.ok a) := fun _ _ σ B H s Q q _ _ => by
  obtain ⟨v, e, r⟩ := s.fz h
  exact ⟨v, e, q a rfl v B H (Ext.refl s.ext.s) r⟩
theorem ev_int {i : Int} : EvM cm W (tC (.int i)) As RI (.ok i) := fun _ _ _ B H s Q q _ _ => q i rfl _ B H (Ext.refl s.ext.s) rfl
theorem ev_bl {b : Bool} : EvM cm W (tC (.bl b)) As RB (.ok b) := fun _ _ _ B H s Q q _ _ => q b rfl _ B H (Ext.refl s.ext.s) rfl
theorem ev_str {b : Str} : EvM cm W (tC (.str b)) As RS (.ok b) := fun _ _ _ B H s Q q _ _ => q b rfl _ B H (Ext.refl s.ext.s) rfl
theorem ev_unit : EvM cm W (tC .non) As RN (.ok ()) := fun _ _ _ B H s Q q _ _ => q () rfl _ B H (Ext.refl s.ext.s) rfl
theorem ev_none : EvM cm W (tC .non) As (RO R) (.ok none) := fun _ _ _ B H s Q q _ _ => q none rfl _ B H (Ext.refl s.ext.s) rfl
/-- a value's other reading -/
theorem ev_conv {m : Rs α} {f : α → Rs β} (h : EvM cm W te As R m) (c : ∀ x B v, R.r x B v → f x ≠ .no → ∃ y, f x = .ok y ∧ S.r y B v) : EvM cm W te As S (m.bind f) := fun B0 H0 σ B H s Q q qe qn =>
  h B0 H0 σ B H s Q (fun a ha v B' H' x r => by
    subst ha
    obtain ⟨y, ey, ry⟩ := c a B' v r qn
    exact q y ey v B' H' x ry) (fun e he => qe e (by rw [he]; rfl)) (Rs.bind_ne qn)
def Rs.op {α : Type} (o : Option α) : Rs α := match o with
  | some a => .ok a
  | none => .no
@[simp] theorem Rs.op_some {α : Type} (a : α) : Rs.op (some a) = .ok a := rfl
theorem ev_unO {m : Rs (Option α)} (h : EvM cm W te As (RO R) m) : EvM cm W te As R (m.bind Rs.op) := ev_conv h fun x B v r n => by
  cases x with
  | none => exact absurd rfl n
  | some y => exact ⟨y, rfl, r.2⟩
def NonN (R : Rel α) : Prop := ∀ {x : α} {H : Hp} {v : V}, R.r x H v → v ≠ .non
theorem nonI : NonN RI := fun h => by
  rw [show _ = _ from h]
  exact fun e => nomatch e
theorem nonB : NonN RB := fun h => by
  rw [show _ = _ from h]
  exact fun e => nomatch e
theorem nonS : NonN RS := fun h => by
  rw [show _ = _ from h]
  exact fun e => nomatch e
theorem nonL : NonN (RL R) := fun ⟨p, vs, e, _⟩ => by
  rw [e]
  exact fun e => nomatch e
theorem nonT : NonN (RT R) := fun ⟨p, vs, e, _⟩ => by
  rw [e]
  exact fun e => nomatch e
theorem nonTu : NonN (RTu T) := fun ⟨p, vs, e, _⟩ => by
  rw [e]
  exact fun e => nomatch e
theorem ev_some {m : Rs α} (n : NonN R) (h : EvM cm W te As R m) : EvM cm W te As (RO R) (m.bind fun x => .ok (some x)) := ev_conv h fun x B v r _ => ⟨some x, rfl, n r, r⟩

/-! operators on two values -/
def OpE (r : R2) (R : Rel α) (S : Rel β) (U : Rel γ) (f : α → β → Rs γ) : Prop := ∀ {x : α} {y : β} {B H : Hp} {v u : V}, Same B H → R.r x B v → S.r y B u → f x y ≠ .no →
  ∃ a, f x y = .ok a ∧ ∀ Q : VK, (∀ w B' H', Ext B H B' H' → U.r a B' w → Q w H') → r v u H Q
theorem ev_op {r : R2} {f : α → β → Rs γ} {m : Rs α} {n : Rs β} (hr : OpE r R S U f) (ha : EvM cm W ta As R m) (hb : EvM cm W tb As S n) : EvM cm W (tOp r ta tb) As U (m.bind fun x => n.bind fun y => f x y) := fun B0 H0 σ B H s Q q qe qn => by
  refine ha B0 H0 σ B H s _ (fun a ea v B1 H1 x1 r1 => ?_) (fun e he => qe e (by rw [he]; rfl)) (Rs.bind_ne qn)
  subst ea
  refine hb B0 H0 σ B1 H1 (s.mono x1) _ (fun b eb u B2 H2 x2 r2 => ?_) (fun e he H' hs => qe e (by rw [he]; rfl) H' (x1.h.trans hs)) (Rs.bind_ne (m := n) qn)
  subst eb
  obtain ⟨c, ec, k⟩ := hr x2.s (R.up x2.b r1) r2 qn
  exact k Q fun w B' H' x r => q c ec w B' H' ((x1.trans x2).trans x) r
theorem ev_un {r : V → Hp → VK → Prop} {f : α → Rs β} {m : Rs α} (hr : ∀ {x : α} {B H : Hp} {v : V}, Same B H → R.r x B v → f x ≠ .no → ∃ a, f x = .ok a ∧ ∀ Q : VK, (∀ w B' H', Ext B H B' H' → S.r a B' w → Q w H') → r v H Q)
    (ha : EvM cm W ta As R m) : EvM cm W (tUn r ta) As S (m.bind f) := fun B0 H0 σ B H s Q q qe qn => by
  refine ha B0 H0 σ B H s _ (fun a ea v B1 H1 x1 r1 => ?_) (fun e he => qe e (by rw [he]; rfl)) (Rs.bind_ne qn)
  subst ea
  obtain ⟨c, ec, k⟩ := hr x1.s r1 qn
  exact k Q fun w B' H' x r => q c ec w B' H' (x1.trans x) r
theorem oe_add : OpE (rI0 fun i j => .int (i + j)) RI RI RI (fun x y => .ok (x + y)) := fun {x y B H v u} s hx hy _ => ⟨x + y, rfl, fun Q q => ⟨x, y, hx, hy, q _ B H (Ext.refl s) rfl⟩⟩
theorem oe_sub : OpE (rI0 fun i j => .int (i - j)) RI RI RI (fun x y => .ok (x - y)) := fun {x y B H v u} s hx hy _ => ⟨x - y, rfl, fun Q q => ⟨x, y, hx, hy, q _ B H (Ext.refl s) rfl⟩⟩
theorem oe_lt : OpE (rI0 fun i j => .bl (decide (i < j))) RI RI RB (fun x y => .ok (decide (x < y))) := fun {x y B H v u} s hx hy _ => ⟨_, rfl, fun Q q => ⟨x, y, hx, hy, q _ B H (Ext.refl s) rfl⟩⟩
theorem oe_le : OpE (rI0 fun i j => .bl (decide (i ≤ j))) RI RI RB (fun x y => .ok (decide (x ≤ y))) := fun {x y B H v u} s hx hy _ => ⟨_, rfl, fun Q q => ⟨x, y, hx, hy, q _ B H (Ext.refl s) rfl⟩⟩
theorem oe_gt : OpE (rI0 fun i j => .bl (decide (j < i))) RI RI RB (fun x y => .ok (decide (y < x))) := fun {x y B H v u} s hx hy _ => ⟨_, rfl, fun Q q => ⟨x, y, hx, hy, q _ B H (Ext.refl s) rfl⟩⟩
theorem oe_ge : OpE (rI0 fun i j => .bl (decide (j ≤ i))) RI RI RB (fun x y => .ok (decide (y ≤ x))) := fun {x y B H v u} s hx hy _ => ⟨_, rfl, fun Q q => ⟨x, y, hx, hy, q _ B H (Ext.refl s) rfl⟩⟩
theorem oe_eqI : OpE rEq RI RI RB (fun x y => .ok (decide (x = y))) := fun {x y B H v u} s hx hy _ => ⟨_, rfl, fun Q q => by
  rw [show v = .int x from hx, show u = .int y from hy]
  refine ⟨rfl, ?_⟩
  have e : decide (V.int x = V.int y) = decide (x = y) := by
    by_cases h : x = y
    · subst h; simp
    · simp [h]
  rw [e]
  exact q _ B H (Ext.refl s) rfl⟩
theorem oe_neI : OpE rNe RI RI RB (fun x y => .ok (!decide (x = y))) := fun {x y B H v u} s hx hy _ => ⟨_, rfl, fun Q q => by
  rw [show v = .int x from hx, show u = .int y from hy]
  refine ⟨rfl, ?_⟩
  have e : decide (V.int x = V.int y) = decide (x = y) := by
    by_cases h : x = y
    · subst h; simp
    · simp [h]
  rw [e]
  exact q _ B H (Ext.refl s) rfl⟩
theorem oe_eqB : OpE rEq RB RB RB (fun x y => .ok (decide (x = y))) := fun {x y B H v u} s hx hy _ => ⟨_, rfl, fun Q q => by
  rw [show v = .bl x from hx, show u = .bl y from hy]
  refine ⟨rfl, ?_⟩
  have e : decide (V.bl x = V.bl y) = decide (x = y) := by
    cases x <;> cases y <;> rfl
  rw [e]
  exact q _ B H (Ext.refl s) rfl⟩
theorem oe_neB : OpE rNe RB RB RB (fun x y => .ok (!decide (x = y))) := fun {x y B H v u} s hx hy _ => ⟨_, rfl, fun Q q => by
  rw [show v = .bl x from hx, show u = .bl y from hy]
  refine ⟨rfl, ?_⟩
  have e : decide (V.bl x = V.bl y) = decide (x = y) := by
    cases x <;> cases y <;> rfl
  rw [e]
  exact q _ B H (Ext.refl s) rfl⟩
noncomputable def mulR (x y : Int) : Rs Int := Rs.gd (x.natAbs < 18446744073709551616 ∨ y.natAbs < 18446744073709551616) (.ok (x * y))
theorem oe_mul : OpE (rI CMul fun i j => .int (i * j)) RI RI RI mulR := fun {x y B H v u} s hx hy n => by
  have c := Rs.gd_ne n
  refine ⟨x * y, Rs.gd_pos c, fun Q q => ⟨x, y, hx, hy, ?_, q _ B H (Ext.refl s) rfl⟩⟩
  unfold CMul
  omega
noncomputable def modR (x y : Int) : Rs Int := Rs.gd (0 < y) (.ok (x % y))
theorem oe_mod : OpE (rI (fun _ j => 0 < j) fun i j => .int (i % j)) RI RI RI modR := fun {x y B H v u} s hx hy n => by
  have c := Rs.gd_ne n
  exact ⟨x % y, Rs.gd_pos c, fun Q q => ⟨x, y, hx, hy, c, q _ B H (Ext.refl s) rfl⟩⟩
noncomputable def divR (x y : Int) : Rs Int := Rs.gd (0 < y ∧ y < 340282366920938463463374607431768211456) (.ok (x / y))
theorem oe_div : OpE (rI CDivW fun i j => .int (i / j)) RI RI RI divR := fun {x y B H v u} s hx hy n => by
  have c := Rs.gd_ne n
  exact ⟨x / y, Rs.gd_pos c, fun Q q => ⟨x, y, hx, hy, wide_div (b := 128) c.1 (by omega) (by omega) (by omega), q _ B H (Ext.refl s) rfl⟩⟩
noncomputable def powR (x y : Int) : Rs Int := Rs.gd (0 ≤ y ∧ y ≤ 1000 ∧ x.natAbs < 1000) (.ok (x ^ y.toNat))
theorem oe_pow : OpE (rI CPow fun i j => .int (i ^ j.toNat)) RI RI RI powR := fun {x y B H v u} s hx hy n => by
  have c := Rs.gd_ne n
  refine ⟨_, Rs.gd_pos c, fun Q q => ⟨x, y, hx, hy, ?_, q _ B H (Ext.refl s) rfl⟩⟩
  unfold CPow
  omega
/-! with a written second factor, divisor -/
theorem ev_mulc {m : Rs Int} {c : Int} (hc : c.natAbs < 18446744073709551616) (ha : EvM cm W ta As RI m) : EvM cm W (tOp (rI CMul fun i j => .int (i * j)) ta (tC (.int c))) As RI (m.bind fun x => .ok (x * c)) := fun B0 H0 σ B H s Q q qe qn => by
  refine ha B0 H0 σ B H s _ (fun a ea v B1 H1 x1 r1 => ?_) (fun e he => qe e (by rw [he]; rfl)) (Rs.bind_ne qn)
  subst ea
  refine ⟨a, c, r1, rfl, ?_, q _ rfl _ B1 H1 x1 rfl⟩
  unfold CMul
  omega
theorem ev_cmul {m : Rs Int} {c : Int} (hc : c.natAbs < 18446744073709551616) (ha : EvM cm W ta As RI m) : EvM cm W (tOp (rI CMul fun i j => .int (i * j)) (tC (.int c)) ta) As RI (m.bind fun x => .ok (c * x)) := fun B0 H0 σ B H s Q q qe qn => by
  refine ha B0 H0 σ B H s _ (fun a ea v B1 H1 x1 r1 => ?_) (fun e he => qe e (by rw [he]; rfl)) (Rs.bind_ne qn)
  subst ea
  refine ⟨c, a, rfl, r1, ?_, q _ rfl _ B1 H1 x1 rfl⟩
  unfold CMul
  omega
theorem ev_modc {m : Rs Int} {c : Int} (hc : 0 < c) (ha : EvM cm W ta As RI m) : EvM cm W (tOp (rI (fun _ j => 0 < j) fun i j => .int (i % j)) ta (tC (.int c))) As RI (m.bind fun x => .ok (x % c)) := fun B0 H0 σ B H s Q q qe qn => by
  refine ha B0 H0 σ B H s _ (fun a ea v B1 H1 x1 r1 => ?_) (fun e he => qe e (by rw [he]; rfl)) (Rs.bind_ne qn)
  subst ea
  exact ⟨a, c, r1, rfl, hc, q _ rfl _ B1 H1 x1 rfl⟩
theorem ev_divc {m : Rs Int} {c : Int} (hc : 0 < c ∧ c < 1073741824) (ha : EvM cm W ta As RI m) : EvM cm W (tOp (rI CDivW fun i j => .int (i / j)) ta (tC (.int c))) As RI (m.bind fun x => .ok (x / c)) := fun B0 H0 σ B H s Q q qe qn => by
  refine ha B0 H0 σ B H s _ (fun a ea v B1 H1 x1 r1 => ?_) (fun e he => qe e (by rw [he]; rfl)) (Rs.bind_ne qn)
  subst ea
  exact ⟨a, c, r1, rfl, wide_div (b := 128) hc.1 (by omega) (by omega) (by omega), q _ rfl _ B1 H1 x1 rfl⟩
theorem ev_neg {m : Rs Int} (ha : EvM cm W ta As RI m) : EvM cm W (tUn (rU fun i => .int (-i)) ta) As RI (m.bind fun x => .ok (-x)) :=
  ev_un (fun {x B H v} s hx _ => ⟨_, rfl, fun Q q => ⟨x, hx, q _ B H (Ext.refl s) rfl⟩⟩) ha
/-! None -/
abbrev rIsNone : R2 := fun x y H Q => y = .non ∧ Q (.bl (decide (x = .non))) H
abbrev rNotNone : R2 := fun x y H Q => y = .non ∧ Q (.bl (!decide (x = .non))) H
theorem ev_isN {m : Rs (Option α)} (ha : EvM cm W ta As (RO R) m) : EvM cm W (tOp rIsNone ta (tC .non)) As RB (m.bind fun x => .ok x.isNone) := fun B0 H0 σ B H s Q q qe qn => by
  refine ha B0 H0 σ B H s _ (fun a ea v B1 H1 x1 r1 => ?_) (fun e he => qe e (by rw [he]; rfl)) (Rs.bind_ne qn)
  subst ea
  refine ⟨rfl, ?_⟩
  cases a with
  | none =>
    rw [show v = .non from r1]
    exact q true rfl _ B1 H1 x1 rfl
  | some y =>
    rw [decide_eq_false r1.1]
    exact q false rfl _ B1 H1 x1 rfl
theorem ev_notN {m : Rs (Option α)} (ha : EvM cm W ta As (RO R) m) : EvM cm W (tOp rNotNone ta (tC .non)) As RB (m.bind fun x => .ok x.isSome) := fun B0 H0 σ B H s Q q qe qn => by
  refine ha B0 H0 σ B H s _ (fun a ea v B1 H1 x1 r1 => ?_) (fun e he => qe e (by rw [he]; rfl)) (Rs.bind_ne qn)
  subst ea
  refine ⟨rfl, ?_⟩
  cases a with
  | none =>
    rw [show v = .non from r1]
    exact q false rfl _ B1 H1 x1 rfl
  | some y =>
    rw [decide_eq_false r1.1]
    exact q true rfl _ B1 H1 x1 rfl

/-! tests -/
theorem et_cmp {m : Rs Bool} (h : EvM cm W te As RB m) : EvT cm W (tTest te) As m := fun B0 H0 σ B H s Q q qe qn =>
  h B0 H0 σ B H s _ (fun a ea v B1 H1 x1 r1 => ⟨a, r1, q a ea B1 H1 x1⟩) qe qn
theorem et_val {m : Rs Bool} (h : EvM cm W te As RB m) : EvT cm W (tB te) As m := fun B0 H0 σ B H s Q q qe qn =>
  h B0 H0 σ B H s _ (fun a ea v B1 H1 x1 r1 => ⟨a, r1, q a ea B1 H1 x1⟩) qe qn
def Rs.an (m n : Rs Bool) : Rs Bool := m.bind fun b => if b = true then n else .ok false
def Rs.or (m n : Rs Bool) : Rs Bool := m.bind fun b => if b = true then .ok true else n
def Rs.nt (m : Rs Bool) : Rs Bool := m.bind fun b => .ok (!b)
@[simp] theorem Rs.an_ok (a b : Bool) : Rs.an (.ok a) (.ok b) = .ok (a && b) := by cases a <;> rfl
@[simp] theorem Rs.an_t (n : Rs Bool) : Rs.an (.ok true) n = n := rfl
@[simp] theorem Rs.an_f (n : Rs Bool) : Rs.an (.ok false) n = .ok false := rfl
@[simp] theorem Rs.or_ok (a b : Bool) : Rs.or (.ok a) (.ok b) = .ok (a || b) := by cases a <;> rfl
@[simp] theorem Rs.or_t (n : Rs Bool) : Rs.or (.ok true) n = .ok true := rfl
@[simp] theorem Rs.or_f (n : Rs Bool) : Rs.or (.ok false) n = n := rfl
@[simp] theorem Rs.nt_ok (a : Bool) : Rs.nt (.ok a) = .ok (!a) := rfl
theorem et_and {m n : Rs Bool} (h : EvT cm W tt As m) (h2 : EvT cm W tu As n) : EvT cm W (tAnd tt tu) As (Rs.an m n) := fun B0 H0 σ B H s Q q qe qn => by
  refine h B0 H0 σ B H s _ (fun a ea B1 H1 x1 => ?_) (fun e he => qe e (by rw [he]; rfl)) (Rs.bind_ne qn)
  subst ea
  cases a with
  | true =>
    show tu σ H1 Q
    exact h2 B0 H0 σ B1 H1 (s.mono x1) Q (fun b eb B2 H2 x2 => q b (by rw [eb]; rfl) B2 H2 (x1.trans x2)) (fun e he H' hs => qe e (by rw [he]; rfl) H' (x1.h.trans hs)) qn
  | false =>
    show Q false H1
    exact q false rfl B1 H1 x1
theorem et_or {m n : Rs Bool} (h : EvT cm W tt As m) (h2 : EvT cm W tu As n) : EvT cm W (tOr tt tu) As (Rs.or m n) := fun B0 H0 σ B H s Q q qe qn => by
  refine h B0 H0 σ B H s _ (fun a ea B1 H1 x1 => ?_) (fun e he => qe e (by rw [he]; rfl)) (Rs.bind_ne qn)
  subst ea
  cases a with
  | true =>
    show Q true H1
    exact q true rfl B1 H1 x1
  | false =>
    show tu σ H1 Q
    exact h2 B0 H0 σ B1 H1 (s.mono x1) Q (fun b eb B2 H2 x2 => q b (by rw [eb]; rfl) B2 H2 (x1.trans x2)) (fun e he H' hs => qe e (by rw [he]; rfl) H' (x1.h.trans hs)) qn
theorem et_not {m : Rs Bool} (h : EvT cm W tt As m) : EvT cm W (tNot tt) As (Rs.nt m) := fun B0 H0 σ B H s Q q qe qn =>
  h B0 H0 σ B H s _ (fun a ea B1 H1 x1 => q (!a) (by rw [ea]; rfl) B1 H1 x1) (fun e he => qe e (by rw [he]; rfl)) (Rs.bind_ne qn)
theorem ev_andV {m n : Rs Bool} (h : EvM cm W ta As RB m) (h2 : EvM cm W tb As RB n) : EvM cm W (tAndV ta tb) As RB (Rs.an m n) := fun B0 H0 σ B H s Q q qe qn => by
  refine h B0 H0 σ B H s _ (fun a ea v B1 H1 x1 r1 => ⟨a, r1, ?_⟩) (fun e he => qe e (by rw [he]; rfl)) (Rs.bind_ne qn)
  subst ea
  cases a with
  | true =>
    show tb σ H1 Q
    exact h2 B0 H0 σ B1 H1 (s.mono x1) Q (fun b eb v B2 H2 x2 => q b (by rw [eb]; rfl) v B2 H2 (x1.trans x2)) (fun e he H' hs => qe e (by rw [he]; rfl) H' (x1.h.trans hs)) qn
  | false =>
    show Q (.bl false) H1
    exact q false rfl _ B1 H1 x1 rfl
theorem ev_orV {m n : Rs Bool} (h : EvM cm W ta As RB m) (h2 : EvM cm W tb As RB n) : EvM cm W (tOrV ta tb) As RB (Rs.or m n) := fun B0 H0 σ B H s Q q qe qn => by
  refine h B0 H0 σ B H s _ (fun a ea v B1 H1 x1 r1 => ⟨a, r1, ?_⟩) (fun e he => qe e (by rw [he]; rfl)) (Rs.bind_ne qn)
  subst ea
  cases a with
  | true =>
    show Q (.bl true) H1
    exact q true rfl _ B1 H1 x1 rfl
  | false =>
    show tb σ H1 Q
    exact h2 B0 H0 σ B1 H1 (s.mono x1) Q (fun b eb v B2 H2 x2 => q b (by rw [eb]; rfl) v B2 H2 (x1.trans x2)) (fun e he H' hs => qe e (by rw [he]; rfl) H' (x1.h.trans hs)) qn
theorem ev_notV {m : Rs Bool} (h : EvM cm W ta As RB m) : EvM cm W (tNotV ta) As RB (Rs.nt m) := fun B0 H0 σ B H s Q q qe qn =>
  h B0 H0 σ B H s _ (fun a ea v B1 H1 x1 r1 => ⟨a, r1, q (!a) (by rw [ea]; rfl) _ B1 H1 x1 rfl⟩) (fun e he => qe e (by rw [he]; rfl)) (Rs.bind_ne qn)
theorem ev_if {m : Rs Bool} {n o : Rs α} (h : EvT cm W tt As m) (h1 : EvM cm W ta As R n) (h2 : EvM cm W tb As R o) : EvM cm W (tIf tt ta tb) As R (m.bind fun b => if b = true then n else o) := fun B0 H0 σ B H s Q q qe qn => by
  refine h B0 H0 σ B H s _ (fun a ea B1 H1 x1 => ?_) (fun e he => qe e (by rw [he]; rfl)) (Rs.bind_ne qn)
  subst ea
  cases a with
  | true =>
    show ta σ H1 Q
    exact h1 B0 H0 σ B1 H1 (s.mono x1) Q (fun b eb v B2 H2 x2 => q b (by rw [eb]; rfl) v B2 H2 (x1.trans x2)) (fun e he H' hs => qe e (by rw [he]; rfl) H' (x1.h.trans hs)) qn
  | false =>
    show tb σ H1 Q
    exact h2 B0 H0 σ B1 H1 (s.mono x1) Q (fun b eb v B2 H2 x2 => q b (by rw [eb]; rfl) v B2 H2 (x1.trans x2)) (fun e he H' hs => qe e (by rw [he]; rfl) H' (x1.h.trans hs)) qn

/-! arguments, calls -/
theorem ea_nil : EvAr cm W tNil As HN (.ok ()) := fun _ _ _ B H s Q q _ _ => q () rfl [] B H (Ext.refl s.ext.s) rfl
theorem ea_nilL : EvAr cm W tNil As (HL R) (.ok []) := fun _ _ _ B H s Q q _ _ => q [] rfl [] B H (Ext.refl s.ext.s) .nil
theorem ea_one {m : Rs α} (h : EvM cm W te As R m) : EvAr cm W (tCons te tNil) As (H1 R) m := fun B0 H0 σ B H s Q q qe qn =>
  h B0 H0 σ B H s _ (fun a ea v B1 H1 x1 r1 => q a ea [v] B1 H1 x1 ⟨v, rfl, r1⟩) qe qn
theorem ea_cons {tr : TA} {m : Rs α} {n : Rs τ} (h : EvM cm W te As R m) (h2 : EvAr cm W tr As T n) : EvAr cm W (tCons te tr) As (HC R T) (Rs.pr m n) := fun B0 H0 σ B H s Q q qe qn => by
  refine h B0 H0 σ B H s _ (fun a ea v B1 H1 x1 r1 => ?_) (fun e he => qe e (by rw [he]; rfl)) (Rs.bind_ne qn)
  subst ea
  refine h2 B0 H0 σ B1 H1 (s.mono x1) _ (fun b eb u B2 H2 x2 r2 => ?_) (fun e he H' hs => qe e (by rw [he]; rfl) H' (x1.h.trans hs)) (Rs.bind_ne (m := n) qn)
  subst eb
  exact q (a, b) rfl _ B2 H2 (x1.trans x2) ⟨v, u, rfl, R.up x2.b r1, r2⟩
theorem ea_consL {tr : TA} {m : Rs α} {n : Rs (List α)} (h : EvM cm W te As R m) (h2 : EvAr cm W tr As (HL R) n) : EvAr cm W (tCons te tr) As (HL R) (Rs.cs m n) := fun B0 H0 σ B H s Q q qe qn => by
  refine h B0 H0 σ B H s _ (fun a ea v B1 H1 x1 r1 => ?_) (fun e he => qe e (by rw [he]; rfl)) (Rs.bind_ne qn)
  subst ea
  refine h2 B0 H0 σ B1 H1 (s.mono x1) _ (fun b eb u B2 H2 x2 r2 => ?_) (fun e he H' hs => qe e (by rw [he]; rfl) H' (x1.h.trans hs)) (Rs.bind_ne (m := n) qn)
  subst eb
  exact q (a :: b) rfl _ B2 H2 (x1.trans x2) (.cons (R.up x2.b r1) r2)
def spT (cm : Nat → Addr) (T : HRel τ) (Rr : Rel ρ) (f : τ → Rs ρ) : Sp := fun vs H Q E => ∃ (B : Hp) (x : τ), Same B H ∧ T.r x B vs ∧ (∀ r, f x = .ok r → ∀ v B' H', Ext B H B' H' → Rr.r r B' v → Q v H') ∧
  (∀ e, f x = .ex e → ∀ H', Same H H' → E (.ref (cm e)) none H') ∧ f x ≠ .no
theorem ev_call {tr : TA} {f : τ → Rs ρ} {m : Rs τ} (h : EvAr cm W tr As T m) : EvM cm W (tCallS (spT cm T Rr f) (WE W) tr) As Rr (m.bind f) := fun B0 H0 σ B H s Q q qe qn => by
  refine h B0 H0 σ B H s _ (fun a ea v B1 H1 x1 r1 => ?_) (fun e he => qe e (by rw [he]; rfl)) (Rs.bind_ne qn)
  subst ea
  exact ⟨B1, a, x1.s, r1, fun r er v B' H' x rr => q r er v B' H' (x1.trans x) rr, fun e he H' hs => qe e he H' (x1.h.trans hs), qn⟩
/-- a call in a comprehension: no error leaves it -/
theorem ev_call0 {tr : TA} {f : τ → Rs ρ} {m : Rs τ} {E : XK} (h : EvAr cm W tr As T m) : EvM cm W (tCall (spT cm T Rr f) [] E tr) As Rr (m.bind fun x => (f x).noEx) := fun B0 H0 σ B H s Q q qe qn => by
  refine h B0 H0 σ B H s _ (fun a ea v B1 H1 x1 r1 => ?_) (fun e he => qe e (by rw [he]; rfl)) (Rs.bind_ne qn)
  subst ea
  have qn' : (f a).noEx ≠ .no := qn
  rw [show v ++ [] = v from List.append_nil v]
  exact ⟨B1, a, x1.s, r1, fun r er v B' H' x rr => q r (show (f a).noEx = .ok r by rw [er]; rfl) v B' H' (x1.trans x) rr, fun e he => absurd (show (f a).noEx = .no by rw [he]; rfl) qn', fun e => qn' (by rw [e]; rfl)⟩
/-- a built-in called -/
def CalE (r : List V → Hp → VK → Prop) (T : HRel τ) (S : Rel β) (f : τ → Rs β) : Prop := ∀ {x : τ} {B H : Hp} {vs : List V}, Same B H → T.r x B vs → f x ≠ .no →
  ∃ a, f x = .ok a ∧ ∀ Q : VK, (∀ w B' H', Ext B H B' H' → S.r a B' w → Q w H') → r vs H Q
theorem ev_cb {r : List V → Hp → VK → Prop} {tr : TA} {f : τ → Rs β} {m : Rs τ} (hr : CalE r T S f) (h : EvAr cm W tr As T m) : EvM cm W (tCB r tr) As S (m.bind f) := fun B0 H0 σ B H s Q q qe qn => by
  refine h B0 H0 σ B H s _ (fun a ea v B1 H1 x1 r1 => ?_) (fun e he => qe e (by rw [he]; rfl)) (Rs.bind_ne qn)
  subst ea
  obtain ⟨c, ec, k⟩ := hr x1.s r1 qn
  exact k Q fun w B' H' x r => q c ec w B' H' (x1.trans x) r
/-! displays -/
theorem hl_len {xs : List α} {H : Hp} {vs : List V} (h : (HL R).r xs H vs) : xs.length = vs.length := pairedLen h
theorem ev_tup {tr : TA} {m : Rs τ} (hn : ∀ {x : τ} {H : Hp} {vs : List V}, T.r x H vs → vs.length ≤ 1000) (h : EvAr cm W tr As T m) : EvM cm W (tTup tr) As (RTu T) m := fun B0 H0 σ B H s Q q qe qn =>
  h B0 H0 σ B H s _ (fun a ea v B1 H1 x1 r1 => ⟨Nat.le_of_lt (small1000 (hn r1)), fun p hp => q a ea _ _ _ (x1.trans (Ext.new x1.s hp)) ⟨p, v, rfl, upd_same, T.up (same_upd (x1.s.free hp)) r1⟩⟩) qe qn
theorem ev_tupL {tr : TA} {m : Rs (List α)} (h : EvAr cm W tr As (HL R) m) (hm : ∀ x, m = .ok x → x.length ≤ 1000) : EvM cm W (tTup tr) As (RT R) m := fun B0 H0 σ B H s Q q qe qn =>
  h B0 H0 σ B H s _ (fun a ea v B1 H1 x1 r1 => ⟨by rw [← pairedLen r1]; exact Nat.le_of_lt (small1000 (hm a ea)), fun p hp => q a ea _ _ _ (x1.trans (Ext.new x1.s hp)) ⟨p, v, rfl, upd_same, pairedUp r1 fun _ _ z => R.up (same_upd (x1.s.free hp)) z, Nat.le_of_lt (small1000 (hm a ea))⟩⟩) qe qn
theorem en_lst {tr : TA} {m : Rs (List α)} (h : EvAr cm W tr As (HL R) m) (hm : ∀ x, m = .ok x → x.length ≤ 1000) : EvN cm W (tLst tr) As (OL R) m := fun B0 H0 σ B H s Q q qe qn =>
  h B0 H0 σ B H s _ (fun a ea v B1 H1 x1 r1 => ⟨by rw [← pairedLen r1]; exact Nat.le_of_lt (small1000 (hm a ea)), fun p hp => q a ea _ [p] B1 _ ⟨x1.h.trans (same_upd hp), x1.b, x1.s.trans (same_upd hp), x1.n⟩ ⟨p, v, rfl, rfl, upd_same, r1, Nat.le_of_lt (small1000 (hm a ea))⟩
    fun b hb => by
      rw [List.mem_singleton] at hb
      subst hb
      exact ⟨x1.h.free hp, x1.s.free hp, by rw [upd_same]; exact Option.some_ne_none _⟩⟩) qe qn
theorem evn_fz {m : Rs (List α)} (h : EvN cm W te As (OL R) m) : EvM cm W te As (RL R) m := fun B0 H0 σ B H s Q q qe qn =>
  h B0 H0 σ B H s _ (fun a ea v fp B1 H1 x1 r1 hf => by
    obtain ⟨p, vs, rfl, rfl, hp, pr, hz⟩ := r1
    obtain ⟨n1, n2, n3⟩ := hf p (List.mem_singleton.mpr rfl)
    have sB : Same B1 (upd B1 p (.lst vs)) := same_upd n2
    refine q a ea _ (upd B1 p (.lst vs)) H1 ⟨x1.h, x1.b.trans sB, fun x o e => ?_, fun x hx => ?_⟩ ⟨p, vs, rfl, upd_same, pairedUp pr fun _ _ z => R.up sB z, hz⟩
    · by_cases hx : x = p
      · subst hx
        rw [upd_same] at e
        cases e
        exact hp
      · rw [upd_ne hx] at e
        exact x1.s _ _ e
    · rw [upd_ne fun e => hx (by rw [e]; exact n1)]
      exact x1.n x hx) qe qn
/-! lists that are read -/
theorem el_fz {m : Rs (List α)} (h : EvM cm W te As (RL R) m) : EvL cm W te As R m := fun B0 H0 σ B H s Q q qe qn =>
  h B0 H0 σ B H s _ (fun a ea v B1 H1 x1 r1 => by
    obtain ⟨p, vs, e, hp, pr, hz⟩ := r1
    exact q a ea v B1 H1 x1 ⟨p, vs, e, x1.s _ _ hp, pr, hz⟩) qe qn
theorem el_ow {i : Nat} {xs : List α} (h : As[i]? = some (.ow (OL R) xs)) : EvL cm W (tVar i) As R (.ok xs) := fun B0 H0 σ B H s Q q qe qn => by
  obtain ⟨v, fp, e, p, vs, ev, _, hp, pr, hz⟩ := s.ow h
  exact ⟨v, e, q xs rfl v B H (Ext.refl s.ext.s) ⟨p, vs, ev, hp, pr, hz⟩⟩
noncomputable def pyIx (xs : List α) (i : Int) : Rs α := Rs.cl (Rs.op ((ixN xs.length i).bind fun j => xs[j]?))
theorem pyIx_eq (xs : List α) (i : Int) : pyIx xs i = Rs.op ((ixN xs.length i).bind fun j => xs[j]?) := Rs.cl_eq _
theorem pyIx_at {xs : List α} {vs : List V} {F : α → V → Prop} {i : Int} (pr : Paired F xs vs) (n : pyIx xs i ≠ .no) : ∃ a v, pyIx xs i = .ok a ∧ atI vs i = some v ∧ F a v := by
  rw [pyIx_eq] at n ⊢
  unfold atI
  rw [← pairedLen pr]
  cases e : ixN xs.length i with
  | none => rw [e] at n; exact absurd rfl n
  | some j =>
    rw [e] at n
    show ∃ a v, Rs.op xs[j]? = .ok a ∧ vs[j]? = some v ∧ F a v
    have n2 : Rs.op xs[j]? ≠ .no := n
    cases ex : xs[j]? with
    | none => rw [ex] at n2; exact absurd rfl n2
    | some a =>
      obtain ⟨v, ev, r⟩ := pairedGet pr ex
      exact ⟨a, v, rfl, ev, r⟩
theorem pyIx_nat {xs : List α} {i : Int} {j : Nat} {a : α} (hi : i = (j : Int)) (h : xs[j]? = some a) : pyIx xs i = .ok a := by
  subst hi
  have hj := (List.getElem?_eq_some_iff.mp h).1
  rw [pyIx_eq]
  unfold ixN
  rw [if_pos (by omega), if_pos (by omega)]
  show Rs.op xs[((j : Int)).toNat]? = _
  rw [show ((j : Int)).toNat = j from Int.toNat_natCast j, h]
  rfl
theorem ev_ixl {m : Rs (List α)} {n : Rs Int} (ha : EvL cm W ta As R m) (hb : EvM cm W tb As RI n) : EvM cm W (tOp (rIxL K) ta tb) As R (m.bind fun x => n.bind fun y => pyIx x y) := fun B0 H0 σ B H s Q q qe qn => by
  refine ha B0 H0 σ B H s _ (fun a ea v B1 H1 x1 r1 => ?_) (fun e he => qe e (by rw [he]; rfl)) (Rs.bind_ne qn)
  subst ea
  refine hb B0 H0 σ B1 H1 (s.mono x1) _ (fun b eb u B2 H2 x2 r2 => ?_) (fun e he H' hs => qe e (by rw [he]; rfl) H' (x1.h.trans hs)) (Rs.bind_ne (m := n) qn)
  subst eb
  obtain ⟨p, vs, rfl, hp, pr, _⟩ := r1.up x2
  obtain ⟨c, w, ec, ew, rw'⟩ := pyIx_at pr qn
  exact ⟨p, vs, b, w, rfl, r2, .inl (.inl hp), ew, q c ec w B2 H2 (x1.trans x2) rw'⟩
theorem oe_ixt : OpE (rIxT K) (RT R) RI R (fun x y => pyIx x y) := fun {x y B H v u} s hx hy n => by
  obtain ⟨p, vs, rfl, hp, pr, _⟩ := hx
  obtain ⟨c, w, ec, ew, rw'⟩ := pyIx_at pr n
  exact ⟨c, ec, fun Q q => ⟨p, vs, y, w, rfl, hy, .inl (.inl (s _ _ hp)), ew, q w B H (Ext.refl s) rw'⟩⟩
theorem pairedInts {B : Hp} : ∀ (x : List Int), Paired (fun x u => RI.r x B u) x (x.map V.int)
  | [] => .nil
  | a :: r => .cons rfl (pairedInts r)
theorem oe_ixs : OpE (rIxL K) (RSc K) RI RI (fun x y => pyIx x y) := fun {x y B H v u} s hx hy n => by
  obtain ⟨p, rfl, hp, _⟩ := hx
  have pr : Paired (fun x u => RI.r x B u) x (x.map V.int) := by
    exact pairedInts x
  obtain ⟨c, w, ec, ew, rw'⟩ := pyIx_at pr n
  exact ⟨c, ec, fun Q q => ⟨p, _, y, w, rfl, hy, s.seq hp, ew, q w B H (Ext.refl s) rw'⟩⟩
/-- an item of a tuple of given kinds, at a written place -/
theorem ev_ixc {m : Rs τ} {n i : Nat} {f : τ → α} {c : Int} (at_ : HAt T n i R f) (hc : c = (i : Int)) (ha : EvM cm W ta As (RTu T) m) : EvM cm W (tOp (rIxT K) ta (tC (.int c))) As R (m.bind fun x => .ok (f x)) := fun B0 H0 σ B H s Q q qe qn => by
  refine ha B0 H0 σ B H s _ (fun a ea v B1 H1 x1 r1 => ?_) (fun e he => qe e (by rw [he]; rfl)) (Rs.bind_ne qn)
  subst ea
  obtain ⟨p, vs, rfl, hp, pr⟩ := r1
  obtain ⟨_, u, hu, r⟩ := at_ pr
  refine ⟨p, vs, c, u, rfl, rfl, .inl (.inl (x1.s _ _ hp)), ?_, q _ rfl u B1 H1 x1 r⟩
  rw [hc]
  exact atI_nat hu
def rLenS (K : PySem.W.Frag) : List V → Hp → VK → Prop := fun xs H Q => ∃ p ys, xs = [.ref p] ∧ (SqL K H p ys ∨ SqT K H p ys) ∧ Q (.int ys.length) H
theorem ev_lenl {m : Rs (List α)} (ha : EvL cm W ta As R m) : EvM cm W (tCB (rLenS K) (tCons ta tNil)) As RI (m.bind fun x => .ok (x.length : Int)) := fun B0 H0 σ B H s Q q qe qn => by
  refine ha B0 H0 σ B H s _ (fun a ea v B1 H1 x1 r1 => ?_) (fun e he => qe e (by rw [he]; rfl)) (Rs.bind_ne qn)
  subst ea
  obtain ⟨p, vs, rfl, hp, pr, _⟩ := r1
  exact ⟨p, vs, rfl, .inl (.inl (.inl hp)), q _ rfl _ B1 H1 x1 (by rw [← pairedLen pr]; rfl)⟩
theorem ev_lent {m : Rs (List α)} (ha : EvM cm W ta As (RT R) m) : EvM cm W (tCB (rLenS K) (tCons ta tNil)) As RI (m.bind fun x => .ok (x.length : Int)) := fun B0 H0 σ B H s Q q qe qn => by
  refine ha B0 H0 σ B H s _ (fun a ea v B1 H1 x1 r1 => ?_) (fun e he => qe e (by rw [he]; rfl)) (Rs.bind_ne qn)
  subst ea
  obtain ⟨p, vs, rfl, hp, pr, _⟩ := r1
  exact ⟨p, vs, rfl, .inr (.inl (.inl (x1.s _ _ hp))), q _ rfl _ B1 H1 x1 (by rw [← pairedLen pr]; rfl)⟩
theorem ev_lens {m : Rs (List Int)} (ha : EvM cm W ta As (RSc K) m) : EvM cm W (tCB (rLenS K) (tCons ta tNil)) As RI (m.bind fun x => .ok (x.length : Int)) := fun B0 H0 σ B H s Q q qe qn => by
  refine ha B0 H0 σ B H s _ (fun a ea v B1 H1 x1 r1 => ?_) (fun e he => qe e (by rw [he]; rfl)) (Rs.bind_ne qn)
  subst ea
  obtain ⟨p, rfl, hp, _⟩ := r1
  exact ⟨p, _, rfl, .inl (x1.s.seq hp), q _ rfl _ B1 H1 x1 (by rw [List.length_map]; rfl)⟩
theorem ev_lenu {m : Rs τ} {n i : Nat} {f : τ → α} (at_ : HAt T n i R f) (ha : EvM cm W ta As (RTu T) m) : EvM cm W (tCB (rLenS K) (tCons ta tNil)) As RI (m.bind fun x => .ok (n : Int)) := fun B0 H0 σ B H s Q q qe qn => by
  refine ha B0 H0 σ B H s _ (fun a ea v B1 H1 x1 r1 => ?_) (fun e he => qe e (by rw [he]; rfl)) (Rs.bind_ne qn)
  subst ea
  obtain ⟨p, vs, rfl, hp, pr⟩ := r1
  exact ⟨p, vs, rfl, .inr (.inl (.inl (x1.s _ _ hp))), q _ rfl _ B1 H1 x1 (by rw [(at_ pr).1]; rfl)⟩
def rTupS (K : PySem.W.Frag) : List V → Hp → VK → Prop := fun xs H Q => ∃ p ys, xs = [.ref p] ∧ ((SqL K H p ys ∧ ∀ l, H l = none → Q (.ref l) (upd H l (.tup ys))) ∨ (SqT K H p ys ∧ Q (.ref p) H))
/-- tuple(a list) -/
theorem ev_tupl {m : Rs (List α)} (ha : EvL cm W ta As R m) : EvM cm W (tCB (rTupS K) (tCons ta tNil)) As (RT R) m := fun B0 H0 σ B H s Q q qe qn => by
  refine ha B0 H0 σ B H s _ (fun a ea v B1 H1 x1 r1 => ?_) qe qn
  obtain ⟨p, vs, rfl, hp, pr, hz⟩ := r1
  exact ⟨p, vs, rfl, .inl ⟨.inl (.inl hp), fun l hl => q a ea _ _ _ (x1.trans (Ext.new x1.s hl)) ⟨l, vs, rfl, upd_same, pairedUp pr fun _ _ z => R.up (same_upd (x1.s.free hl)) z, hz⟩⟩⟩
/-- tuple(a tuple) -/
theorem ev_tupt {m : Rs (List α)} (ha : EvM cm W ta As (RT R) m) : EvM cm W (tCB (rTupS K) (tCons ta tNil)) As (RT R) m := fun B0 H0 σ B H s Q q qe qn => by
  refine ha B0 H0 σ B H s _ (fun a ea v B1 H1 x1 r1 => ?_) qe qn
  obtain ⟨p, vs, rfl, hp, pr, hz⟩ := r1
  exact ⟨p, vs, rfl, .inr ⟨.inl (.inl (x1.s _ _ hp)), q a ea _ B1 H1 x1 ⟨p, vs, rfl, hp, pr, hz⟩⟩⟩
def rListS (K : PySem.W.Frag) : List V → Hp → VK → Prop := fun xs H Q => ∃ p ys, xs = [.ref p] ∧ (SqL K H p ys ∨ SqT K H p ys) ∧ ∀ l, H l = none → Q (.ref l) (upd H l (.lst ys))
theorem new1 {B H : Hp} {l : Addr} {o : HO} (s : Same B H) (hl : H l = none) : ∀ b ∈ [l], H b = none ∧ B b = none ∧ (upd H l o) b ≠ none := fun b hb => by
  rw [List.mem_singleton] at hb
  subst hb
  exact ⟨hl, s.free hl, by rw [upd_same]; exact Option.some_ne_none _⟩
theorem Ext.newO {B H : Hp} {p : Addr} {o : HO} (s : Same B H) (h : H p = none) : Ext B H B (upd H p o) := ⟨same_upd h, Same.refl _, s.trans (same_upd h), fun _ _ => rfl⟩
theorem new1' {B H B' H' : Hp} {l : Addr} {o : HO} (x : Ext B H B' H') (hl : H' l = none) : ∀ b ∈ [l], H b = none ∧ B' b = none ∧ (upd H' l o) b ≠ none := fun b hb =>
  ⟨x.h.free (new1 (o := o) x.s hl b hb).1, (new1 (o := o) x.s hl b hb).2⟩
/-- list(..), a new one -/
theorem en_listl {m : Rs (List α)} (ha : EvL cm W ta As R m) : EvN cm W (tCB (rListS K) (tCons ta tNil)) As (OL R) m := fun B0 H0 σ B H s Q q qe qn => by
  refine ha B0 H0 σ B H s _ (fun a ea v B1 H1 x1 r1 => ?_) qe qn
  obtain ⟨p, vs, rfl, hp, pr, hz⟩ := r1
  exact ⟨p, vs, rfl, .inl (.inl (.inl hp)), fun l hl => q a ea _ [l] B1 _ (x1.trans (Ext.newO x1.s hl)) ⟨l, vs, rfl, rfl, upd_same, pr, hz⟩ (new1' x1 hl)⟩
theorem en_listt {m : Rs (List α)} (ha : EvM cm W ta As (RT R) m) : EvN cm W (tCB (rListS K) (tCons ta tNil)) As (OL R) m := fun B0 H0 σ B H s Q q qe qn => by
  refine ha B0 H0 σ B H s _ (fun a ea v B1 H1 x1 r1 => ?_) qe qn
  obtain ⟨p, vs, rfl, hp, pr, hz⟩ := r1
  exact ⟨p, vs, rfl, .inr (.inl (.inl (x1.s _ _ hp))), fun l hl => q a ea _ [l] B1 _ (x1.trans (Ext.newO x1.s hl)) ⟨l, vs, rfl, rfl, upd_same, pr, hz⟩ (new1' x1 hl)⟩
end
end Gd

namespace Gd
open PySem PySem.Spec PyProof.Rows L2

/-! ### blocks -/
structure Con (τ : Type) where
  c : τ → Hp → Hp → Ends → Prop
/-- a block that returns -/
def CR {ρ : Type} (Rr : Rel ρ) : Con ρ := ⟨fun r B0 H0 D => ∀ v B H, Ext B0 H0 B H → Rr.r r B v → D.rt v H⟩
/-- a block that goes on with a state -/
def CS {S : Type} (Post : S → List Sl) : Con S := ⟨fun s B0 H0 D => ∀ σ B H, St3 B0 H0 (Post s) σ B H → D.nx σ H⟩
/-- both, and break -/
def CB {S ρ : Type} (Rr : Rel ρ) (Post : S → List Sl) : Con (Fl S ρ) := ⟨fun f B0 H0 D => match f with
  | .nx s => ∀ σ B H, St3 B0 H0 (Post s) σ B H → D.nx σ H
  | .bk s => ∀ σ B H, St3 B0 H0 (Post s) σ B H → D.bk σ H
  | .rt r => ∀ v B H, Ext B0 H0 B H → Rr.r r B v → D.rt v H⟩
def Blk {τ : Type} (cm : Nat → Addr) (W : WX) (t : TS) (As : List Sl) (m : Rs τ) (C : Con τ) : Prop :=
  ∀ (B0 H0 : Hp) (D : Ends) (σ : L2.St) (B H : Hp), St3 B0 H0 As σ B H → (∀ a, m = .ok a → C.c a B0 H0 D) → (∀ e, m = .ex e → ∀ σ' H', Same H0 H' → W (.ref (cm e)) none σ' H') → m ≠ .no → t D σ H
/-- what one state holds and another leaves open -/
inductive Wk : List Sl → List Sl → Prop
  | nil : Wk [] []
  | k {s : Sl} {As Bs : List Sl} : Wk As Bs → Wk (s :: As) (s :: Bs)
  | u {s : Sl} {As Bs : List Sl} : Wk As Bs → Wk (s :: As) (.un :: Bs)
theorem Wk.len {As Bs : List Sl} (w : Wk As Bs) : As.length = Bs.length := by
  induction w with
  | nil => rfl
  | k _ ih => simp [ih]
  | u _ ih => simp [ih]
theorem Wk.get {As Bs : List Sl} (w : Wk As Bs) : ∀ {i : Nat} {s : Sl}, Bs[i]? = some s → s = .un ∨ As[i]? = some s := by
  induction w with
  | nil => intro i s h; simp at h
  | k _ ih =>
    intro i s h
    cases i with
    | zero => exact .inr h
    | succ i => exact ih (by simpa using h)
  | u _ ih =>
    intro i s h
    cases i with
    | zero =>
      left
      simp at h
      exact h.symm
    | succ i => exact ih (by simpa using h)
open Classical in
theorem St3.weak {B0 H0 B H : Hp} {As Bs : List Sl} {σ : L2.St} (S : St3 B0 H0 As σ B H) (w : Wk As Bs) : St3 B0 H0 Bs σ B H := by
  refine ⟨S.ext, S.len.trans w.len, ?_⟩
  obtain ⟨F, h1, h2, h3⟩ := S.fp
  refine ⟨fun j => if Bs[j]? = some .un then [] else F j, fun j s o ej eo => ?_, fun j b hb => ?_, fun j k b hb hc => ?_⟩
  · rcases w.get ej with e | e
    · subst e
      simp only [ej, if_true]
      rfl
    · by_cases hu : s = .un
      · subst hu
        simp only [ej, if_true]
        rfl
      · have hn : ¬ (Bs[j]? = some Sl.un) := fun z => hu (Option.some.inj (ej.symm.trans z))
        simp only [hn, if_false]
        exact h1 j s o e eo
  · by_cases hu : Bs[j]? = some Sl.un
    · simp [hu] at hb
    · simp only [hu, if_false] at hb
      rw [← w.len]
      exact h2 j b hb
  · by_cases hu : Bs[j]? = some Sl.un
    · simp [hu] at hb
    · by_cases hv : Bs[k]? = some Sl.un
      · simp [hv] at hc
      · simp only [hu, if_false] at hb
        simp only [hv, if_false] at hc
        exact h3 j k b hb hc
section
variable {cm : Nat → Addr} {W : WX} {As Bs : List Sl} {K : PySem.W.Frag} {α β γ τ τ' ρ S S' : Type} {R : Rel α} {Rb : Rel β} {T : HRel τ} {Rr : Rel ρ} {te ta tb tc : TE} {tt tu : TT} {t1 t2 tz : TS} {C : Con τ} {C' : Con τ'}
/-- B0, H0 as they were: for good | of one's own -/
theorem St3.len_lt {B0 H0 B H : Hp} {σ : L2.St} (s : St3 B0 H0 As σ B H) {i : Nat} (h : i < As.length) : i < σ.length := by rw [s.len]; exact h
theorem b_ret {m : Rs ρ} (h : EvM cm W te As Rr m) : Blk cm W (tSeq (tRet te) tz) As m (CR Rr) := fun B0 H0 D σ B H s q qe qn =>
  h B0 H0 σ B H s _ (fun a ea v B' H' x r => q a ea v B' H' (s.ext.trans x) r) (fun e he H' hs => qe e he σ H' (s.ext.h.trans hs)) qn
theorem b_retF {m : Rs ρ} {Post : S → List Sl} (h : EvM cm W te As Rr m) : Blk cm W (tSeq (tRet te) tz) As (m.bind fun r => .ok (Fl.rt r)) (CB Rr Post) := fun B0 H0 D σ B H s q qe qn =>
  h B0 H0 σ B H s _ (fun a ea v B' H' x r => q (.rt a) (by rw [ea]; rfl) v B' H' (s.ext.trans x) r) (fun e he H' hs => qe e (by rw [he]; rfl) σ H' (s.ext.h.trans hs)) (Rs.bind_ne qn)
theorem b_asg {i : Nat} {m : Rs α} {k : α → Rs τ} (h : EvM cm W te As R m) (hz : ∀ a, Blk cm W tz (As.set i (.fz R a)) (k a) C) : Blk cm W (tSeq (tAsg te (gName i)) tz) As (m.bind k) C := fun B0 H0 D σ B H s q qe qn =>
  h B0 H0 σ B H s _ (fun a ea v B' H' x r => by
    subst ea
    exact hz a B0 H0 D _ B' H' ((s.mono x).set r) q qe qn) (fun e he H' hs => qe e (by rw [he]; rfl) σ H' (s.ext.h.trans hs)) (Rs.bind_ne qn)
theorem b_drop {m : Rs α} {k : α → Rs τ} (h : EvM cm W te As R m) (hz : ∀ a, Blk cm W tz As (k a) C) : Blk cm W (tSeq (tDrop te) tz) As (m.bind k) C := fun B0 H0 D σ B H s q qe qn =>
  h B0 H0 σ B H s _ (fun a ea v B' H' x r => by
    subst ea
    exact hz a B0 H0 D _ B' H' (s.mono x) q qe qn) (fun e he H' hs => qe e (by rw [he]; rfl) σ H' (s.ext.h.trans hs)) (Rs.bind_ne qn)
/-- a slot gets a new thing of its own -/
theorem b_new {i : Nat} {O : Own β} {m : Rs β} {k : β → Rs τ} (h : EvN cm W te As O m) (hi : i < As.length) (hz : ∀ a, Blk cm W tz (As.set i (.ow O a)) (k a) C) : Blk cm W (tSeq (tAsg te (gName i)) tz) As (m.bind k) C := fun B0 H0 D σ B H s q qe qn =>
  h B0 H0 σ B H s _ (fun a ea v fp B' H' x r hf => by
    subst ea
    -- St3 at (B', H'), the new slot
    have s1 : St3 B0 H0 As σ B' H' := s.mono x
    refine hz a B0 H0 D _ B' H' ?_ q qe qn
    obtain ⟨F, h1, h2, h3⟩ := s.fp
    obtain ⟨F1, g1, _, _⟩ := s1.fp
    have hl : i < σ.length := s.len_lt hi
    refine ⟨s1.ext, by rw [List.length_set, List.length_set, s.len], fun j => if j = i then fp else F j, fun j sl o ej eo => ?_, fun j b hb => ?_, fun j k b hb hc => ?_⟩
    · by_cases hj : j = i
      · subst hj
        rw [List.getElem?_set_self hi] at ej
        rw [List.getElem?_set_self hl] at eo
        cases ej
        cases eo
        simp only [if_pos]
        exact ⟨v, rfl, r⟩
      · rw [List.getElem?_set_ne (Ne.symm hj)] at ej eo
        simp only [if_neg hj]
        refine (h1 j sl o ej eo).up x.b fun a ha => ?_
        obtain ⟨_, _, _, hn⟩ := h2 j a ha
        cases q : H a with
        | none => exact absurd q hn
        | some u => exact x.h _ _ q
    · by_cases hj : j = i
      · simp only [if_pos hj] at hb
        obtain ⟨q1, q2, q3⟩ := hf b hb
        rw [List.length_set, hj]
        exact ⟨hi, s.ext.h.free q1, q2, q3⟩
      · simp only [if_neg hj] at hb
        obtain ⟨q0, q1, q2, q3⟩ := h2 j b hb
        rw [List.length_set]
        refine ⟨q0, q1, (x.n b q3).trans q2, fun e => ?_⟩
        cases q : H b with
        | none => exact q3 q
        | some u => rw [x.h _ _ q] at e; cases e
    · by_cases hj : j = i
      · by_cases hk : k = i
        · rw [hj, hk]
        · simp only [if_pos hj] at hb
          simp only [if_neg hk] at hc
          exact absurd (hf b hb).1 (h2 k b hc).2.2.2
      · by_cases hk : k = i
        · simp only [if_neg hj] at hb
          simp only [if_pos hk] at hc
          exact absurd (hf b hc).1 (h2 j b hb).2.2.2
        · simp only [if_neg hj] at hb
          simp only [if_neg hk] at hc
          exact h3 j k b hb hc) (fun e he H' hs => qe e (by rw [he]; rfl) σ H' (s.ext.h.trans hs)) (Rs.bind_ne qn)
theorem b_freeze {t : TS} {i : Nat} {xs : List α} {m : Rs τ} (hi : As[i]? = some (.ow (OL R) xs)) (h : Blk cm W t (As.set i (.fz (RL R) xs)) m C) : Blk cm W t As m C := fun B0 H0 D σ B H s q qe qn => by
  obtain ⟨B', s', _⟩ := s.freeze hi
  exact h B0 H0 D σ B' H s' q qe qn
theorem b_weak {t : TS} {m : Rs τ} (w : Wk As Bs) (h : Blk cm W t Bs m C) : Blk cm W t As m C := fun B0 H0 D σ B H s q qe qn => h B0 H0 D σ B H (s.weak w) q qe qn
/-- the end of a block -/
theorem b_nil {Post : S → List Sl} {s : S} (w : Wk As (Post s)) : Blk cm W tNext As (.ok s) (CS Post) := fun B0 H0 D σ B H st q _ _ => q s rfl σ B H (st.weak w)
theorem b_nilF {Post : S → List Sl} {s : S} (w : Wk As (Post s)) : Blk cm W tNext As (.ok (.nx s)) (CB Rr Post) := fun B0 H0 D σ B H st q _ _ => q _ rfl σ B H (st.weak w)
theorem b_brk {Post : S → List Sl} {s : S} (w : Wk As (Post s)) : Blk cm W (tSeq tBreak tz) As (.ok (.bk s)) (CB Rr Post) := fun B0 H0 D σ B H st q _ _ => q _ rfl σ B H (st.weak w)
/-- a def's end without return -/
theorem b_end {C : Con Unit} (hC : C = ⟨fun _ B0 H0 D => ∀ σ B H, Ext B0 H0 B H → D.nx σ H⟩) : Blk cm W tNext As (.ok ()) C := fun B0 H0 D σ B H st q _ _ => by
  subst hC
  exact q () rfl σ B H st.ext
/-- if c: a block that returns -/
theorem b_ifR {mc : Rs Bool} {mA mz : Rs ρ} (ht : EvT cm W tt As mc) (h1 : Blk cm W t1 As mA (CR Rr)) (h2 : Blk cm W tz As mz (CR Rr)) : Blk cm W (tSeq (tIfS tt t1 tNext) tz) As (mc.bind fun b => if b = true then mA else mz) (CR Rr) := fun B0 H0 D σ B H s q qe qn =>
  ht B0 H0 σ B H s _ (fun b eb B' H' x => by
    subst eb
    cases b with
    | true => exact h1 B0 H0 { D with nx := tz D } σ B' H' (s.mono x) (fun a ea => q a ea) qe qn
    | false => exact h2 B0 H0 D σ B' H' (s.mono x) q qe qn) (fun e he H' hs => qe e (by rw [he]; rfl) σ H' (s.ext.h.trans hs)) (Rs.bind_ne qn)
theorem b_ifF {mc : Rs Bool} {mA : Rs ρ} {mz : Rs (Fl S ρ)} {Post : S → List Sl} (ht : EvT cm W tt As mc) (h1 : Blk cm W t1 As mA (CR Rr)) (h2 : Blk cm W tz As mz (CB Rr Post)) :
    Blk cm W (tSeq (tIfS tt t1 tNext) tz) As (mc.bind fun b => if b = true then mA.bind (fun r => .ok (Fl.rt r)) else mz) (CB Rr Post) := fun B0 H0 D σ B H s q qe qn =>
  ht B0 H0 σ B H s _ (fun b eb B' H' x => by
    subst eb
    cases b with
    | true =>
      refine h1 B0 H0 { D with nx := tz D } σ B' H' (s.mono x) (fun a ea => ?_) (fun e he => qe e (by rw [Rs.bind_ok, if_pos rfl, he]; rfl)) (Rs.bind_ne (m := mA) qn)
      exact q (.rt a) (by rw [Rs.bind_ok, if_pos rfl, ea]; rfl)
    | false => exact h2 B0 H0 D σ B' H' (s.mono x) q qe qn) (fun e he H' hs => qe e (by rw [he]; rfl) σ H' (s.ext.h.trans hs)) (Rs.bind_ne qn)
/-- if c: .. else: .., both go on -/
theorem b_if {mc : Rs Bool} {mA mB : Rs S} {Post : S → List Sl} {k : S → Rs τ} (ht : EvT cm W tt As mc) (h1 : Blk cm W t1 As mA (CS Post)) (h2 : Blk cm W t2 As mB (CS Post)) (hz : ∀ s, Blk cm W tz (Post s) (k s) C) :
    Blk cm W (tSeq (tIfS tt t1 t2) tz) As (mc.bind fun b => (if b = true then mA else mB).bind k) C := fun B0 H0 D σ B H s q qe qn =>
  ht B0 H0 σ B H s _ (fun b eb B' H' x => by
    subst eb
    cases b with
    | true =>
      refine h1 B0 H0 { D with nx := tz D } σ B' H' (s.mono x) (fun a ea σ2 B2 H2 s2 => ?_) (fun e he => qe e (by rw [Rs.bind_ok, if_pos rfl, he]; rfl)) (Rs.bind_ne (m := mA) qn)
      have e1 : (Rs.ok true).bind (fun b => (if b = true then mA else mB).bind k) = k a := by rw [Rs.bind_ok, if_pos rfl, ea]; rfl
      rw [e1] at q qe qn
      exact hz a B0 H0 D σ2 B2 H2 s2 q qe qn
    | false =>
      refine h2 B0 H0 { D with nx := tz D } σ B' H' (s.mono x) (fun a ea σ2 B2 H2 s2 => ?_) (fun e he => qe e (by rw [Rs.bind_ok, if_neg (by decide), he]; rfl)) (Rs.bind_ne (m := mB) qn)
      have e1 : (Rs.ok false).bind (fun b => (if b = true then mA else mB).bind k) = k a := by rw [Rs.bind_ok, if_neg (by decide), ea]; rfl
      rw [e1] at q qe qn
      exact hz a B0 H0 D σ2 B2 H2 s2 q qe qn) (fun e he H' hs => qe e (by rw [he]; rfl) σ H' (s.ext.h.trans hs)) (Rs.bind_ne qn)
/-- what stands behind a block that may return -/
def Rs.thn {S ρ τ : Type} (m : Rs (Fl S ρ)) (g : ρ → τ) (k : S → Rs τ) : Rs τ := m.bind fun f => match f with
  | .nx s => k s
  | .bk s => k s
  | .rt r => .ok (g r)
/-- how what a block returns stands in what is around it -/
def Up (C : Con τ) (Rr : Rel ρ) (g : ρ → τ) : Prop := ∀ r B0 H0 D D', D'.rt = D.rt → C.c (g r) B0 H0 D → (CR Rr).c r B0 H0 D'
theorem up_r : Up (CR Rr) Rr (fun r => r) := fun r B0 H0 D D' e h v B H x z => by
  rw [e]
  exact h v B H x z
theorem up_f {Post : S → List Sl} : Up (CB Rr Post) Rr (fun r => Fl.rt r) := fun r B0 H0 D D' e h v B H x z => by
  rw [e]
  exact h v B H x z
/-- the same, a block of which a branch may return -/
theorem b_ifG {mc : Rs Bool} {mA mB : Rs (Fl S ρ)} {Post : S → List Sl} {k : S → Rs τ} {g : ρ → τ} (up : Up C Rr g) (ht : EvT cm W tt As mc) (h1 : Blk cm W t1 As mA (CB Rr Post)) (h2 : Blk cm W t2 As mB (CB Rr Post)) (hz : ∀ s, Blk cm W tz (Post s) (k s) C)
    (hbk : ∀ s, mA ≠ .ok (.bk s) ∧ mB ≠ .ok (.bk s)) : Blk cm W (tSeq (tIfS tt t1 t2) tz) As (mc.bind fun b => (Rs.thn (if b = true then mA else mB) g k)) C := fun B0 H0 D σ B H s q qe qn =>
  ht B0 H0 σ B H s _ (fun b eb B' H' x => by
    subst eb
    have go : ∀ (t : TS) (mm : Rs (Fl S ρ)), (Rs.thn (if b = true then mA else mB) g k) = Rs.thn mm g k → (∀ s, mm ≠ .ok (.bk s)) → Blk cm W t As mm (CB Rr Post) → t { D with nx := tz D } σ H' := fun t mm em hb hblk => by
      have q' : ∀ a, Rs.thn mm g k = .ok a → C.c a B0 H0 D := by rw [← em]; exact q
      have qe' : ∀ e, Rs.thn mm g k = .ex e → ∀ σ' H', Same H0 H' → W (.ref (cm e)) none σ' H' := by rw [← em]; exact qe
      have qn' : Rs.thn mm g k ≠ .no := by rw [← em]; exact qn
      refine hblk B0 H0 { D with nx := tz D } σ B' H' (s.mono x) (fun a ea => ?_) (fun e he => qe' e (by rw [he]; rfl)) (Rs.bind_ne (m := mm) qn')
      subst ea
      cases a with
      | nx s' => exact fun σ2 B2 H2 s2 => hz s' B0 H0 D σ2 B2 H2 s2 q' qe' qn'
      | bk s' => exact absurd rfl (hb s')
      | rt r => exact up r B0 H0 D _ rfl (q' (g r) rfl)
    cases b with
    | true => exact go t1 mA rfl (fun s => (hbk s).1) h1
    | false => exact go t2 mB rfl (fun s => (hbk s).2) h2) (fun e he H' hs => qe e (by rw [he]; rfl) σ H' (s.ext.h.trans hs)) (Rs.bind_ne qn)
/-- the last statement -/
theorem b_ifE {mc : Rs Bool} {mA mB : Rs ρ} (ht : EvT cm W tt As mc) (h1 : Blk cm W t1 As mA (CR Rr)) (h2 : Blk cm W t2 As mB (CR Rr)) : Blk cm W (tSeq (tIfS tt t1 t2) tz) As (mc.bind fun b => if b = true then mA else mB) (CR Rr) := fun B0 H0 D σ B H s q qe qn =>
  ht B0 H0 σ B H s _ (fun b eb B' H' x => by
    subst eb
    cases b with
    | true => exact h1 B0 H0 { D with nx := tz D } σ B' H' (s.mono x) (fun a ea => q a ea) qe qn
    | false => exact h2 B0 H0 { D with nx := tz D } σ B' H' (s.mono x) (fun a ea => q a ea) qe qn) (fun e he H' hs => qe e (by rw [he]; rfl) σ H' (s.ext.h.trans hs)) (Rs.bind_ne qn)
noncomputable def push (xs : List α) (a : α) : Rs (List α) := Rs.gd (xs.length < 16777216) (.ok (xs ++ [a]))
theorem push_ok {xs : List α} {a : α} (h : xs.length < 16777216) : push xs a = .ok (xs ++ [a]) := Rs.gd_pos h
/-- xs.append(e) -/
theorem b_app {i : Nat} {xs : List α} {m : Rs α} {k : List α → Rs τ} (hi : As[i]? = some (.ow (OL R) xs)) (h : EvM cm W te As R m) (hz : ∀ ys, Blk cm W tz (As.set i (.ow (OL R) ys)) (k ys) C) :
    Blk cm W (tSeq (tDrop (tBM K "list" rAppend (tVar i) (tCons te tNil))) tz) As (m.bind fun a => (push xs a).bind k) C := fun B0 H0 D σ B H s q qe qn => by
  obtain ⟨v0, fp0, e0, p, vs, ev0, efp, hp, pr, hz0⟩ := s.ow hi
  refine ⟨v0, e0, ?_⟩
  refine ⟨by rw [ev0]; exact .inl ⟨rfl, vs, .inl (.inl hp)⟩, ?_⟩
  refine h B0 H0 σ B H s _ (fun a ea v B' H' x r => ?_) (fun e he H' hs => qe e (by rw [he]; rfl) σ H' (s.ext.h.trans hs)) (Rs.bind_ne qn)
  subst ea
  have n1 : push xs a ≠ .no := Rs.bind_ne (m := push xs a) qn
  have hl : xs.length < 16777216 := Rs.gd_ne n1
  have e1 : ((Rs.ok a).bind fun a => (push xs a).bind k) = k (xs ++ [a]) := by rw [Rs.bind_ok, push_ok hl]; rfl
  rw [e1] at q qe qn
  have hp' : H' p = some (.lst vs) := x.h _ _ hp
  have sz : vs.length < sizeLine := by rw [← pairedLen pr, sizeLine_eq]; exact hl
  refine ⟨p, vs, v, ev0, rfl, hp', sz, ?_⟩
  refine hz (xs ++ [a]) B0 H0 D σ B' _ ((s.mono x).chg (O' := OL R) hi fun w fp ew hr hfp => ?_) q qe qn
  obtain ⟨p2, vs2, rfl, ef2, hp2, pr2, hz2⟩ := hr
  rw [e0] at ew
  have ep : p2 = p := by
    have := Option.some.inj (Option.some.inj ew)
    rw [ev0] at this
    exact (V.ref.inj this).symm
  subst ep
  have evs : vs2 = vs := by
    rw [hp'] at hp2
    cases hp2
    rfl
  subst evs
  refine ⟨fp, ⟨p2, vs2 ++ [v], rfl, ef2, upd_same, pairedApp pr2 (.cons r .nil), ?_⟩, fun b hb => ⟨.inl hb, ?_⟩, fun b hb _ => upd_ne fun e => hb (by rw [ef2, e]; exact List.mem_singleton.mpr rfl)⟩
  · rw [List.length_append, sizeLine_eq]
    show xs.length + 1 ≤ 16777216
    omega
  · rw [ef2, List.mem_singleton] at hb
    rw [hb, upd_same]
    exact Option.some_ne_none _
/-- raise X(..) -/
theorem b_raise {e : Nat} {c : Addr} (hc : cm e = c) {tr : L2.St → Hp → XK → Prop} (htr : ∀ σ H Q, Q (.ref c) none H → tr σ H Q) {C : Con τ} : Blk cm W (tSeq (fun _ σ H => tr σ H fun cls d H' => W cls d σ H') tz) As (.ex e) C := fun B0 H0 D σ B H s _ qe _ => by
  refine htr σ H _ ?_
  rw [← hc]
  exact qe e rfl σ H s.ext.h
/-! ### loops -/
def Rs.foldR {α S : Type} (f : S → α → Rs S) : S → List α → Rs S
  | s, [] => .ok s
  | s, x :: xs => (f s x).bind fun s' => Rs.foldR f s' xs
def Fl.go {S ρ : Type} (r : Fl S ρ) (k : S → Rs (Fl S ρ)) : Rs (Fl S ρ) := match r with
  | .nx s => k s
  | .bk s => .ok (.bk s)
  | .rt r => .ok (.rt r)
def Rs.forF {α S ρ : Type} (f : S → α → Rs (Fl S ρ)) : S → List α → Rs (Fl S ρ)
  | s, [] => .ok (.nx s)
  | s, x :: xs => (f s x).bind fun r => Fl.go r fun s' => Rs.forF f s' xs
theorem foldR_next {f : S → α → Rs S} {s : S} {xs : List α} {i : Nat} {x : α} (h : xs[i]? = some x) : Rs.foldR f s (xs.drop i) = (f s x).bind fun s' => Rs.foldR f s' (xs.drop (i + 1)) := by
  obtain ⟨hi, e⟩ := List.getElem?_eq_some_iff.mp h
  rw [List.drop_eq_getElem_cons hi, e]
  rfl
theorem forF_next {f : S → α → Rs (Fl S ρ)} {s : S} {xs : List α} {i : Nat} {x : α} (h : xs[i]? = some x) : Rs.forF f s (xs.drop i) = (f s x).bind fun r => Fl.go r fun s' => Rs.forF f s' (xs.drop (i + 1)) := by
  obtain ⟨hi, e⟩ := List.getElem?_eq_some_iff.mp h
  rw [List.drop_eq_getElem_cons hi, e]
  rfl
/-- range(a, b), range(b) -/
def rng (lo hi : Int) : List Int := (List.range (hi - lo).toNat).map fun (i : Nat) => lo + (i : Int)
theorem rng_len (lo hi : Int) : (rng lo hi).length = (hi - lo).toNat := by unfold rng; rw [List.length_map, List.length_range]
theorem rng_get {lo hi : Int} {i : Nat} (h : i < (hi - lo).toNat) : (rng lo hi)[i]? = some (lo + (i : Int)) := by
  unfold rng
  rw [List.getElem?_map, List.getElem?_range h]
  rfl
/-- bounds of a range -/
noncomputable def rngR (lo hi : Int) : Rs (List Int) := Rs.gd (-4611686018427387904 ≤ lo ∧ lo < 4611686018427387904 ∧ -4611686018427387904 ≤ hi ∧ hi < 4611686018427387904 ∧ hi - lo ≤ 16777216) (.ok (rng lo hi))
theorem rngR_ok {lo hi : Int} (h : -4611686018427387904 ≤ lo ∧ lo < 4611686018427387904 ∧ -4611686018427387904 ≤ hi ∧ hi < 4611686018427387904 ∧ hi - lo ≤ 16777216) : rngR lo hi = .ok (rng lo hi) := Rs.gd_pos h
/-- what an iterator hands out, while G stands: xs, each as it stands at B' -/
structure JOk (J : It) (G B' : Hp) (R : Rel α) (xs : List α) : Prop where
  go : ∀ i H2, Same G H2 → i < xs.length → J.go i H2
  stop : ∀ i H2, Same G H2 → xs.length ≤ i → J.stop i H2
  yld : ∀ i H2 x H3, Same G H2 → i < xs.length → J.yld i H2 x H3 → ∃ a, xs[i]? = some a ∧ ∀ B2, Same B' B2 → Same B2 H2 → ∃ B3, Ext B2 H2 B3 H3 ∧ R.r a B3 x
  len : xs.length ≤ sizeLine
/-- what a for walks; all of it for good (b) or also a list of one's own -/
def WI (b : Bool) (cm : Nat → Addr) (W : WX) (wi : TI) (As : List Sl) (R : Rel α) (m : Rs (List α)) : Prop :=
  ∀ (B0 H0 : Hp) (σ : L2.St) (B H : Hp), St3 B0 H0 As σ B H → ∀ (Q : It → Hp → Prop), (∀ xs, m = .ok xs → ∀ (J : It) B' H' G, Ext B H B' H' → Same G H' → Same B' G → (b = true → G = B') → JOk J G B' R xs → Q J H') →
    (∀ e, m = .ex e → ∀ H', Same H H' → W (.ref (cm e)) none σ H') → m ≠ .no → wi σ H Q
theorem jok_list {G B' : Hp} {p : Addr} {vs : List V} {xs : List α} (hp : G p = some (.lst vs)) (pr : Paired (fun x u => R.r x B' u) xs vs) (hz : xs.length ≤ sizeLine) : JOk (Itl K p) G B' R xs := by
  have in_ : ∀ H2, Same G H2 → SqL K H2 p vs := fun H2 s => .inl (.inl (s _ _ hp))
  refine ⟨fun i H2 s hi => ?_, fun i H2 s hi => ⟨vs, in_ H2 s, by rw [← pairedLen pr]; exact hi⟩, fun i H2 x H3 s _ y => ?_, hz⟩
  · have hv : i < vs.length := by rw [← pairedLen pr]; exact hi
    exact ⟨vs, vs[i], in_ H2 s, List.getElem?_eq_getElem hv⟩
  · obtain ⟨e, y⟩ := y
    subst e
    obtain ⟨a, ha, r⟩ := pairedGetV pr (y vs (in_ _ s))
    exact ⟨a, ha, fun B2 b s2 => ⟨B2, Ext.refl s2, R.up b r⟩⟩
theorem jok_tup {G B' : Hp} {p : Addr} {vs : List V} {xs : List α} (hp : G p = some (.tup vs)) (pr : Paired (fun x u => R.r x B' u) xs vs) (hz : xs.length ≤ sizeLine) : JOk (Itt K p) G B' R xs := by
  have in_ : ∀ H2, Same G H2 → SqT K H2 p vs := fun H2 s => .inl (.inl (s _ _ hp))
  refine ⟨fun i H2 s hi => ?_, fun i H2 s hi => ⟨vs, in_ H2 s, by rw [← pairedLen pr]; exact hi⟩, fun i H2 x H3 s _ y => ?_, hz⟩
  · have hv : i < vs.length := by rw [← pairedLen pr]; exact hi
    exact ⟨vs, vs[i], in_ H2 s, List.getElem?_eq_getElem hv⟩
  · obtain ⟨e, y⟩ := y
    subst e
    obtain ⟨a, ha, r⟩ := pairedGetV pr (y vs (in_ _ s))
    exact ⟨a, ha, fun B2 b s2 => ⟨B2, Ext.refl s2, R.up b r⟩⟩
theorem jok_rng {G B' : Hp} {lo hi : Int} (hz : hi - lo ≤ 16777216) : JOk (Itr lo (hi - lo).toNat) G B' RI (rng lo hi) := by
  refine ⟨fun i H2 _ hi => by rw [rng_len] at hi; exact hi, fun i H2 _ hi => by rw [rng_len] at hi; exact hi, fun i H2 x H3 _ hl y => ?_, ?_⟩
  · obtain ⟨e, y⟩ := y
    subst e
    rw [rng_len] at hl
    exact ⟨_, rng_get hl, fun B2 _ s2 => ⟨B2, Ext.refl s2, y⟩⟩
  · rw [rng_len, sizeLine_eq]
    omega
theorem wi_list {m : Rs (List α)} (h : EvM cm W te As (RL R) m) : WI true cm W (iList K te) As R m := fun B0 H0 σ B H s Q q qe qn =>
  h B0 H0 σ B H s _ (fun a ea v B' H' x r => by
    obtain ⟨p, vs, rfl, hp, pr, hz⟩ := r
    exact ⟨p, rfl, ⟨vs, .inl (.inl (x.s _ _ hp))⟩, q a ea _ B' H' B' x x.s (Same.refl _) (fun _ => rfl) (jok_list hp pr hz)⟩) qe qn
theorem wi_tup {m : Rs (List α)} (h : EvM cm W te As (RT R) m) : WI true cm W (iTup K te) As R m := fun B0 H0 σ B H s Q q qe qn =>
  h B0 H0 σ B H s _ (fun a ea v B' H' x r => by
    obtain ⟨p, vs, rfl, hp, pr, hz⟩ := r
    exact ⟨p, rfl, ⟨vs, .inl (.inl (x.s _ _ hp))⟩, q a ea _ B' H' B' x x.s (Same.refl _) (fun _ => rfl) (jok_tup hp pr hz)⟩) qe qn
/-- a list of one's own (in a comprehension) -/
theorem wi_own {m : Rs (List α)} (h : EvL cm W te As R m) : WI false cm W (iList K te) As R m := fun B0 H0 σ B H s Q q qe qn =>
  h B0 H0 σ B H s _ (fun a ea v B' H' x r => by
    obtain ⟨p, vs, rfl, hp, pr, hz⟩ := r
    exact ⟨p, rfl, ⟨vs, .inl (.inl hp)⟩, q a ea _ B' H' H' x (Same.refl _) x.s (fun z => nomatch z) (jok_list hp pr hz)⟩) qe qn
theorem wi_rng1 {tr : TA} {m : Rs Int} (h : EvAr cm W tr As (H1 RI) m) : WI true cm W (iRng1 tr) As RI (m.bind fun n => rngR 0 n) := fun B0 H0 σ B H s Q q qe qn =>
  h B0 H0 σ B H s _ (fun n ea v B' H' x r => by
    subst ea
    have n1 := Rs.gd_ne (show rngR 0 n ≠ .no from qn)
    have e1 : (Rs.ok n).bind (fun n => rngR 0 n) = .ok (rng 0 n) := rngR_ok n1
    obtain ⟨u, rfl, hu⟩ := r
    rw [show u = .int n from hu]
    refine ⟨n, rfl, by omega, by omega, ?_⟩
    have e2 : n.toNat = (n - 0).toNat := by simp
    rw [e2]
    exact q _ e1 _ B' H' B' x x.s (Same.refl _) (fun _ => rfl) (jok_rng (by omega))) (fun e he => qe e (by rw [he]; rfl)) (Rs.bind_ne qn)
theorem wi_rng2 {tr : TA} {m : Rs (Int × Int)} (h : EvAr cm W tr As (HC RI (H1 RI)) m) : WI true cm W (iRng2 tr) As RI (m.bind fun n => rngR n.1 n.2) := fun B0 H0 σ B H s Q q qe qn =>
  h B0 H0 σ B H s _ (fun n ea v B' H' x r => by
    subst ea
    have n1 := Rs.gd_ne (show rngR n.1 n.2 ≠ .no from qn)
    have e1 : (Rs.ok n).bind (fun n => rngR n.1 n.2) = .ok (rng n.1 n.2) := rngR_ok n1
    obtain ⟨u, us, rfl, hu, u2, rfl, hu2⟩ := r
    rw [show u = .int n.1 from hu, show u2 = .int n.2 from hu2]
    exact ⟨n.1, n.2, rfl, by omega, q _ e1 _ B' H' B' x x.s (Same.refl _) (fun _ => rfl) (jok_rng (by omega))⟩) (fun e he => qe e (by rw [he]; rfl)) (Rs.bind_ne qn)
/-- a target: st what the slots hold behind it, js the slots stored -/
def EvG (g : TG) (R : Rel α) (st : α → List Sl → List Sl) (js : List Nat) : Prop := ∀ (B0 H0 : Hp) (As : List Sl) (σ : L2.St) (B H : Hp) (a : α) (v : V), St3 B0 H0 As σ B H → R.r a B v →
  ∀ Q : L2.St → Hp → Prop, (∀ σ', St3 B0 H0 (st a As) σ' B H → (∀ i, i ∉ js → σ'[i]? = σ[i]?) → σ'.length = σ.length → Q σ' H) → g v σ H Q
theorem eg_name (j : Nat) : EvG (gName j) R (fun a As => As.set j (.fz R a)) [j] := fun B0 H0 As σ B H a v s r Q q =>
  q _ (s.set r) (fun i hi => List.getElem?_set_ne fun e => hi (by rw [e]; exact List.mem_singleton.mpr rfl)) List.length_set
/-- a, b = .. -/
theorem eg_pair {γ : Type} {R : Rel α} {U : Rel γ} (i j : Nat) : EvG (gTup K 2 (gCons (gName i) (gCons (gName j) gNil))) (RTu (HC R (H1 U))) (fun a As => (As.set i (.fz R a.1)).set j (.fz U a.2)) [i, j] := fun B0 H0 As σ B H a v s r Q q => by
  obtain ⟨p, vs, rfl, hp, u, us, rfl, h1, u2, rfl, h2⟩ := r
  refine ⟨p, _, rfl, .inl (.inl (s.ext.s _ _ hp)), rfl, u, [u2], rfl, u2, [], rfl, rfl, ?_⟩
  refine q _ ((s.set h1).set h2) (fun k hk => ?_) (by rw [List.length_set, List.length_set])
  rw [List.getElem?_set_ne fun e => hk (by rw [e]; simp), List.getElem?_set_ne fun e => hk (by rw [e]; simp)]
theorem eg_pairT {R : Rel α} {xs0 : Unit} (i j : Nat) : EvG (gTup K 2 (gCons (gName i) (gCons (gName j) gNil))) (RTu (HC R (H1 R))) (fun a As => (As.set i (.fz R a.1)).set j (.fz R a.2)) [i, j] := eg_pair i j
/-- the ground at a loop's start counts as there from the start on -/
def uni (B H : Hp) : Hp := fun x => match B x with
  | some o => some o
  | none => H x
theorem uni_same {B H : Hp} : Same B (uni B H) := fun x o e => by
  unfold uni
  rw [e]
theorem ext_re {B0 H0 B1 H1 : Hp} (x : Ext B0 H0 B1 H1) {B H : Hp} (b : Same B1 B) (y : Ext B0 H0 B H) : Ext B1 (uni B1 H0) B H := by
  refine ⟨fun a o e => ?_, b, y.s, fun a ha => ?_⟩
  · unfold uni at e
    cases q : B1 a with
    | some u =>
      rw [q] at e
      cases e
      exact y.s _ _ (b _ _ q)
    | none =>
      rw [q] at e
      exact y.h _ _ e
  · unfold uni at ha
    cases q : B1 a with
    | some u => exact b _ _ q
    | none =>
      rw [q] at ha
      rw [← q, y.n a ha, x.n a ha]
theorem ext_un {B0 H0 B1 H1 : Hp} (x : Ext B0 H0 B1 H1) {B H : Hp} (y : Ext B1 (uni B1 H0) B H) : Ext B0 H0 B H := by
  refine ⟨fun a o e => y.h a o ?_, x.b.trans y.b, y.s, fun a ha => ?_⟩
  · unfold uni
    cases q : B1 a with
    | none => exact e
    | some u =>
      have e2 := x.n a (by rw [e]; exact Option.some_ne_none _)
      have e3 : H1 a = some o := x.h _ _ e
      have e4 : H1 a = some u := x.s _ _ q
      rw [e3] at e4
      exact e4.symm
  · have h1 : (uni B1 H0) a ≠ none := by
      unfold uni
      cases q : B1 a with
      | none => exact ha
      | some u => exact Option.some_ne_none _
    rw [y.n a h1, x.n a ha]
theorem same_un {B1 H0 H1 H : Hp} (s1 : Same B1 H1) (s0 : Same H0 H1) (s : Same (uni B1 H0) H) : Same H0 H := fun a o e => s a o (by
  unfold uni
  cases q : B1 a with
  | none => exact e
  | some u =>
    have e3 : H1 a = some o := s0 _ _ e
    have e4 : H1 a = some u := s1 _ _ q
    rw [e3] at e4
    exact e4.symm)
theorem St3.re {B0 H0 B1 H1 : Hp} {σ : L2.St} (s : St3 B0 H0 As σ B1 H1) : St3 B1 (uni B1 H0) As σ B1 H1 := by
  refine ⟨ext_re s.ext (Same.refl _) s.ext, s.len, ?_⟩
  obtain ⟨F, h1, h2, h3⟩ := s.fp
  refine ⟨F, h1, fun i a ha => ?_, h3⟩
  obtain ⟨q0, q1, q2, q3⟩ := h2 i a ha
  refine ⟨q0, ?_, q2, q3⟩
  unfold uni
  rw [q2]
  exact q1
theorem St3.unre {B0 H0 B1 H1 : Hp} {σ : L2.St} (x : Ext B0 H0 B1 H1) {B H : Hp} (s : St3 B1 (uni B1 H0) As σ B H) : St3 B0 H0 As σ B H := by
  refine ⟨ext_un x s.ext, s.len, ?_⟩
  obtain ⟨F, h1, h2, h3⟩ := s.fp
  refine ⟨F, h1, fun i a ha => ?_, h3⟩
  obtain ⟨q0, q1, q2, q3⟩ := h2 i a ha
  refine ⟨q0, ?_, q2, q3⟩
  unfold uni at q1
  cases q : B1 a with
  | none =>
    rw [q] at q1
    exact q1
  | some u =>
    rw [q] at q1
    cases q1
/-- for x in ..: a block that goes on; Inv s what the slots hold between the turns -/
theorem b_for {wi : TI} {g : TG} {st : α → List Sl → List Sl} {js : List Nat} {m : Rs (List α)} {s0 : S} {f : S → α → Rs S} {Inv : S → List Sl} {k : S → Rs τ} (hw : WI true cm W wi As R m) (hg : EvG g R st js) (w : Wk As (Inv s0)) (hb : ∀ s x, Blk cm W t1 (st x (Inv s)) (f s x) (CS Inv)) (hz : ∀ s, Blk cm W tz (Inv s) (k s) C) :
    Blk cm W (tSeq (tFor wi g t1) tz) As (m.bind fun xs => (Rs.foldR f s0 xs).bind k) C := fun B0 H0 D σ B H sst q qe qn => by
  refine hw B0 H0 σ B H sst _ (fun xs exs J B1 H1 G x1 sG bG eG jok => ?_) (fun e he H' hs => qe e (by rw [he]; rfl) σ H' (sst.ext.h.trans hs)) (Rs.bind_ne qn)
  subst exs
  obtain rfl := eG rfl
  have st1 := (sst.mono x1).weak w
  have qn1 : Rs.foldR f s0 xs ≠ .no := Rs.bind_ne (m := Rs.foldR f s0 xs) qn
  have X1 := st1.ext
  refine ⟨fun i m σ H' => m = xs.length - i ∧ i ≤ xs.length ∧ ∃ s B', St3 G (uni G H0) (Inv s) σ B' H' ∧ Rs.foldR f s0 xs = Rs.foldR f s (xs.drop i), ⟨xs.length, by simp, Nat.zero_le _, s0, G, st1.re, by rw [List.drop_zero]⟩, ?_⟩
  rintro i m σ2 H2 ⟨rfl, hi, s, B3, s3, e3⟩
  have sG2 : Same G H2 := s3.ext.b.trans s3.ext.s
  by_cases hlt : i < xs.length
  · refine .inr ⟨jok.go i H2 sG2 hlt, fun σ' H' => ∃ s B', St3 G (uni G H0) (Inv s) σ' B' H' ∧ Rs.foldR f s0 xs = Rs.foldR f s (xs.drop (i + 1)), fun σ' H' p' => ⟨xs.length - (i + 1), by omega, rfl, hlt, p'⟩, fun x H' y => ?_⟩
    obtain ⟨a, ha, k2⟩ := jok.yld i H2 x H' sG2 hlt y
    obtain ⟨B4, x4, r4⟩ := k2 B3 s3.ext.b s3.ext.s
    rw [foldR_next ha] at e3
    refine hg G (uni G H0) _ σ2 B4 H' a x (s3.mono x4) r4 _ fun σ5 s5 _ _ => ?_
    exact hb s a G (uni G H0) _ _ B4 H' s5 (fun b eb σ6 B6 H6 s6 => ⟨b, B6, s6, by rw [e3, eb]; rfl⟩) (fun e he σ' H' hs => qe e (by rw [Rs.bind_ok, e3, he]; rfl) σ' H' (same_un X1.s X1.h hs)) fun e => qn1 (by rw [e3, e]; rfl)
  · have e0 : i = xs.length := by omega
    subst e0
    rw [List.drop_length] at e3
    have e1 : ((Rs.ok xs).bind fun xs => (Rs.foldR f s0 xs).bind k) = k s := by rw [Rs.bind_ok, e3]; rfl
    rw [e1] at q qe qn
    exact .inl ⟨jok.stop _ H2 sG2 (Nat.le_refl _), hz s B0 H0 D σ2 B3 H2 (s3.unre X1) q qe qn⟩
/-- the same, the block may return or break -/
theorem b_forF {wi : TI} {tg : TG} {st : α → List Sl → List Sl} {js : List Nat} {m : Rs (List α)} {s0 : S} {f : S → α → Rs (Fl S ρ)} {Inv : S → List Sl} {k : S → Rs τ} {g : ρ → τ} (up : Up C Rr g) (hw : WI true cm W wi As R m) (hg : EvG tg R st js) (w : Wk As (Inv s0))
    (hb : ∀ s x, Blk cm W t1 (st x (Inv s)) (f s x) (CB Rr Inv)) (hz : ∀ s, Blk cm W tz (Inv s) (k s) C) :
    Blk cm W (tSeq (tFor wi tg t1) tz) As (m.bind fun xs => Rs.thn (Rs.forF f s0 xs) g k) C := fun B0 H0 D σ B H sst q qe qn => by
  refine hw B0 H0 σ B H sst _ (fun xs exs J B1 H1 G x1 sG bG eG jok => ?_) (fun e he H' hs => qe e (by rw [he]; rfl) σ H' (sst.ext.h.trans hs)) (Rs.bind_ne qn)
  subst exs
  obtain rfl := eG rfl
  have st1 := (sst.mono x1).weak w
  have qn1 : Rs.forF f s0 xs ≠ .no := Rs.bind_ne (m := Rs.forF f s0 xs) qn
  have X1 := st1.ext
  have back : ∀ s σ2 B3 H2, St3 G (uni G H0) (Inv s) σ2 B3 H2 → (Rs.forF f s0 xs = .ok (.nx s) ∨ Rs.forF f s0 xs = .ok (.bk s)) → tz D σ2 H2 := fun s σ2 B3 H2 s3 e3 => by
    have e1 : ((Rs.ok xs).bind fun xs => Rs.thn (Rs.forF f s0 xs) g k) = k s := by
      rcases e3 with e3 | e3
      · rw [Rs.bind_ok, e3]; rfl
      · rw [Rs.bind_ok, e3]; rfl
    rw [e1] at q qe qn
    exact hz s B0 H0 D σ2 B3 H2 (s3.unre X1) q qe qn
  refine ⟨fun i m σ H' => m = xs.length - i ∧ i ≤ xs.length ∧ ∃ s B', St3 G (uni G H0) (Inv s) σ B' H' ∧ Rs.forF f s0 xs = Rs.forF f s (xs.drop i), ⟨xs.length, by simp, Nat.zero_le _, s0, G, st1.re, by rw [List.drop_zero]⟩, ?_⟩
  rintro i m σ2 H2 ⟨rfl, hi, s, B3, s3, e3⟩
  have sG2 : Same G H2 := s3.ext.b.trans s3.ext.s
  by_cases hlt : i < xs.length
  · refine .inr ⟨jok.go i H2 sG2 hlt, fun σ' H' => ∃ s B', St3 G (uni G H0) (Inv s) σ' B' H' ∧ Rs.forF f s0 xs = Rs.forF f s (xs.drop (i + 1)), fun σ' H' p' => ⟨xs.length - (i + 1), by omega, rfl, hlt, p'⟩, fun x H' y => ?_⟩
    obtain ⟨a, ha, k2⟩ := jok.yld i H2 x H' sG2 hlt y
    obtain ⟨B4, x4, r4⟩ := k2 B3 s3.ext.b s3.ext.s
    rw [forF_next ha] at e3
    refine hg G (uni G H0) _ σ2 B4 H' a x (s3.mono x4) r4 _ fun σ5 s5 _ _ => ?_
    refine hb s a G (uni G H0) _ _ B4 H' s5 (fun b eb => ?_) (fun e he σ' H' hs => qe e (by rw [Rs.bind_ok, e3, he]; rfl) σ' H' (same_un X1.s X1.h hs)) fun e => qn1 (by rw [e3, e]; rfl)
    rw [eb] at e3
    cases b with
    | nx s' => exact fun σ3 B4 H4 s4 => ⟨s', B4, s4, e3⟩
    | bk s' => exact fun σ3 B4 H4 s4 => back s' σ3 B4 H4 s4 (.inr e3)
    | rt r =>
      have e1 : ((Rs.ok xs).bind fun xs => Rs.thn (Rs.forF f s0 xs) g k) = .ok (g r) := by rw [Rs.bind_ok, e3]; rfl
      exact fun v B4 H4 y z => up r B0 H0 D { D with nx := tz D } rfl (q _ e1) v B4 H4 (ext_un X1 y) z
  · have e0 : i = xs.length := by omega
    subst e0
    rw [List.drop_length] at e3
    exact .inl ⟨jok.stop _ H2 sG2 (Nat.le_refl _), back s σ2 B3 H2 s3 (.inl e3)⟩
/-! while -/
def Rs.whN {S : Type} (c : S → Rs Bool) (f : S → Rs S) : Nat → S → Rs S
  | 0, _ => .no
  | n + 1, s => (c s).bind fun b => if b = true then (f s).bind fun s' => Rs.whN c f n s' else .ok s
theorem whN_mono {c : S → Rs Bool} {f : S → Rs S} : ∀ {n : Nat} {s : S} (d : Nat), Rs.whN c f n s ≠ .no → Rs.whN c f (n + d) s = Rs.whN c f n s
  | 0, s, d, h => absurd rfl h
  | n + 1, s, d, h => by
    rw [Nat.add_right_comm]
    show (c s).bind _ = (c s).bind _
    cases hc : c s with
    | ex e => rfl
    | no => rfl
    | ok b =>
      cases b with
      | false => rfl
      | true =>
        show (f s).bind _ = (f s).bind _
        cases hf : f s with
        | ex e => rfl
        | no => rfl
        | ok s' =>
          show Rs.whN c f (n + d) s' = Rs.whN c f n s'
          refine whN_mono d fun e => h ?_
          show (c s).bind _ = _
          rw [hc]
          show (f s).bind _ = _
          rw [hf]
          exact e
open Classical in
/-- a while: the value that it comes to, if it ends -/
noncomputable def Rs.whR {S : Type} (c : S → Rs Bool) (f : S → Rs S) (s : S) : Rs S := if h : ∃ n, Rs.whN c f n s ≠ .no then Rs.whN c f (Classical.choose h) s else .no
theorem whR_of {c : S → Rs Bool} {f : S → Rs S} {n : Nat} {s : S} (h : Rs.whN c f n s ≠ .no) : Rs.whR c f s = Rs.whN c f n s := by
  unfold Rs.whR
  have hx : ∃ n, Rs.whN c f n s ≠ .no := ⟨n, h⟩
  rw [dif_pos hx]
  have h2 := Classical.choose_spec hx
  rcases Nat.le_total n (Classical.choose hx) with l | l
  · obtain ⟨d, e⟩ := Nat.exists_eq_add_of_le l
    have := whN_mono d h
    rw [← e] at this
    exact this
  · obtain ⟨d, e⟩ := Nat.exists_eq_add_of_le l
    have := whN_mono d h2
    rw [← e] at this
    exact this.symm
theorem whR_ne {c : S → Rs Bool} {f : S → Rs S} {s : S} (h : Rs.whR c f s ≠ .no) : ∃ n, Rs.whR c f s = Rs.whN c f n s ∧ Rs.whN c f n s ≠ .no := by
  unfold Rs.whR at h
  split at h
  · rename_i hx
    exact ⟨_, whR_of (Classical.choose_spec hx), Classical.choose_spec hx⟩
  · exact absurd rfl h
theorem whR_step {c : S → Rs Bool} {f : S → Rs S} {s : S} : Rs.whR c f s = (c s).bind fun b => if b = true then (f s).bind fun s' => Rs.whR c f s' else .ok s := by
  cases hc : c s with
  | ex e => exact whR_of (n := 1) (by show (c s).bind _ ≠ _; rw [hc]; exact fun z => nomatch z) |>.trans (by show (c s).bind _ = _; rw [hc]; rfl)
  | no =>
    have : ∀ n, Rs.whN c f n s = .no := fun n => by
      cases n with
      | zero => rfl
      | succ n => show (c s).bind _ = _; rw [hc]; rfl
    unfold Rs.whR
    rw [dif_neg fun ⟨n, h⟩ => h (this n)]
    rfl
  | ok b =>
    cases b with
    | false => exact whR_of (n := 1) (by show (c s).bind _ ≠ _; rw [hc]; exact fun z => nomatch z) |>.trans (by show (c s).bind _ = _; rw [hc]; rfl)
    | true =>
      show _ = (f s).bind fun s' => Rs.whR c f s'
      cases hf : f s with
      | ex e => exact whR_of (n := 1) (by show (c s).bind _ ≠ _; rw [hc]; show (f s).bind _ ≠ _; rw [hf]; exact fun z => nomatch z) |>.trans (by show (c s).bind _ = _; rw [hc]; show (f s).bind _ = _; rw [hf]; rfl)
      | no =>
        have : ∀ n, Rs.whN c f n s = .no := fun n => by
          cases n with
          | zero => rfl
          | succ n => show (c s).bind _ = _; rw [hc]; show (f s).bind _ = _; rw [hf]; rfl
        unfold Rs.whR
        rw [dif_neg fun ⟨n, h⟩ => h (this n)]
        rfl
      | ok s' =>
        show _ = Rs.whR c f s'
        have st : ∀ n, Rs.whN c f (n + 1) s = Rs.whN c f n s' := fun n => by
          show (c s).bind _ = _
          rw [hc]
          show (f s).bind _ = _
          rw [hf]
          rfl
        by_cases hx : ∃ n, Rs.whN c f n s' ≠ .no
        · obtain ⟨n, hn⟩ := hx
          rw [whR_of hn, whR_of (n := n + 1) (by rw [st]; exact hn), st]
        · have h1 : Rs.whR c f s' = .no := by unfold Rs.whR; rw [dif_neg hx]
          rw [h1]
          unfold Rs.whR
          refine dif_neg fun ⟨n, h⟩ => ?_
          cases n with
          | zero => exact h rfl
          | succ n => exact hx ⟨n, by rw [← st]; exact h⟩
theorem b_while {s0 : S} {c : S → Rs Bool} {f : S → Rs S} {Inv : S → List Sl} {k : S → Rs τ} (w : Wk As (Inv s0)) (ht : ∀ s, EvT cm W tt (Inv s) (c s)) (hb : ∀ s, Blk cm W t1 (Inv s) (f s) (CS Inv)) (hz : ∀ s, Blk cm W tz (Inv s) (k s) C) :
    Blk cm W (tSeq (tWhile tt t1) tz) As ((Rs.whR c f s0).bind k) C := fun B0 H0 D σ B H st q qe qn => by
  obtain ⟨n0, en, nn⟩ := whR_ne (Rs.bind_ne qn)
  refine ⟨fun n σ H => ∃ s B, St3 B0 H0 (Inv s) σ B H ∧ Rs.whR c f s0 = Rs.whN c f n s, ⟨n0, s0, B, st.weak w, en⟩, fun n σ H hw => ?_⟩
  obtain ⟨s, B2, s2, e2⟩ := hw
  have nw : Rs.whN c f n s ≠ .no := by rw [← e2, en]; exact nn
  cases n with
  | zero => exact absurd rfl nw
  | succ n =>
    have e3 : Rs.whN c f (n + 1) s = (c s).bind fun b => if b = true then (f s).bind fun s' => Rs.whN c f n s' else .ok s := rfl
    rw [e3] at e2 nw
    refine ht s B0 H0 σ B2 H s2 _ (fun b eb B3 H3 x3 => ?_) (fun e he H' hs => qe e (by rw [e2, he]; rfl) σ H' (s2.ext.h.trans hs)) (Rs.bind_ne nw)
    rw [eb] at e2 nw
    cases b with
    | true =>
      have nw2 : (f s).bind (fun s' => Rs.whN c f n s') ≠ .no := nw
      have e4 : Rs.whR c f s0 = (f s).bind (fun s' => Rs.whN c f n s') := e2
      refine ⟨fun σ' H' => ∃ s B, St3 B0 H0 (Inv s) σ' B H' ∧ Rs.whR c f s0 = Rs.whN c f n s, fun σ' H' hq => ⟨n, Nat.lt_succ_self n, hq⟩, ?_⟩
      exact hb s B0 H0 _ σ B3 H3 (s2.mono x3) (fun a ea σ4 B4 H4 s4 => ⟨a, B4, s4, by rw [e4, ea]; rfl⟩) (fun e he => qe e (by rw [e4, he]; rfl)) (Rs.bind_ne nw2)
    | false =>
      have e4 : (Rs.whR c f s0).bind k = k s := by rw [e2]; rfl
      rw [e4] at q qe qn
      exact hz s B0 H0 D σ B3 H3 (s2.mono x3) q qe qn
end
end Gd

namespace Gd
open PySem PySem.Spec PyProof.Rows L2
/-! ### comprehensions -/
def Rs.mapR {α β : Type} (f : α → Rs β) : List α → Rs (List β)
  | [] => .ok []
  | x :: xs => (f x).noEx.bind fun y => (Rs.mapR f xs).bind fun ys => .ok (y :: ys)
def Rs.lc {α β : Type} (c : α → Rs Bool) (f : α → Rs β) : List α → Rs (List β)
  | [] => .ok []
  | x :: xs => (c x).noEx.bind fun b => if b = true then (f x).noEx.bind fun y => (Rs.lc c f xs).bind fun ys => .ok (y :: ys) else Rs.lc c f xs
theorem lc_yes {α β : Type} (f : α → Rs β) : ∀ xs, Rs.lc (fun _ => .ok true) f xs = Rs.mapR f xs
  | [] => rfl
  | x :: xs => by
    show (f x).noEx.bind _ = (f x).noEx.bind _
    rw [lc_yes f xs]
theorem mapR_ok {α β : Type} {f : α → Rs β} {g : α → β} : ∀ {xs : List α}, (∀ x, x ∈ xs → f x = .ok (g x)) → Rs.mapR f xs = .ok (xs.map g)
  | [], _ => rfl
  | x :: xs, h => by
    unfold Rs.mapR
    rw [h x List.mem_cons_self, mapR_ok fun y hy => h y (List.mem_cons_of_mem _ hy)]
    rfl
theorem lc_ok {α β : Type} {c : α → Rs Bool} {p : α → Bool} {f : α → Rs β} {g : α → β} : ∀ {xs : List α}, (∀ x, x ∈ xs → c x = .ok (p x)) → (∀ x, x ∈ xs → p x = true → f x = .ok (g x)) → Rs.lc c f xs = .ok ((xs.filter p).map g)
  | [], _, _ => rfl
  | x :: xs, h, h2 => by
    unfold Rs.lc
    rw [h x List.mem_cons_self, lc_ok (fun y hy => h y (List.mem_cons_of_mem _ hy)) fun y hy => h2 y (List.mem_cons_of_mem _ hy)]
    cases e : p x with
    | true =>
      rw [List.filter_cons_of_pos e]
      simp [Rs.noEx, Rs.bind, h2 x List.mem_cons_self e]
    | false =>
      rw [List.filter_cons_of_neg (by rw [e]; exact Bool.false_ne_true)]
      rfl
def wipeS (As : List Sl) : List Nat → List Sl
  | [] => As
  | v :: vs => (wipeS As vs).set v .un
section
variable {cm : Nat → Addr} {W : WX} {As Bs : List Sl} {K : PySem.W.Frag} {α β γ τ τ' ρ S S' : Type} {R : Rel α} {Rb : Rel β} {T : HRel τ} {Rr : Rel ρ} {te ta tb tc : TE} {tt tu : TT} {t1 t2 tz : TS} {C : Con τ} {C' : Con τ'}
theorem wipe_get (σ : L2.St) : ∀ (vs : List Nat) (i : Nat), (wipe σ vs)[i]? = if i ∈ vs ∧ i < σ.length then some none else σ[i]?
  | [], i => by simp [wipe]
  | v :: vs, i => by
    unfold wipe
    by_cases hv : v = i
    · subst hv
      by_cases hl : v < σ.length
      · rw [List.getElem?_set_self (by rw [wipe_length]; exact hl), if_pos ⟨List.mem_cons_self, hl⟩]
      · rw [List.getElem?_eq_none (by rw [List.length_set, wipe_length]; omega), if_neg (fun h => hl h.2), List.getElem?_eq_none (by omega)]
    · rw [List.getElem?_set_ne hv, wipe_get σ vs i]
      have : (i ∈ v :: vs) ↔ i ∈ vs := by simp [Ne.symm hv]
      simp only [this]
theorem wipe_eq {σ σ2 : L2.St} {vs js : List Nat} (hj : ∀ i ∈ js, i ∈ vs) (h : ∀ i, i ∉ js → σ2[i]? = (wipe σ vs)[i]?) (hl : σ2.length = σ.length) : wipe σ2 vs = wipe σ vs := by
  refine List.ext_getElem? fun i => ?_
  rw [wipe_get, hl]
  by_cases hi : i ∈ vs ∧ i < σ.length
  · rw [if_pos hi, wipe_get, if_pos hi]
  · rw [if_neg hi]
    by_cases hj2 : i ∈ js
    · have hn : ¬ i < σ.length := fun z => hi ⟨hj i hj2, z⟩
      rw [List.getElem?_eq_none (by rw [hl]; omega), List.getElem?_eq_none (by rw [wipe_length]; omega)]
    · exact h i hj2
theorem St3.wipe {B0 H0 B H : Hp} {σ : L2.St} (s : St3 B0 H0 As σ B H) : ∀ vs : List Nat, St3 B0 H0 (wipeS As vs) (L2.wipe σ vs) B H
  | [] => s
  | v :: vs => by
    have ih := s.wipe vs
    have h1 : St3 B0 H0 ((wipeS As vs).set v .un) (L2.wipe σ vs) B H := ih.forget
    obtain ⟨F, g1, g2, g3⟩ := h1.fp
    refine ⟨h1.ext, by unfold L2.wipe wipeS; rw [List.length_set]; exact h1.len, fun j => if j = v then [] else F j, fun j sl o ej eo => ?_, fun j b hb => ?_, fun j k b hb hc => ?_⟩
    · by_cases hj : j = v
      · subst hj
        have hl : j < (wipeS As vs).length := by
          have := (List.getElem?_eq_some_iff.mp ej).1
          unfold wipeS at this
          rwa [List.length_set] at this
        unfold wipeS at ej
        rw [List.getElem?_set_self hl] at ej
        cases ej
        simp only [if_pos]
        rfl
      · unfold L2.wipe at eo
        rw [List.getElem?_set_ne (Ne.symm hj)] at eo
        simp only [if_neg hj]
        exact g1 j sl o ej eo
    · by_cases hj : j = v
      · simp [hj] at hb
      · simp only [if_neg hj] at hb
        exact g2 j b hb
    · by_cases hj : j = v
      · simp [hj] at hb
      · by_cases hk : k = v
        · simp [hk] at hc
        · simp only [if_neg hj] at hb
          simp only [if_neg hk] at hc
          exact g3 j k b hb hc
theorem lc_next {c : α → Rs Bool} {f : α → Rs β} {xs : List α} {i : Nat} {x : α} (h : xs[i]? = some x) : Rs.lc c f (xs.drop i) = (c x).noEx.bind fun b => if b = true then (f x).noEx.bind fun y => (Rs.lc c f (xs.drop (i + 1))).bind fun ys => .ok (y :: ys) else Rs.lc c f (xs.drop (i + 1)) := by
  obtain ⟨hi, e⟩ := List.getElem?_eq_some_iff.mp h
  rw [List.drop_eq_getElem_cons hi, e]
  rfl
theorem noEx_ne {m : Rs α} (h : m.noEx ≠ .no) : ∃ a, m = .ok a := by
  cases m with
  | ok a => exact ⟨a, rfl⟩
  | ex e => exact absurd rfl h
  | no => exact absurd rfl h
/-- [e for x in .. if c] -/
theorem en_lc {b : Bool} {wi : TI} {g : TG} {st : α → List Sl → List Sl} {js vs : List Nat} {m : Rs (List α)} {c : α → Rs Bool} {f : α → Rs β} (hw : WI b cm W wi As R m) (hg : EvG g R st js) (hj : ∀ i ∈ js, i ∈ vs) (ht : ∀ x, EvT cm W tt (st x (wipeS As vs)) (c x))
    (he : ∀ x, EvM cm W te (st x (wipeS As vs)) Rb (f x)) : EvN cm W (tLc wi g tt te vs) As (OL Rb) (m.bind fun xs => Rs.lc c f xs) := fun B0 H0 σ B H s Q q qe qn => by
  refine hw B0 H0 σ B H s _ (fun xs exs J B1 H1 G x1 sG bG eG jok => ?_) (fun e he H' hs => qe e (by rw [he]; rfl) H' hs) (Rs.bind_ne qn)
  subst exs
  have qn1 : Rs.lc c f xs ≠ .no := qn
  have s1 := s.mono x1
  intro L hL
  have hLB : B1 L = none := x1.s.free hL
  have hLG : G L = none := sG.free hL
  -- what stands behind i turns
  refine ⟨fun i m H' => m = xs.length - i ∧ i ≤ xs.length ∧ ∃ ys acc B', Ext B1 H1 B' H' ∧ B' L = none ∧ H' L = some (.lst acc) ∧ Paired (fun x u => Rb.r x B' u) ys acc ∧ ys.length ≤ i ∧ Rs.lc c f xs = (Rs.lc c f (xs.drop i)).bind fun zs => .ok (ys ++ zs),
    ⟨xs.length, by simp, Nat.zero_le _, [], [], B1, Ext.newO x1.s hL, hLB, upd_same, .nil, Nat.le_refl _, ?_⟩, ?_⟩
  · rw [List.drop_zero]
    cases Rs.lc c f xs <;> rfl
  · rintro i m H2 ⟨rfl, hi, ys, acc, B2, x2, nL, eL, pr, hz, e2⟩
    have sG2 : Same G H2 := sG.trans x2.h
    by_cases hlt : i < xs.length
    · refine .inr ⟨jok.go i H2 sG2 hlt, fun H' => ∃ ys acc B', Ext B1 H1 B' H' ∧ B' L = none ∧ H' L = some (.lst acc) ∧ Paired (fun x u => Rb.r x B' u) ys acc ∧ ys.length ≤ i + 1 ∧ Rs.lc c f xs = (Rs.lc c f (xs.drop (i + 1))).bind fun zs => .ok (ys ++ zs), fun H' p' => ⟨xs.length - (i + 1), by omega, rfl, hlt, p'⟩, fun x H' y => ?_⟩
      obtain ⟨a, ha, k2⟩ := jok.yld i H2 x H' sG2 hlt y
      obtain ⟨B4, x4, r4⟩ := k2 B2 x2.b x2.s
      rw [lc_next ha] at e2
      have nn : (c a).noEx.bind (fun b => if b = true then (f a).noEx.bind fun y => (Rs.lc c f (xs.drop (i + 1))).bind fun ys => .ok (y :: ys) else Rs.lc c f (xs.drop (i + 1))) ≠ .no := Rs.bind_ne (by rw [← e2]; exact qn1)
      have nc := Rs.bind_ne nn
      obtain ⟨bc, ec⟩ := noEx_ne nc
      rw [ec] at e2 nn
      have x24 := x2.trans x4
      have s4 : St3 B0 H0 (wipeS As vs) (L2.wipe σ vs) B4 H' := (s1.mono x24).wipe vs
      refine hg B0 H0 _ _ B4 H' a x s4 r4 _ fun σ5 s5 h5 l5 => ?_
      refine ⟨wipe_eq hj h5 (by rw [l5, wipe_length]), ?_⟩
      refine ht a B0 H0 σ5 B4 H' s5 _ (fun b' eb B6 H6 x6 => ?_) (fun e hee => by rw [ec] at hee; cases hee) (by rw [ec]; exact fun z => nomatch z)
      have eb' : b' = bc := by
        rw [ec] at eb
        cases eb
        rfl
      subst eb'
      have x26 := x24.trans x6
      have L6 : H6 L = some (.lst acc) := x6.h _ _ (x4.h _ _ eL)
      have nL6 : B6 L = none := (x6.n L (by rw [x4.h _ _ eL]; exact Option.some_ne_none _)).trans ((x4.n L (by rw [eL]; exact Option.some_ne_none _)).trans nL)
      have pr6 : Paired (fun x u => Rb.r x B6 u) ys acc := pairedUp pr fun _ _ z => Rb.up (x4.b.trans x6.b) z
      cases b' with
      | true =>
        show te σ5 H6 _
        have nn2 : (f a).noEx.bind (fun y => (Rs.lc c f (xs.drop (i + 1))).bind fun ys => .ok (y :: ys)) ≠ .no := nn
        obtain ⟨y, ey⟩ := noEx_ne (Rs.bind_ne nn2)
        refine he a B0 H0 σ5 B6 H6 (s5.mono x6) _ (fun y' ey' v B7 H7 x7 r7 => ?_) (fun e hee => by rw [ey] at hee; cases hee) (by rw [ey]; exact fun z => nomatch z)
        have eyy : y' = y := by
          rw [ey] at ey'
          cases ey'
          rfl
        subst eyy
        have L7 : H7 L = some (.lst acc) := x7.h _ _ L6
        have nL7 : B7 L = none := (x7.n L (by rw [L6]; exact Option.some_ne_none _)).trans nL6
        have x27 := x26.trans x7
        have hz2 := jok.len
        have hz1 : acc.length < sizeLine := by rw [← pairedLen pr]; omega
        refine ⟨acc, L7, hz1, ys ++ [y'], acc ++ [v], B7, ⟨?_, x27.b, ?_, x27.n⟩, nL7, upd_same, pairedApp (pairedUp pr6 fun _ _ z => Rb.up x7.b z) (.cons r7 .nil), by rw [List.length_append]; exact Nat.add_le_add_right hz 1, ?_⟩
        · intro b o hb
          rw [upd_ne (ne_of_none hb hL)]
          exact x27.h _ _ hb
        · intro b o hb
          rw [upd_ne (ne_of_none hb nL7)]
          exact x27.s _ _ hb
        · rw [e2, Rs.noEx_ok, Rs.bind_ok, if_pos rfl, ey]
          show Rs.bind (Rs.bind _ _) _ = _
          rw [Rs.noEx_ok, Rs.bind_ok]
          cases Rs.lc c f (xs.drop (i + 1)) with
          | ok zs =>
            show Rs.ok (ys ++ y' :: zs) = Rs.ok (ys ++ [y'] ++ zs)
            rw [List.append_assoc]
            rfl
          | ex e => rfl
          | no => rfl
      | false =>
        show ∃ ys acc B', _
        exact ⟨ys, acc, B6, x26, nL6, L6, pr6, Nat.le_succ_of_le hz, e2⟩
    · have e0 : i = xs.length := by omega
      subst e0
      rw [List.drop_length] at e2
      have e3 : (Rs.ok xs).bind (fun xs => Rs.lc c f xs) = .ok ys := by
        show Rs.lc c f xs = _
        rw [e2]
        show Rs.ok (ys ++ []) = _
        rw [List.append_nil]
      refine .inl ⟨jok.stop _ H2 sG2 (Nat.le_refl _), q ys e3 (.ref L) [L] B2 H2 (x1.trans x2) ⟨L, acc, rfl, rfl, eL, pr, Nat.le_trans hz jok.len⟩ fun b hb => ?_⟩
      rw [List.mem_singleton] at hb
      subst hb
      exact ⟨x1.h.free hL, nL, by rw [eL]; exact Option.some_ne_none _⟩
theorem et_yes : EvT cm W tYes As (.ok true) := fun B0 H0 σ B H s Q q _ _ => q true rfl B H (Ext.refl s.ext.s)
theorem en_map {b : Bool} {wi : TI} {g : TG} {st : α → List Sl → List Sl} {js vs : List Nat} {m : Rs (List α)} {f : α → Rs β} (hw : WI b cm W wi As R m) (hg : EvG g R st js) (hj : ∀ i ∈ js, i ∈ vs)
    (he : ∀ x, EvM cm W te (st x (wipeS As vs)) Rb (f x)) : EvN cm W (tLc wi g tYes te vs) As (OL Rb) (m.bind fun xs => Rs.mapR f xs) := by
  have h := en_lc (c := fun _ => .ok true) hw hg hj (fun x => et_yes) he
  have e : (fun xs => Rs.lc (fun _ => .ok true) f xs) = (fun xs => Rs.mapR f xs) := funext fun xs => lc_yes f xs
  rw [e] at h
  exact h
/-! ### a def -/
theorem hrel_len1 {x : α} {H : Hp} {vs : List V} (h : (Gd.H1 R).r x H vs) : vs.length = 1 := by
  obtain ⟨u, rfl, _⟩ := h
  rfl
theorem hrel_lenC {n : Nat} (hT : ∀ {x : τ} {H : Hp} {vs : List V}, T.r x H vs → vs.length = n) {x : α × τ} {H : Hp} {vs : List V} (h : (HC R T).r x H vs) : vs.length = n + 1 := by
  obtain ⟨u, us, rfl, _, h2⟩ := h
  rw [List.length_cons, hT h2]
/-- what the slots hold as a def is entered -/
structure Ent (T : HRel τ) (sl : τ → List Sl) : Prop where
  len : ∀ {x : τ} {H : Hp} {vs : List V}, T.r x H vs → vs.length = (sl x).length
  get : ∀ {x : τ} {B : Hp} {vs : List V}, T.r x B vs → ∀ {i : Nat} {s : Sl}, (sl x)[i]? = some s → ∃ v, vs[i]? = some v ∧ ∀ H, s.ok B H (some v) []
theorem ent_nil : Ent HN (fun _ => []) := ⟨fun h => by rw [show _ = _ from h]; rfl, fun h i s e => by simp at e⟩
theorem ent_one : Ent (Gd.H1 R) (fun x => [.fz R x]) := ⟨fun ⟨u, e, _⟩ => by rw [e]; rfl, fun ⟨u, e, r⟩ i s h => by
  subst e
  cases i with
  | zero =>
    cases h
    exact ⟨u, rfl, fun _ => ⟨rfl, u, rfl, r⟩⟩
  | succ i => simp at h⟩
theorem ent_cons {sl : τ → List Sl} (e : Ent T sl) : Ent (HC R T) (fun x => .fz R x.1 :: sl x.2) := ⟨fun ⟨u, us, h, _, t⟩ => by rw [h, List.length_cons, List.length_cons, e.len t], fun ⟨u, us, h, r, t⟩ i s hs => by
  subst h
  cases i with
  | zero =>
    cases hs
    exact ⟨u, rfl, fun _ => ⟨rfl, u, rfl, r⟩⟩
  | succ i => exact e.get t (by simpa using hs)⟩
theorem st3_start {sl : τ → List Sl} (e : Ent T sl) {x : τ} {B H : Hp} {vs : List V} (h : T.r x B vs) (s : Same B H) (N : List Str) : St3 B H (sl x ++ List.replicate (N.length - (sl x).length) .un) (L2.start N vs) B H := by
  have hl := e.len h
  refine ⟨Ext.refl s, ?_, fun _ => [], fun i sl' o ei eo => ?_, fun i a ha => by simp at ha, fun i j a ha => by simp at ha⟩
  · unfold L2.start
    rw [List.length_append, List.length_append, List.length_map, List.length_replicate, List.length_replicate, hl]
  · by_cases hi : i < (sl x).length
    · rw [List.getElem?_append_left hi] at ei
      obtain ⟨v, hv, ok⟩ := e.get h ei
      unfold L2.start at eo
      rw [List.getElem?_append_left (by rw [List.length_map, hl]; exact hi), List.getElem?_map, hv] at eo
      cases eo
      exact ok H
    · rw [List.getElem?_append_right (by omega)] at ei
      have := List.getElem?_eq_some_iff.mp ei
      obtain ⟨hlt, ev⟩ := this
      rw [List.getElem_replicate] at ev
      rw [← ev]
      rfl
variable {P : Program} {w : World} {mg : Str → Option Value} {base : Heap}
/-- THE RULE for a def: its body's rules, what the body comes to -/
theorem def_go {x qual : Str} {st : Stmt} {fA : Addr} {fd : FuncData} {N ps : List Str} {k : Nat} {sl : τ → List Sl} {f : τ → Rs ρ} (F : Fun K x qual st fA fd) (S : FnScope N ps (defScope st)) (e : Ent T sl) (hl : ∀ x, (sl x).length = ps.length)
    (hb : ∀ (cdv : Value) (A : Around) (outer : List Env) (s : Shared) (H : Hp) (E : XK), Room k (A.deeper (envOfC qual (defScope st) s.heap.objs.size fA cdv)) →
      ∃ t, PSs (cxOf (L2.CX P w) P w K mg base N qual (defScope st) fA cdv A outer s H E) (defBody st) t ∧ ∀ x, Blk cm (fun cls d _ H => E cls d H) t (sl x ++ List.replicate (N.length - (sl x).length) .un) (f x) (CR Rr)) :
    FnOk P w K mg base (L2.CX P w) (k + 1) fA fd ps (spT cm T Rr f) := by
  refine F.okX S (fun vs H Q E h => ?_) (fun cdv A outer s H vs Q E hr h => ?_)
  · obtain ⟨B, x, _, hT, _⟩ := h
    rw [e.len hT, hl]
  · obtain ⟨B, x, hs, hT, q, qe, qn⟩ := h
    obtain ⟨t, ht, hbl⟩ := hb cdv A outer s H E hr
    refine ⟨t, ht, ?_⟩
    refine hbl x B H _ _ B H (st3_start e hT hs N) (fun r er v B' H' x' r' => q r er v B' H' x' r') (fun e he σ' H' hs' => qe e he H' hs') qn
end
end Gd

namespace Gd
open PySem PySem.Spec PyProof.Rows L2
def Rs.b2 {α β γ : Type} (m : Rs α) (n : Rs β) (f : α → β → Rs γ) : Rs γ := m.bind fun x => n.bind fun y => f x y
@[simp] theorem Rs.b2_ok {α β γ : Type} (a : α) (b : β) (f : α → β → Rs γ) : Rs.b2 (.ok a) (.ok b) f = f a b := rfl
def Rs.ite {α : Type} (m : Rs Bool) (n o : Rs α) : Rs α := m.bind fun b => if b = true then n else o
@[simp] theorem Rs.ite_ok {α : Type} (b : Bool) (n o : Rs α) : Rs.ite (.ok b) n o = if b = true then n else o := rfl
section
variable {cm : Nat → Addr} {W : WX} {As Bs : List Sl} {K : PySem.W.Frag} {α β γ τ τ' ρ S S' : Type} {R : Rel α} {Rb : Rel β} {U : Rel γ} {T : HRel τ} {Rr : Rel ρ} {te ta tb tc : TE} {tt tu : TT} {t1 t2 tz : TS} {C : Con τ} {C' : Con τ'}
theorem ev_b2 {r : R2} {f : α → β → Rs γ} {m : Rs α} {n : Rs β} (hr : OpE r R Rb U f) (ha : EvM cm W ta As R m) (hb : EvM cm W tb As Rb n) : EvM cm W (tOp r ta tb) As U (Rs.b2 m n f) := ev_op hr ha hb
theorem ev_ixl2 {m : Rs (List α)} {n : Rs Int} (ha : EvL cm W ta As R m) (hb : EvM cm W tb As RI n) : EvM cm W (tOp (rIxL K) ta tb) As R (Rs.b2 m n pyIx) := ev_ixl ha hb
/-! isinstance of built-in types -/
def TyR (K : PySem.W.Frag) (R : Rel α) (n : String) : Prop := ∀ {x : α} {B H : Hp} {v : V}, Same B H → R.r x B v → TyX K H v (.type n)
theorem tyI : TyR K RI "int" := fun {x B H v} _ h => by
  rw [show v = .int x from h]
  exact .base (.int x)
theorem tyB : TyR K RB "bool" := fun {x B H v} _ h => by
  rw [show v = .bl x from h]
  exact .base (.bl x)
theorem tyN : TyR K RN "NoneType" := fun {x B H v} _ h => by
  rw [show v = .non from h]
  exact .base .non
theorem tyS : TyR K RS "str" := fun {x B H v} _ h => by
  rw [show v = .str x from h]
  exact .base (.str x)
theorem tyL : TyR K (RL R) "list" := fun s ⟨p, vs, e, h, _⟩ => by
  rw [e]
  exact .base (.lst (s _ _ h))
theorem tyT : TyR K (RT R) "tuple" := fun s ⟨p, vs, e, h, _⟩ => by
  rw [e]
  exact .base (.tup (s _ _ h))
theorem tyTu : TyR K (RTu T) "tuple" := fun s ⟨p, vs, e, h, _⟩ => by
  rw [e]
  exact .base (.tup (s _ _ h))
theorem ev_isi {n c : String} {b : Bool} {m : Rs α} (ty : TyR K R n) (hk : kitB n c = some b) (h : EvM cm W te As R m) : EvM cm W (tCB (rIsi K) (tCons te (tCons (tC (.ty c)) tNil))) As RB (m.bind fun _ => .ok b) := fun B0 H0 σ B H s Q q qe qn => by
  refine h B0 H0 σ B H s _ (fun a ea v B1 H1 x1 r1 => ?_) (fun e he => qe e (by rw [he]; rfl)) (Rs.bind_ne qn)
  subst ea
  exact ⟨v, .ty c, .type n, .type c, b, rfl, .ty c, ty x1.s r1, kit_ty hk, q b rfl _ B1 H1 x1 rfl⟩
theorem ev_isiL {n c : String} {b : Bool} {m : Rs (List α)} (hk : kitB "list" c = some b) (h : EvL cm W te As R m) : EvM cm W (tCB (rIsi K) (tCons te (tCons (tC (.ty c)) tNil))) As RB (m.bind fun _ => .ok b) := fun B0 H0 σ B H s Q q qe qn => by
  refine h B0 H0 σ B H s _ (fun a ea v B1 H1 x1 r1 => ?_) (fun e he => qe e (by rw [he]; rfl)) (Rs.bind_ne qn)
  subst ea
  obtain ⟨p, vs, rfl, hp, _⟩ := r1
  exact ⟨_, .ty c, .type "list", .type c, b, rfl, .ty c, .base (.lst hp), kit_ty hk, q b rfl _ B1 H1 x1 rfl⟩
/-! max, min of two; sum -/
theorem ce_max2 : CalE (fun xs H Q => ∃ i j, xs = [.int i, .int j] ∧ Q (.int (if j > i then j else i)) H) (HC RI (Gd.H1 RI)) RI (fun p => .ok (if p.2 > p.1 then p.2 else p.1)) := fun {x B H vs} s h _ => ⟨_, rfl, fun Q q => by
  obtain ⟨u, us, rfl, h1, u2, rfl, h2⟩ := h
  rw [show u = .int x.1 from h1, show u2 = .int x.2 from h2]
  exact ⟨x.1, x.2, rfl, q _ B H (Ext.refl s) rfl⟩⟩
theorem ce_min2 : CalE (fun xs H Q => ∃ i j, xs = [.int i, .int j] ∧ Q (.int (if j < i then j else i)) H) (HC RI (Gd.H1 RI)) RI (fun p => .ok (if p.2 < p.1 then p.2 else p.1)) := fun {x B H vs} s h _ => ⟨_, rfl, fun Q q => by
  obtain ⟨u, us, rfl, h1, u2, rfl, h2⟩ := h
  rw [show u = .int x.1 from h1, show u2 = .int x.2 from h2]
  exact ⟨x.1, x.2, rfl, q _ B H (Ext.refl s) rfl⟩⟩
theorem ce_abs : CalE (fun xs H Q => ∃ i, xs = [.int i] ∧ Q (.int (if i < 0 then -i else i)) H) (Gd.H1 RI) RI (fun p => .ok (if p < 0 then -p else p)) := fun {x B H vs} s h _ => ⟨_, rfl, fun Q q => by
  obtain ⟨u, rfl, h1⟩ := h
  rw [show u = .int x from h1]
  exact ⟨x, rfl, q _ B H (Ext.refl s) rfl⟩⟩
theorem ints_of {B : Hp} : ∀ {xs : List Int} {vs : List V}, Paired (fun x u => RI.r x B u) xs vs → vs = xs.map V.int
  | _, _, .nil => rfl
  | _, _, .cons r t => by
    rw [show _ = _ from r, ints_of t]
    rfl
theorem bools_of {B : Hp} : ∀ {xs : List Bool} {vs : List V}, Paired (fun x u => RB.r x B u) xs vs → vs = xs.map V.bl
  | _, _, .nil => rfl
  | _, _, .cons r t => by
    rw [show _ = _ from r, bools_of t]
    rfl
theorem ev_sum {m : Rs (List Int)} (ha : EvL cm W ta As RI m) : EvM cm W (tCB (rSum K) (tCons ta tNil)) As RI (m.bind fun x => .ok x.sum) := fun B0 H0 σ B H s Q q qe qn => by
  refine ha B0 H0 σ B H s _ (fun a ea v B1 H1 x1 r1 => ?_) (fun e he => qe e (by rw [he]; rfl)) (Rs.bind_ne qn)
  subst ea
  obtain ⟨p, vs, rfl, hp, pr, _⟩ := r1
  rw [ints_of pr] at hp
  exact ⟨p, a, rfl, .inl (.inl hp), q _ rfl _ B1 H1 x1 rfl⟩
/-- a def's own names and the slots -/
theorem ev_ofL {m : Rs (List α)} (h : EvN cm W te As (OL R) m) : EvL cm W te As R m := el_fz (evn_fz h)
end
end Gd
namespace Gd
open PySem PySem.Spec PyProof.Rows L2
section
variable {P : Program} {w : World} {K : PySem.W.Frag} {mg : Str → Option Value} {base : Heap} {N : List Str} {qual : Str} {scope : Scope} {f : Addr} {cdv : Value} {A : Around} {outer : List Env} {s : Shared} {H : Hp} {E : XK}
theorem tk_of : Takes (cxOf (L2.CX P w) P w K mg base N qual scope f cdv A outer s H E) (fun cls d _ H => E cls d H) := takes_of rfl rfl rfl rfl
theorem pass_of : PassesOwn (model (cxOf (L2.CX P w) P w K mg base N qual scope f cdv A outer s H E).prog (cxOf (L2.CX P w) P w K mg base N qual scope f cdv A outer s H E).w) (cxOf (L2.CX P w) P w K mg base N qual scope f cdv A outer s H E).A (cxOf (L2.CX P w) P w K mg base N qual scope f cdv A outer s H E).env (cxOf (L2.CX P w) P w K mg base N qual scope f cdv A outer s H E).xe := passes_of rfl
end
section
variable {α β γ δ : Type} {R : Rel α} {S : Rel β} {U : Rel γ} {V' : Rel δ} {H : Hp} {vs : List V}
theorem hl1_le {x : α} (h : (Gd.H1 R).r x H vs) : vs.length ≤ 1000 := by
  rw [hrel_len1 h]
  decide
theorem hl2_le {x : α × β} (h : (HC R (Gd.H1 S)).r x H vs) : vs.length ≤ 1000 := by
  rw [hrel_lenC hrel_len1 h]
  decide
theorem hl3_le {x : α × β × γ} (h : (HC R (HC S (Gd.H1 U))).r x H vs) : vs.length ≤ 1000 := by
  rw [hrel_lenC (hrel_lenC hrel_len1) h]
  decide
theorem hl4_le {x : α × β × γ × δ} (h : (HC R (HC S (HC U (Gd.H1 V')))).r x H vs) : vs.length ≤ 1000 := by
  rw [hrel_lenC (hrel_lenC (hrel_lenC hrel_len1)) h]
  decide
theorem hl5_le {ε : Type} {E : Rel ε} {x : α × β × γ × δ × ε} (h : (HC R (HC S (HC U (HC V' (Gd.H1 E))))).r x H vs) : vs.length ≤ 1000 := by
  rw [hrel_lenC (hrel_lenC (hrel_lenC (hrel_lenC hrel_len1))) h]
  decide
theorem cs_len {m : Rs α} {n : Rs (List α)} {k : Nat} (h : ∀ x, n = .ok x → x.length ≤ k) : ∀ x, Rs.cs m n = .ok x → x.length ≤ k + 1 := fun x e => by
  unfold Rs.cs at e
  cases hm : m with
  | ok a =>
    rw [hm] at e
    cases hn : n with
    | ok b =>
      rw [hn] at e
      cases e
      exact Nat.succ_le_succ (h b hn)
    | ex _ => rw [hn] at e; cases e
    | no => rw [hn] at e; cases e
  | ex _ => rw [hm] at e; cases e
  | no => rw [hm] at e; cases e
theorem nil_len : ∀ x, (Rs.ok ([] : List α)) = .ok x → x.length ≤ 0 := fun x e => by
  cases e
  exact Nat.le_refl _
theorem le1000 {m : Rs (List α)} {k : Nat} (h : ∀ x, m = .ok x → x.length ≤ k) (hk : k ≤ 1000) : ∀ x, m = .ok x → x.length ≤ 1000 := fun x e => Nat.le_trans (h x e) hk
end
end Gd
namespace Gd
open PySem PySem.Spec PyProof.Rows L2
/-! the rules with the written part told -/
section
variable {X : Cx} {K : PySem.W.Frag} {tg l : Expr} {tl te : TE}
theorem ix_listK (h : X.K = K) : IxR X (rIxL K) := h ▸ ix_list
theorem ix_tupK (h : X.K = K) : IxR X (rIxT K) := h ▸ ix_tup
theorem len_K (h : X.K = K) : CallR X (.builtin "len") (rLenS K) := h ▸ call_len_seq
theorem tuple_K (h : X.K = K) : CallR X (.type "tuple") (rTupS K) := h ▸ call_tuple_of
theorem list_K (h : X.K = K) : CallR X (.type "list") (rListS K) := h ▸ call_list_of
theorem sum_K (h : X.K = K) (hc : X.calm = true) : CallR X (.builtin "sum") (rSum K) := h ▸ cr_sum hc
theorem isi_K (h : X.K = K) : CallR X (.builtin "isinstance") (rIsi K) := h ▸ call_isi
theorem sl_listK (h : X.K = K) : SlR X (rSlL K) := h ▸ sl_list
theorem sl_tupK (h : X.K = K) : SlR X (rSlA K) := h ▸ sl_tupA
theorem op_catK (h : X.K = K) : OpR X (binaryOp .Add) (rCatA K) := h ▸ op_catA
theorem op_eqK (h : X.K = K) (hu : X.A.units + 64 < cLine) : OpR X (compareOp .Eq) (rEqD K) := h ▸ op_eqD hu
theorem op_neK (h : X.K = K) (hu : X.A.units + 64 < cLine) : OpR X (compareOp .NotEq) (rNeD K) := h ▸ op_neD hu
theorem pi_listK (h : X.K = K) (hl : PE X l tl) : PI X tg l (iList K tl) := h ▸ pi_list hl
theorem pi_tupK (h : X.K = K) (hl : PE X l tl) : PI X tg l (iTup K tl) := h ▸ pi_tup hl
theorem pg_tupK {es : List Expr} {k : Nat} {pos : Pos} {t : TGs} {n : Nat} (hK : X.K = K) (hc : X.calm = true) (h : PGs X es t) (hn : (assignEach es X.env).length = n := by rfl) (hst : (assignEach es X.env).findIdx? (·.1) = none := by rfl) : PG X (.Tuple es k pos) (gTup K n t) := hK ▸ pg_tup hc h hn hst
theorem app_K {o e : Expr} {to : TE} {t : TA} {cpos apos : Pos} {es : List Expr} (hK : X.K = K) (ho : PE X o to) (ha : PA X (e :: es) t) (hpl : ∀ whole : Sem Bool, True) : True := trivial
end
end Gd

namespace Gd
open PySem PySem.Spec PyProof.Rows L2
def Rs.b3 {α β γ δ : Type} (m : Rs α) (n : Rs β) (o : Rs γ) (f : α → β → γ → Rs δ) : Rs δ := m.bind fun x => n.bind fun y => o.bind fun z => f x y z
@[simp] theorem Rs.b3_ok {α β γ δ : Type} (a : α) (b : β) (c : γ) (f : α → β → γ → Rs δ) : Rs.b3 (.ok a) (.ok b) (.ok c) f = f a b c := rfl
/-! ### == and in, of data -/
structure Dat {α : Type} (R : Rel α) [DecidableEq α] where
  d : α → PyData
  n : Nat
  at_ : ∀ {K : PySem.W.Frag} {x : α} {B H : Hp} {v : V}, Same B H → R.r x B v → Dp K H v (d x)
  lay : ∀ x, (d x).canLay0 = true
  dep : ∀ x, (d x).depth ≤ n
  eqv : ∀ x y, PyData.eqv (d x) (d y) = decide (x = y)
section
variable {α β γ τ : Type} [DecidableEq α] [DecidableEq β] [DecidableEq τ] {R : Rel α} {S : Rel β} {T : HRel τ}
def datI : Dat RI := ⟨.int, 0, fun {K x B H v} _ h => by
  rw [show v = .int x from h]
  exact .int x, fun _ => by simp only [PyData.canLay0], fun _ => by simp only [PyData.depth]; exact Nat.le_refl _, fun x y => by
  simp only [PyData.eqv]
  by_cases h : x = y <;> simp [h]⟩
def datB : Dat RB := ⟨.bool, 0, fun {K x B H v} _ h => by
  rw [show v = .bl x from h]
  exact .bl x, fun _ => by simp only [PyData.canLay0], fun _ => by simp only [PyData.depth]; exact Nat.le_refl _, fun x y => by
  simp only [PyData.eqv]
  by_cases h : x = y <;> simp [h]⟩
theorem dat_all (D : Dat R) {K : PySem.W.Frag} {B H : Hp} (s : Same B H) : ∀ {xs : List α} {vs : List V}, Paired (fun x u => R.r x B u) xs vs → DpAll K H vs (xs.map D.d)
  | _, _, .nil => .nil
  | _, _, .cons r t => .cons (D.at_ s r) (dat_all D s t)
theorem dat_lay (D : Dat R) : ∀ xs : List α, PyData.canLayAll0 (xs.map D.d) = true
  | [] => by simp [PyData.canLayAll0]
  | x :: xs => by simp [PyData.canLayAll0, D.lay x, dat_lay D xs]
theorem dat_dep (D : Dat R) : ∀ xs : List α, PyData.depthAll (xs.map D.d) ≤ D.n
  | [] => by simp [PyData.depthAll]
  | x :: xs => by
    have h1 := dat_dep D xs
    have h2 := D.dep x
    simp only [List.map_cons, PyData.depthAll]
    omega
theorem dat_eqv (D : Dat R) : ∀ xs ys : List α, PyData.eqvAll (xs.map D.d) (ys.map D.d) = decide (xs = ys)
  | [], [] => by simp [PyData.eqvAll]
  | [], y :: ys => by simp [PyData.eqvAll]
  | x :: xs, [] => by simp [PyData.eqvAll]
  | x :: xs, y :: ys => by
    simp only [List.map_cons, PyData.eqvAll, D.eqv, dat_eqv D xs ys]
    by_cases h1 : x = y
    · by_cases h2 : xs = ys
      · simp [h1, h2]
      · simp [h1, h2]
    · simp [h1]
def datL (D : Dat R) : Dat (RL R) := ⟨fun xs => .list (xs.map D.d), D.n + 1, fun {K x B H v} s h => by
  obtain ⟨p, vs, rfl, hp, pr, _⟩ := h
  exact .lst (.inl (.inl (s _ _ hp))) (dat_all D s pr), fun x => by simp only [PyData.canLay0]; exact dat_lay D x, fun x => by
  simp only [PyData.depth]
  have := dat_dep D x
  omega, fun x y => by simp only [PyData.eqv]; exact dat_eqv D x y⟩
def datT (D : Dat R) : Dat (RT R) := ⟨fun xs => .tuple (xs.map D.d), D.n + 1, fun {K x B H v} s h => by
  obtain ⟨p, vs, rfl, hp, pr, _⟩ := h
  exact .tup (.inl (.inl (s _ _ hp))) (dat_all D s pr), fun x => by simp only [PyData.canLay0]; exact dat_lay D x, fun x => by
  simp only [PyData.depth]
  have := dat_dep D x
  omega, fun x y => by simp only [PyData.eqv]; exact dat_eqv D x y⟩
/-- of things in a row -/
structure HDat {τ : Type} (T : HRel τ) [DecidableEq τ] where
  d : τ → List PyData
  n : Nat
  at_ : ∀ {K : PySem.W.Frag} {x : τ} {B H : Hp} {vs : List V}, Same B H → T.r x B vs → DpAll K H vs (d x)
  lay : ∀ x, PyData.canLayAll0 (d x) = true
  dep : ∀ x, PyData.depthAll (d x) ≤ n
  eqv : ∀ x y, PyData.eqvAll (d x) (d y) = decide (x = y)
def hd1 (D : Dat R) : HDat (Gd.H1 R) := ⟨fun x => [D.d x], D.n, fun {K x B H v} s h => by
  obtain ⟨u, rfl, r⟩ := h
  exact .cons (D.at_ s r) .nil, fun x => by simp [PyData.canLayAll0, D.lay x], fun x => by
  have := D.dep x
  simp only [PyData.depthAll]
  omega, fun x y => by simp [PyData.eqvAll, D.eqv]⟩
def hdC (D : Dat R) (E : HDat T) : HDat (HC R T) := ⟨fun x => D.d x.1 :: E.d x.2, max D.n E.n, fun {K x B H v} s h => by
  obtain ⟨u, us, rfl, r, t⟩ := h
  exact .cons (D.at_ s r) (E.at_ s t), fun x => by simp [PyData.canLayAll0, D.lay x.1, E.lay x.2], fun x => by
  have h1 := D.dep x.1
  have h2 := E.dep x.2
  simp only [PyData.depthAll]
  omega, fun x y => by
  obtain ⟨a, b⟩ := x
  obtain ⟨c, d⟩ := y
  simp only [PyData.eqvAll, D.eqv, E.eqv, Prod.mk.injEq]
  by_cases h1 : a = c <;> by_cases h2 : b = d <;> simp [h1, h2]⟩
def datTu (E : HDat T) : Dat (RTu T) := ⟨fun x => .tuple (E.d x), E.n + 1, fun {K x B H v} s h => by
  obtain ⟨p, vs, rfl, hp, r⟩ := h
  exact .tup (.inl (.inl (s _ _ hp))) (E.at_ s r), fun x => by simp only [PyData.canLay0]; exact E.lay x, fun x => by
  simp only [PyData.depth]
  have := E.dep x
  omega, fun x y => by simp only [PyData.eqv]; exact E.eqv x y⟩
theorem dat_shaped (D : Dat R) (h : D.n ≤ 64) (x : α) : SeqAt.shaped (D.d x) = true := by
  unfold SeqAt.shaped
  rw [Bool.and_eq_true]
  exact ⟨D.lay x, decide_eq_true (Nat.le_trans (D.dep x) h)⟩
variable {K : PySem.W.Frag}
theorem oe_eqD (D : Dat R) (h : D.n ≤ 64 := by decide) : OpE (rEqD K) R R RB (fun x y => .ok (decide (x = y))) := fun {x y B H v u} s hx hy _ => ⟨_, rfl, fun Q q => ⟨D.d x, D.d y, D.at_ s hx, D.at_ s hy, dat_shaped D h x, dat_shaped D h y, by
  rw [D.eqv]
  exact q _ B H (Ext.refl s) rfl⟩⟩
theorem oe_neD (D : Dat R) (h : D.n ≤ 64 := by decide) : OpE (rNeD K) R R RB (fun x y => .ok (!decide (x = y))) := fun {x y B H v u} s hx hy _ => ⟨_, rfl, fun Q q => ⟨D.d x, D.d y, D.at_ s hx, D.at_ s hy, dat_shaped D h x, dat_shaped D h y, by
  rw [D.eqv]
  exact q _ B H (Ext.refl s) rfl⟩⟩
end
section
variable {cm : Nat → Addr} {W : WX} {As Bs : List Sl} {K : PySem.W.Frag} {α β γ τ τ' ρ S S' : Type} {R : Rel α} {Rb : Rel β} {U : Rel γ} {T : HRel τ} {Rr : Rel ρ} {te ta tb tc : TE} {tt tu : TT} {t1 t2 tz : TS} {C : Con τ} {C' : Con τ'}
/-- x in xs, xs a list of data -/
theorem any_eqv [DecidableEq α] (D : Dat R) (x : α) : ∀ xs : List α, ((xs.map D.d).any fun z => PyData.eqv z (D.d x)) = decide (x ∈ xs)
  | [] => by simp
  | y :: ys => by
    rw [List.map_cons, List.any_cons, D.eqv, any_eqv D x ys]
    by_cases h : y = x
    · simp [h]
    · have h' : ¬ x = y := fun e => h e.symm
      simp [h, h']
theorem lv_dp [DecidableEq α] (D : Dat R) {xs : List α} {B H : Hp} {v : V} (s : Same B H) (h : LV R xs B H v) : Dp K H v (.list (xs.map D.d)) := by
  obtain ⟨p, vs, rfl, hp, pr, _⟩ := h
  exact .lst (.inl (.inl hp)) (dat_all D s pr)
theorem lst_shaped [DecidableEq α] (D : Dat R) (h : D.n + 1 ≤ 64) (xs : List α) : SeqAt.shaped (.list (xs.map D.d)) = true := dat_shaped (datL D) h xs
def inL {α : Type} [DecidableEq α] (x : α) (xs : List α) : Bool := decide (x ∈ xs)
theorem ev_inD [DecidableEq α] (D : Dat R) {m : Rs α} {n : Rs (List α)} (ha : EvM cm W ta As R m) (hb : EvL cm W tb As R n) (h : D.n + 1 ≤ 64 := by decide) : EvM cm W (tOp (rInD K) ta tb) As RB (Rs.b2 m n fun x y => .ok (inL x y)) := fun B0 H0 σ B H s Q q qe qn => by
  refine ha B0 H0 σ B H s _ (fun a ea v B1 H1 x1 r1 => ?_) (fun e he => qe e (by rw [he]; rfl)) (Rs.bind_ne qn)
  subst ea
  refine hb B0 H0 σ B1 H1 (s.mono x1) _ (fun b eb u B2 H2 x2 r2 => ?_) (fun e he H' hs => qe e (by rw [he]; rfl) H' (x1.h.trans hs)) (Rs.bind_ne (m := n) qn)
  subst eb
  refine ⟨D.d a, b.map D.d, D.at_ x2.s (R.up x2.b r1), lv_dp D x2.s r2, dat_shaped D (by omega) a, lst_shaped D h b, ?_⟩
  rw [any_eqv]
  exact q _ rfl _ B2 H2 (x1.trans x2) rfl
theorem ev_notInD [DecidableEq α] (D : Dat R) {m : Rs α} {n : Rs (List α)} (ha : EvM cm W ta As R m) (hb : EvL cm W tb As R n) (h : D.n + 1 ≤ 64 := by decide) : EvM cm W (tOp (rNotInD K) ta tb) As RB (Rs.b2 m n fun x y => .ok (!inL x y)) := fun B0 H0 σ B H s Q q qe qn => by
  refine ha B0 H0 σ B H s _ (fun a ea v B1 H1 x1 r1 => ?_) (fun e he => qe e (by rw [he]; rfl)) (Rs.bind_ne qn)
  subst ea
  refine hb B0 H0 σ B1 H1 (s.mono x1) _ (fun b eb u B2 H2 x2 r2 => ?_) (fun e he H' hs => qe e (by rw [he]; rfl) H' (x1.h.trans hs)) (Rs.bind_ne (m := n) qn)
  subst eb
  refine ⟨D.d a, b.map D.d, D.at_ x2.s (R.up x2.b r1), lv_dp D x2.s r2, dat_shaped D (by omega) a, lst_shaped D h b, ?_⟩
  rw [any_eqv]
  exact q _ rfl _ B2 H2 (x1.trans x2) rfl
/-- xs.index(x) -/
noncomputable def indexR [DecidableEq α] (xs : List α) (x : α) : Rs Int := Rs.gd (x ∈ xs) (.ok ((xs.idxOf x : Nat) : Int))
theorem idx_le [DecidableEq α] : ∀ {xs : List α} {k : Nat} {b : α}, xs[k]? = some b → xs.idxOf b ≤ k
  | [], _, _, h => by simp at h
  | x :: xs, k, b, h => by
    rw [List.idxOf_cons]
    by_cases e : x = b
    · simp [e]
    · have e' : (x == b) = false := by simp [e]
      rw [e']
      cases k with
      | zero =>
        simp at h
        exact absurd h e
      | succ k =>
        have := idx_le (xs := xs) (k := k) (b := b) (by simpa using h)
        simpa using this
theorem op_inK {X : Cx} (h : X.K = K) (hu : X.A.units + 65 < cLine) : OpR X (compareOp .In) (rInD K) := h ▸ op_inD hu
theorem op_notInK {X : Cx} (h : X.K = K) (hu : X.A.units + 65 < cLine) : OpR X (compareOp .NotIn) (rNotInD K) := h ▸ op_notInD hu
theorem mt_indexK {X : Cx} (h : X.K = K) (hu : X.A.units + 65 < cLine) : MtR X "list.index" (rIndexD K) := h ▸ mt_indexD hu
theorem ev_index [DecidableEq α] (D : Dat R) {m : Rs (List α)} {n : Rs α} (ha : EvL cm W ta As R m) (hb : EvM cm W tb As R n) (h : D.n + 1 ≤ 64 := by decide) : EvM cm W (tBM K "list" (rIndexD K) ta (tCons tb tNil)) As RI (Rs.b2 m n fun x y => indexR x y) := fun B0 H0 σ B H s Q q qe qn => by
  refine ha B0 H0 σ B H s _ (fun a ea v B1 H1 x1 r1 => ?_) (fun e he => qe e (by rw [he]; rfl)) (Rs.bind_ne qn)
  subst ea
  have r1' := r1
  obtain ⟨p, vs, rfl, hp, pr, _⟩ := r1
  refine ⟨.inl ⟨rfl, vs, .inl (.inl hp)⟩, ?_⟩
  refine hb B0 H0 σ B1 H1 (s.mono x1) _ (fun b eb u B2 H2 x2 r2 => ?_) (fun e he H' hs => qe e (by rw [he]; rfl) H' (x1.h.trans hs)) (Rs.bind_ne (m := n) qn)
  subst eb
  have hin : b ∈ a := Rs.gd_ne (show indexR a b ≠ .no from qn)
  have hlt : a.idxOf b < a.length := List.idxOf_lt_length_of_mem hin
  refine ⟨p, u, D.d b, a.map D.d, a.idxOf b, D.d b, rfl, rfl, lv_dp D x2.s (r1'.up x2), D.at_ x2.s r2, lst_shaped D h a, dat_shaped D (by omega) b, ?_, ?_, fun k z hk hz => ?_, ?_⟩
  · rw [List.getElem?_map, List.getElem?_eq_getElem hlt, List.getElem_idxOf hlt]
    rfl
  · rw [D.eqv]
    exact decide_eq_true rfl
  · rw [List.getElem?_map, List.getElem?_eq_getElem (Nat.lt_trans hk hlt)] at hz
    cases hz
    rw [D.eqv]
    refine decide_eq_false fun e => ?_
    have h2 : a.idxOf b ≤ k := idx_le (by rw [List.getElem?_eq_getElem (Nat.lt_trans hk hlt), e])
    omega
  · exact q _ (show indexR a b = _ from Rs.gd_pos hin) _ B2 H2 (x1.trans x2) rfl
end
end Gd

namespace Gd
open PySem PySem.Spec PyProof.Rows L2
def EvO (cm : Nat → Addr) (W : WX) (to : TO) (As : List Sl) (m : Rs (Option Int)) : Prop :=
  ∀ (B0 H0 : Hp) (σ : L2.St) (B H : Hp), St3 B0 H0 As σ B H → ∀ Q : Option Int → Hp → Prop, (∀ a, m = .ok a → ∀ B' H', Ext B H B' H' → Q a H') →
    (∀ e, m = .ex e → ∀ H', Same H H' → W (.ref (cm e)) none σ H') → m ≠ .no → to σ H Q
/-- xs[lo:hi] -/
def cut {α : Type} (xs : List α) (lo hi : Option Int) : List α := (xs.drop (HT.sIx xs.length 0 lo)).take (HT.sIx xs.length xs.length hi - HT.sIx xs.length 0 lo)
def cutR {α : Type} (xs : List α) (lo hi : Option Int) : Rs (List α) := .ok (cut xs lo hi)
@[simp] theorem cutR_eq {α : Type} (xs : List α) (lo hi : Option Int) : cutR xs lo hi = .ok (cut xs lo hi) := rfl
noncomputable def catR {α : Type} (xs ys : List α) : Rs (List α) := Rs.gd (xs.length + ys.length ≤ 16777216) (.ok (xs ++ ys))
theorem catR_ok {α : Type} {xs ys : List α} (h : xs.length + ys.length ≤ 16777216) : catR xs ys = .ok (xs ++ ys) := Rs.gd_pos h
noncomputable def repR {α : Type} (x : α) (n : Int) : Rs (List α) := Rs.gd (-1000 ≤ n ∧ n ≤ 1000) (.ok (List.replicate n.toNat x))
theorem repR_ok {α : Type} {x : α} {n : Int} (h : -1000 ≤ n ∧ n ≤ 1000) : repR x n = .ok (List.replicate n.toNat x) := Rs.gd_pos h
section
variable {cm : Nat → Addr} {W : WX} {As Bs : List Sl} {K : PySem.W.Frag} {α β γ τ τ' ρ S S' : Type} {R : Rel α} {Rb : Rel β} {U : Rel γ} {T : HRel τ} {Rr : Rel ρ} {te ta tb tc : TE} {tt tu : TT} {t1 t2 tz : TS} {C : Con τ} {C' : Con τ'}
theorem eo_none : EvO cm W tNoPart As (.ok none) := fun _ _ _ B H s Q q _ _ => q none rfl B H (Ext.refl s.ext.s)
theorem eo_some {m : Rs Int} (h : EvM cm W te As RI m) : EvO cm W (tPart te) As (m.bind fun x => .ok (some x)) := fun B0 H0 σ B H s Q q qe qn =>
  h B0 H0 σ B H s _ (fun a ea v B' H' x r => ⟨a, r, q (some a) (by rw [ea]; rfl) B' H' x⟩) (fun e he => qe e (by rw [he]; rfl)) (Rs.bind_ne qn)
theorem cut_len (xs : List α) (lo hi : Option Int) : (cut xs lo hi).length ≤ xs.length := by
  unfold cut
  rw [List.length_take, List.length_drop]
  omega
theorem pairedCut {F : α → V → Prop} {xs : List α} {vs : List V} (pr : Paired F xs vs) (lo hi : Option Int) : Paired F (cut xs lo hi) (cutV vs lo hi) := by
  unfold cut cutV
  rw [pairedLen pr]
  exact pairedTake _ (pairedDrop _ pr)
/-- xs[lo:hi] of a list: a new one -/
theorem en_slL {tl th : TO} {m : Rs (List α)} {n o : Rs (Option Int)} (ha : EvL cm W ta As R m) (hl : EvO cm W tl As n) (hh : EvO cm W th As o) : EvN cm W (L2.tSl (rSlL K) ta tl th) As (OL R) (Rs.b3 m n o cutR) := fun B0 H0 σ B H s Q q qe qn => by
  refine ha B0 H0 σ B H s _ (fun a ea v B1 H1 x1 r1 => ?_) (fun e he => qe e (by rw [he]; rfl)) (Rs.bind_ne qn)
  subst ea
  refine hl B0 H0 σ B1 H1 (s.mono x1) _ (fun b eb B2 H2 x2 => ?_) (fun e he H' hs => qe e (by rw [he]; rfl) H' (x1.h.trans hs)) (Rs.bind_ne (m := n) qn)
  subst eb
  have x12 := x1.trans x2
  refine hh B0 H0 σ B2 H2 (s.mono x12) _ (fun c ec B3 H3 x3 => ?_) (fun e he H' hs => qe e (by rw [he]; rfl) H' (x12.h.trans hs)) (Rs.bind_ne (m := o) qn)
  subst ec
  have x13 := x12.trans x3
  obtain ⟨p, vs, rfl, hp, pr, hz⟩ := r1.up (x2.trans x3)
  exact ⟨p, vs, rfl, .inl (.inl hp), fun l hl => q _ rfl _ [l] B3 _ (x13.trans (Ext.newO x13.s hl)) ⟨l, _, rfl, rfl, upd_same, pairedCut pr b c, Nat.le_trans (cut_len _ _ _) hz⟩ (new1' x13 hl)⟩
/-- t[lo:hi] of a tuple -/
theorem ev_slT {tl th : TO} {m : Rs (List α)} {n o : Rs (Option Int)} (ha : EvM cm W ta As (RT R) m) (hl : EvO cm W tl As n) (hh : EvO cm W th As o) : EvM cm W (L2.tSl (rSlA K) ta tl th) As (RT R) (Rs.b3 m n o cutR) := fun B0 H0 σ B H s Q q qe qn => by
  refine ha B0 H0 σ B H s _ (fun a ea v B1 H1 x1 r1 => ?_) (fun e he => qe e (by rw [he]; rfl)) (Rs.bind_ne qn)
  subst ea
  refine hl B0 H0 σ B1 H1 (s.mono x1) _ (fun b eb B2 H2 x2 => ?_) (fun e he H' hs => qe e (by rw [he]; rfl) H' (x1.h.trans hs)) (Rs.bind_ne (m := n) qn)
  subst eb
  have x12 := x1.trans x2
  refine hh B0 H0 σ B2 H2 (s.mono x12) _ (fun c ec B3 H3 x3 => ?_) (fun e he H' hs => qe e (by rw [he]; rfl) H' (x12.h.trans hs)) (Rs.bind_ne (m := o) qn)
  subst ec
  have x13 := x12.trans x3
  obtain ⟨p, vs, rfl, hp, pr, hz⟩ := (RT R).up (x2.trans x3).b r1
  refine ⟨p, vs, rfl, .inl (.inl (x13.s _ _ hp)), fun hw => ?_, fun hw l hl => ?_⟩
  · have e1 : cut a b c = a := by
      unfold cut
      rw [pairedLen pr, hw.1, hw.2, List.drop_zero, Nat.sub_zero, ← pairedLen pr, List.take_length]
    refine q a ?_ _ B3 H3 x13 ⟨p, vs, rfl, hp, pr, hz⟩
    show Rs.ok (cut a b c) = _
    rw [e1]
  · exact q _ rfl _ _ _ (x13.trans (Ext.new x13.s hl)) ⟨l, _, rfl, upd_same, pairedUp (pairedCut pr b c) fun _ _ z => R.up (same_upd (x13.s.free hl)) z, Nat.le_trans (cut_len _ _ _) hz⟩
/-- xs + ys of lists: a new one -/
theorem en_cat {m n : Rs (List α)} (ha : EvL cm W ta As R m) (hb : EvL cm W tb As R n) : EvN cm W (tOp rCat ta tb) As (OL R) (Rs.b2 m n catR) := fun B0 H0 σ B H s Q q qe qn => by
  refine ha B0 H0 σ B H s _ (fun a ea v B1 H1 x1 r1 => ?_) (fun e he => qe e (by rw [he]; rfl)) (Rs.bind_ne qn)
  subst ea
  refine hb B0 H0 σ B1 H1 (s.mono x1) _ (fun b eb u B2 H2 x2 r2 => ?_) (fun e he H' hs => qe e (by rw [he]; rfl) H' (x1.h.trans hs)) (Rs.bind_ne (m := n) qn)
  subst eb
  have hz := Rs.gd_ne (show catR a b ≠ .no from qn)
  have x12 := x1.trans x2
  obtain ⟨p, vs, rfl, hp, pr, _⟩ := r1.up x2
  obtain ⟨p2, ws, rfl, hp2, pr2, _⟩ := r2
  refine ⟨p, p2, vs, ws, rfl, rfl, hp, hp2, by rw [← pairedLen pr, ← pairedLen pr2, sizeLine_eq]; exact hz, fun l hl => q _ (show catR a b = _ from catR_ok hz) _ [l] B2 _ (x12.trans (Ext.newO x12.s hl)) ⟨l, _, rfl, rfl, upd_same, pairedApp pr pr2, ?_⟩ (new1' x12 hl)⟩
  rw [List.length_append, sizeLine_eq]
  exact hz
theorem oe_catT : OpE (rCatA K) (RT R) (RT R) (RT R) catR := fun {x y B H v u} s hx hy n => by
  have hz := Rs.gd_ne (show catR x y ≠ .no from n)
  obtain ⟨p, vs, rfl, hp, pr, l1⟩ := hx
  obtain ⟨p2, ws, rfl, hp2, pr2, l2⟩ := hy
  have e1 := pairedLen pr
  have e2 := pairedLen pr2
  refine ⟨_, catR_ok hz, fun Q q => ⟨p, p2, vs, ws, rfl, rfl, .inl (.inl (s _ _ hp)), .inl (.inl (s _ _ hp2)), by rw [← e1, ← e2, sizeLine_eq]; exact hz, fun e => ?_, fun _ e => ?_, fun _ _ l hl => ?_⟩⟩
  · subst e
    have : x = [] := List.eq_nil_of_length_eq_zero e1
    subst this
    exact q _ B H (Ext.refl s) ⟨p2, ws, rfl, hp2, pr2, l2⟩
  · subst e
    have : y = [] := List.eq_nil_of_length_eq_zero e2
    subst this
    exact q _ B H (Ext.refl s) ⟨p, vs, rfl, hp, by rw [List.append_nil]; exact pr, by rw [List.append_nil]; exact l1⟩
  · refine q _ _ _ (Ext.new s hl) ⟨l, _, rfl, upd_same, pairedUp (pairedApp pr pr2) fun _ _ z => R.up (same_upd (s.free hl)) z, ?_⟩
    rw [List.length_append, sizeLine_eq]
    exact hz
/-- [x] * n -/
theorem rep_flat (x : α) : ∀ n : Nat, (List.replicate n [x]).flatten = List.replicate n x
  | 0 => rfl
  | n + 1 => by
    rw [List.replicate_succ, List.flatten_cons, rep_flat x n]
    rfl
theorem en_rep {m : Rs α} {n : Rs Int} (ha : EvM cm W ta As R m) (hb : EvM cm W tb As RI n) : EvN cm W (tOp rRep (tLst (tCons ta tNil)) tb) As (OL R) (Rs.b2 m n repR) := fun B0 H0 σ B H s Q q qe qn => by
  refine ha B0 H0 σ B H s _ (fun a ea v B1 H1 x1 r1 => ?_) (fun e he => qe e (by rw [he]; rfl)) (Rs.bind_ne qn)
  subst ea
  refine ⟨by show 1 ≤ sizeLine; decide, fun l hl => ?_⟩
  have xn : Ext B H (upd B1 l (.lst [v])) (upd H1 l (.lst [v])) := x1.trans (Ext.new x1.s hl)
  refine hb B0 H0 σ _ _ (s.mono xn) _ (fun b eb u B2 H2 x2 r2 => ?_) (fun e he H' hs => qe e (by rw [he]; rfl) H' (xn.h.trans hs)) (Rs.bind_ne (m := n) qn)
  subst eb
  have hz := Rs.gd_ne (show repR a b ≠ .no from qn)
  have x12 := xn.trans x2
  have hl2 : H2 l = some (.lst [v]) := x2.h _ _ upd_same
  have sz : [v].length * b.toNat ≤ sizeLine := by
    rw [sizeLine_eq]
    show 1 * b.toNat ≤ _
    omega
  refine ⟨l, b, [v], rfl, r2, hl2, by omega, by omega, sz, fun p hp => q _ (show repR a b = _ from repR_ok hz) _ [p] B2 _ (x12.trans (Ext.newO x12.s hp)) ⟨p, _, rfl, rfl, upd_same, ?_, ?_⟩ (new1' x12 hp)⟩
  · rw [rep_flat]
    exact pairedRep (F := fun x u => R.r x B2 u) (R.up ((same_upd (x1.s.free hl)).trans x2.b) r1) _
  · rw [List.length_replicate, sizeLine_eq]
    omega
/-- list(range(n)) -/
theorem rgV_pr (a b : Int) {B : Hp} : Paired (fun x u => RI.r x B u) (rng a b) (rgV a b) := by
  unfold rng rgV
  generalize List.range (b - a).toNat = l
  induction l with
  | nil => exact .nil
  | cons x l ih => exact .cons rfl ih
theorem en_listRg1 {m : Rs Int} (ha : EvM cm W ta As RI m) : EvN cm W (tLstRg (tRg1 ta)) As (OL RI) (m.bind fun n => rngR 0 n) := fun B0 H0 σ B H s Q q qe qn => by
  refine ha B0 H0 σ B H s _ (fun a ea v B1 H1 x1 r1 => ?_) (fun e he => qe e (by rw [he]; rfl)) (Rs.bind_ne qn)
  subst ea
  have hz := Rs.gd_ne (show rngR 0 a ≠ .no from qn)
  refine ⟨a, r1, ⟨by omega, by omega, by omega, by omega, by omega⟩, fun l hl => q _ (show rngR 0 a = _ from rngR_ok hz) _ [l] B1 _ (x1.trans (Ext.newO x1.s hl)) ⟨l, _, rfl, rfl, upd_same, rgV_pr 0 a, ?_⟩ (new1' x1 hl)⟩
  rw [rng_len, sizeLine_eq]
  omega
/-- tuple(reversed(xs)) -/
theorem ev_tuprev {m : Rs (List α)} (ha : EvL cm W ta As R m) : EvM cm W (_root_.RT.tTupRev K ta) As (RT R) (m.bind fun x => .ok x.reverse) := fun B0 H0 σ B H s Q q qe qn => by
  refine ha B0 H0 σ B H s _ (fun a ea v B1 H1 x1 r1 => ?_) (fun e he => qe e (by rw [he]; rfl)) (Rs.bind_ne qn)
  subst ea
  obtain ⟨p, vs, rfl, hp, pr, hz⟩ := r1
  exact ⟨p, vs, rfl, .inl (.inl hp), fun l hl => q _ rfl _ _ _ (x1.trans (Ext.new x1.s hl)) ⟨l, _, rfl, upd_same, pairedUp (pairedRev pr) fun _ _ z => R.up (same_upd (x1.s.free hl)) z, by rw [List.length_reverse]; exact hz⟩⟩
theorem ev_ite {m : Rs Bool} {n o : Rs α} (h : EvT cm W tt As m) (h1 : EvM cm W ta As R n) (h2 : EvM cm W tb As R o) : EvM cm W (tIf tt ta tb) As R (Rs.ite m n o) := ev_if h h1 h2
theorem ev_isiO {n c : String} {b1 b2 : Bool} {m : Rs (Option α)} (ty : TyR K R n) (hk1 : kitB "NoneType" c = some b1) (hk2 : kitB n c = some b2) (h : EvM cm W te As (RO R) m) : EvM cm W (tCB (rIsi K) (tCons te (tCons (tC (.ty c)) tNil))) As RB (m.bind fun x => .ok (if x.isSome = true then b2 else b1)) := fun B0 H0 σ B H s Q q qe qn => by
  refine h B0 H0 σ B H s _ (fun a ea v B1 H1 x1 r1 => ?_) (fun e he => qe e (by rw [he]; rfl)) (Rs.bind_ne qn)
  subst ea
  cases a with
  | none =>
    rw [show v = .non from r1]
    exact ⟨.non, .ty c, .type "NoneType", .type c, b1, rfl, .ty c, .base .non, kit_ty hk1, q b1 rfl _ B1 H1 x1 rfl⟩
  | some y => exact ⟨v, .ty c, .type n, .type c, b2, rfl, .ty c, ty x1.s r1.2, kit_ty hk2, q b2 rfl _ B1 H1 x1 rfl⟩
/-! ### dicts of one's own, keys that are tuples (of ints) -/
structure KT (κ : Type) where
  rk : Rel κ
  enc : κ → List Key
  inj : ∀ a b, enc a = enc b → a = b
  at_ : ∀ {k : κ} {B : Hp} {v : V}, rk.r k B v → ∃ p, v = .ref p ∧ B p = some (.tup ((enc k).map kV))
def encI (xs : List Int) : List Key := xs.map Sum.inl
theorem encI_inj : ∀ a b : List Int, encI a = encI b → a = b
  | [], [], _ => rfl
  | [], y :: ys, h => by cases h
  | x :: xs, [], h => by cases h
  | x :: xs, y :: ys, h => by
    have h' : (Sum.inl x : Key) :: encI xs = Sum.inl y :: encI ys := h
    injection h' with h1 h2
    injection h1 with h1
    rw [h1, encI_inj xs ys h2]
theorem encI_map (xs : List Int) : (encI xs).map kV = xs.map V.int := by
  unfold encI
  rw [List.map_map]
  rfl
def ktT : KT (List Int) := ⟨RT RI, encI, encI_inj, fun {k B v} h => by
  obtain ⟨p, vs, rfl, hp, pr, _⟩ := h
  refine ⟨p, rfl, ?_⟩
  rw [hp, ints_of pr, encI_map]⟩
def kt2 : KT (Int × Int) := ⟨RTu (HC RI (Gd.H1 RI)), fun p => [.inl p.1, .inl p.2], fun a b h => by
  obtain ⟨a1, a2⟩ := a
  obtain ⟨b1, b2⟩ := b
  injection h with h1 h2
  injection h2 with h2 _
  injection h1 with h1
  injection h2 with h2
  simp only at h1 h2
  rw [h1, h2], fun {k B v} h => by
  obtain ⟨p, vs, rfl, hp, u, us, rfl, h1, u2, rfl, h2⟩ := h
  refine ⟨p, rfl, ?_⟩
  rw [hp, show u = .int k.1 from h1, show u2 = .int k.2 from h2]
  rfl⟩
section
variable {κ : Type} [DecidableEq κ]
def dget (d : List (κ × α)) (k : κ) : Option α := (d.find? fun kv => decide (kv.1 = k)).map (·.2)
def dput (d : List (κ × α)) (k : κ) (a : α) : List (κ × α) := if (d.any fun kv => decide (kv.1 = k)) = true then d.map (fun kv => if kv.1 = k then (kv.1, a) else kv) else d ++ [(k, a)]
noncomputable def dputR (d : List (κ × α)) (k : κ) (a : α) : Rs (List (κ × α)) := Rs.gd (d.length < 16777216) (.ok (dput d k a))
theorem dputR_ok {d : List (κ × α)} {k : κ} {a : α} (h : d.length < 16777216) : dputR d k a = .ok (dput d k a) := Rs.gd_pos h
theorem dput_len (d : List (κ × α)) (k : κ) (a : α) : (dput d k a).length ≤ d.length + 1 := by
  unfold dput
  split
  · rw [List.length_map]; omega
  · rw [List.length_append]; exact Nat.le_refl _
/-- a dict's entries as they stand -/
def DPr {κ' : Type} (enc : κ → κ') (R : Rel α) (B : Hp) : List (κ × α) → List (κ' × V) → Prop := Paired fun (p : κ × α) (q : κ' × V) => q.1 = enc p.1 ∧ R.r p.2 B q.2
theorem DPr.up {κ' : Type} {enc : κ → κ'} {B B' : Hp} (b : Same B B') : ∀ {d : List (κ × α)} {vs : List (κ' × V)}, DPr enc R B d vs → DPr enc R B' d vs
  | _, _, .nil => .nil
  | _, _, .cons ⟨h1, h2⟩ t => .cons ⟨h1, R.up b h2⟩ (DPr.up b t)
theorem DPr.len {κ' : Type} {enc : κ → κ'} {B : Hp} {d : List (κ × α)} {vs : List (κ' × V)} (h : DPr enc R B d vs) : d.length = vs.length := Paired.length h
theorem DPr.get {κ' : Type} [DecidableEq κ'] {enc : κ → κ'} (inj : ∀ a b, enc a = enc b → a = b) {B : Hp} {k : κ} : ∀ {d : List (κ × α)} {vs : List (κ' × V)}, DPr enc R B d vs → (dget d k = none ∧ valV vs (enc k) = none) ∨ ∃ a v, dget d k = some a ∧ valV vs (enc k) = some v ∧ R.r a B v
  | _, _, .nil => .inl ⟨rfl, rfl⟩
  | p :: d, q :: vs, .cons ⟨h1, h2⟩ t => by
    by_cases e : p.1 = k
    · refine .inr ⟨p.2, q.2, ?_, valV_pos (by rw [h1, e]), h2⟩
      unfold dget
      rw [List.find?_cons, decide_eq_true e]
      rfl
    · have e2 : ¬ q.1 = enc k := fun z => e (inj _ _ (h1.symm.trans z))
      have e3 : dget (p :: d) k = dget d k := by
        unfold dget
        rw [List.find?_cons, decide_eq_false e]
      rw [e3, valV_neg e2]
      exact DPr.get inj t
theorem DPr.any {κ' : Type} [DecidableEq κ'] {enc : κ → κ'} (inj : ∀ a b, enc a = enc b → a = b) {B : Hp} {k : κ} : ∀ {d : List (κ × α)} {vs : List (κ' × V)}, DPr enc R B d vs → (d.any fun kv => decide (kv.1 = k)) = (vs.any fun kv => decide (kv.1 = enc k))
  | _, _, .nil => rfl
  | p :: d, q :: vs, .cons ⟨h1, h2⟩ t => by
    rw [List.any_cons, List.any_cons, DPr.any inj t]
    have : (p.1 = k) ↔ (q.1 = enc k) := ⟨fun z => by rw [h1, z], fun z => inj _ _ (h1.symm.trans z)⟩
    simp only [this]
theorem DPr.map {κ' : Type} [DecidableEq κ'] {enc : κ → κ'} (inj : ∀ a b, enc a = enc b → a = b) {B : Hp} {k : κ} {a : α} {v : V} (r : R.r a B v) : ∀ {d : List (κ × α)} {vs : List (κ' × V)}, DPr enc R B d vs →
    DPr enc R B (d.map fun kv => if kv.1 = k then (kv.1, a) else kv) (vs.map fun kv => if kv.1 = enc k then (kv.1, v) else kv)
  | _, _, .nil => .nil
  | p :: d, q :: vs, .cons ⟨h1, h2⟩ t => by
    refine .cons ?_ (DPr.map inj r t)
    by_cases e : p.1 = k
    · have e2 : q.1 = enc k := by rw [h1, e]
      simp only [if_pos e, if_pos e2]
      exact ⟨h1, r⟩
    · have e2 : ¬ q.1 = enc k := fun z => e (inj _ _ (h1.symm.trans z))
      simp only [if_neg e, if_neg e2]
      exact ⟨h1, h2⟩
theorem DPr.app {κ' : Type} {enc : κ → κ'} {B : Hp} {k : κ} {a : α} {v : V} (r : R.r a B v) : ∀ {d : List (κ × α)} {vs : List (κ' × V)}, DPr enc R B d vs → DPr enc R B (d ++ [(k, a)]) (vs ++ [(enc k, v)])
  | _, _, .nil => .cons ⟨rfl, r⟩ .nil
  | _, _, .cons h t => .cons h (DPr.app r t)
theorem DPr.put {κ' : Type} [DecidableEq κ'] {enc : κ → κ'} (inj : ∀ a b, enc a = enc b → a = b) {B : Hp} {k : κ} {a : α} {v : V} (r : R.r a B v) {d : List (κ × α)} {vs : List (κ' × V)} (h : DPr enc R B d vs) : DPr enc R B (dput d k a) (putK vs (enc k) v) := by
  unfold dput putK
  rw [DPr.any inj h]
  split
  · exact DPr.map inj r h
  · exact DPr.app r h
def ODT (k : KT κ) (R : Rel α) : Own (List (κ × α)) where
  r d B H v fp := ∃ p vs, v = .ref p ∧ fp = [p] ∧ H p = some (.dT vs) ∧ DPr k.enc R B d vs ∧ d.length ≤ sizeLine
  up := fun s z ⟨p, vs, e, f, h, q, l⟩ => ⟨p, vs, e, f, by rw [z p (by rw [f]; exact List.mem_singleton.mpr rfl)]; exact h, q.up s, l⟩
/-- for good -/
def RDT (k : KT κ) (R : Rel α) : Rel (List (κ × α)) where
  r d B v := ∃ p vs, v = .ref p ∧ B p = some (.dT vs) ∧ DPr k.enc R B d vs ∧ d.length ≤ sizeLine
  up := fun s ⟨p, vs, e, h, q, l⟩ => ⟨p, vs, e, s _ _ h, q.up s, l⟩
/-- keys that are whole numbers -/
def encK (i : Int) : Key := .inl i
theorem encK_inj : ∀ a b : Int, encK a = encK b → a = b := fun a b h => by injection h
def ODK (R : Rel α) : Own (List (Int × α)) where
  r d B H v fp := ∃ p vs, v = .ref p ∧ fp = [p] ∧ H p = some (.dK vs) ∧ DPr encK R B d vs ∧ d.length ≤ sizeLine
  up := fun s z ⟨p, vs, e, f, h, q, l⟩ => ⟨p, vs, e, f, by rw [z p (by rw [f]; exact List.mem_singleton.mpr rfl)]; exact h, q.up s, l⟩
def RDK (R : Rel α) : Rel (List (Int × α)) where
  r d B v := ∃ p vs, v = .ref p ∧ B p = some (.dK vs) ∧ DPr encK R B d vs ∧ d.length ≤ sizeLine
  up := fun s ⟨p, vs, e, h, q, l⟩ => ⟨p, vs, e, s _ _ h, q.up s, l⟩
/-- a dict that is read: what a key finds; o: what kind of key -/
def DV {κ : Type} [DecidableEq κ] (Rk : Rel κ) (R : Rel α) (d : List (κ × α)) (B H : Hp) (v : V) : Prop := ∃ p, v = .ref p ∧ ∀ (k : κ) (B2 H2 : Hp) (u : V), Same B B2 → Same H H2 → Same B2 H2 → Rk.r k B2 u →
  (dget d k = none ∧ DGet H2 p u none) ∨ ∃ a w, dget d k = some a ∧ DGet H2 p u (some w) ∧ R.r a B2 w
def EvD (cm : Nat → Addr) (W : WX) (te : TE) (As : List Sl) (Rk : Rel κ) (R : Rel α) (m : Rs (List (κ × α))) : Prop :=
  ∀ (B0 H0 : Hp) (σ : L2.St) (B H : Hp), St3 B0 H0 As σ B H → ∀ Q : VK, (∀ a, m = .ok a → ∀ v B' H', Ext B H B' H' → DV Rk R a B' H' v → Q v H') →
    (∀ e, m = .ex e → ∀ H', Same H H' → W (.ref (cm e)) none σ H') → m ≠ .no → te σ H Q
theorem dv_T {k : KT κ} {d : List (κ × α)} {B H : Hp} {p : Addr} {vs : List (List Key × V)} (hp : H p = some (.dT vs)) (q : DPr k.enc R B d vs) : DV k.rk R d B H (.ref p) := ⟨p, rfl, fun x B2 H2 u hB hH hS r => by
  obtain ⟨b, rfl, hb⟩ := k.at_ r
  have g : DGet H2 p (.ref b) (valV vs (k.enc x)) := DGet.t (hH _ _ hp) (hS _ _ hb)
  rcases DPr.get k.inj (k := x) (q.up hB) with ⟨h1, h2⟩ | ⟨a, w, h1, h2, h3⟩
  · rw [h2] at g
    exact .inl ⟨h1, g⟩
  · rw [h2] at g
    exact .inr ⟨a, w, h1, g, h3⟩⟩
theorem dv_K {d : List (Int × α)} {B H : Hp} {p : Addr} {vs : List (Key × V)} (hp : H p = some (.dK vs)) (q : DPr encK R B d vs) : DV RI R d B H (.ref p) := ⟨p, rfl, fun x B2 H2 u hB hH hS r => by
  have g : DGet H2 p (kV (encK x)) (valV vs (encK x)) := DGet.k (hH _ _ hp)
  rw [show u = kV (encK x) from r]
  rcases DPr.get encK_inj (k := x) (q.up hB) with ⟨h1, h2⟩ | ⟨a, w, h1, h2, h3⟩
  · rw [h2] at g
    exact .inl ⟨h1, g⟩
  · rw [h2] at g
    exact .inr ⟨a, w, h1, g, h3⟩⟩
theorem ed_owT {k : KT κ} {i : Nat} {d : List (κ × α)} (h : As[i]? = some (.ow (ODT k R) d)) : EvD cm W (tVar i) As k.rk R (.ok d) := fun B0 H0 σ B H s Q q qe qn => by
  obtain ⟨v, fp, e, p, vs, ev, _, hp, pr, hz⟩ := s.ow h
  exact ⟨v, e, q d rfl v B H (Ext.refl s.ext.s) (by rw [ev]; exact dv_T hp pr)⟩
theorem ed_owK {i : Nat} {d : List (Int × α)} (h : As[i]? = some (.ow (ODK R) d)) : EvD cm W (tVar i) As RI R (.ok d) := fun B0 H0 σ B H s Q q qe qn => by
  obtain ⟨v, fp, e, p, vs, ev, _, hp, pr, hz⟩ := s.ow h
  exact ⟨v, e, q d rfl v B H (Ext.refl s.ext.s) (by rw [ev]; exact dv_K hp pr)⟩
theorem ed_fzT {k : KT κ} {m : Rs (List (κ × α))} (h : EvM cm W te As (RDT k R) m) : EvD cm W te As k.rk R m := fun B0 H0 σ B H s Q q qe qn =>
  h B0 H0 σ B H s _ (fun a ea v B1 H1 x1 r1 => by
    obtain ⟨p, vs, e, hp, pr, hz⟩ := r1
    exact q a ea v B1 H1 x1 (by rw [e]; exact dv_T (x1.s _ _ hp) pr)) qe qn
theorem ed_fzK {m : Rs (List (Int × α))} (h : EvM cm W te As (RDK R) m) : EvD cm W te As RI R m := fun B0 H0 σ B H s Q q qe qn =>
  h B0 H0 σ B H s _ (fun a ea v B1 H1 x1 r1 => by
    obtain ⟨p, vs, e, hp, pr, hz⟩ := r1
    exact q a ea v B1 H1 x1 (by rw [e]; exact dv_K (x1.s _ _ hp) pr)) qe qn
variable {Rk : Rel κ}
theorem ev_dget {m : Rs (List (κ × α))} {n : Rs κ} (hd : EvD cm W ta As Rk R m) (hk : EvM cm W tb As Rk n) : EvM cm W (tDGet ta tb) As R (Rs.b2 m n fun d k => Rs.op (dget d k)) := fun B0 H0 σ B H s Q q qe qn => by
  refine hd B0 H0 σ B H s _ (fun a ea v B1 H1 x1 r1 => ?_) (fun e he => qe e (by rw [he]; rfl)) (Rs.bind_ne qn)
  subst ea
  refine hk B0 H0 σ B1 H1 (s.mono x1) _ (fun b eb u B2 H2 x2 r2 => ?_) (fun e he H' hs => qe e (by rw [he]; rfl) H' (x1.h.trans hs)) (Rs.bind_ne (m := n) qn)
  subst eb
  obtain ⟨p, rfl, g⟩ := r1
  have qn' : Rs.op (dget a b) ≠ .no := qn
  rcases g b B2 H2 u x2.b x2.h x2.s r2 with ⟨h1, _⟩ | ⟨c, w, h1, h2, h3⟩
  · rw [h1] at qn'
    exact absurd rfl qn'
  · exact ⟨p, w, rfl, h2, q c (show Rs.op (dget a b) = _ by rw [h1]; rfl) w B2 H2 (x1.trans x2) h3⟩
theorem ev_din {m : Rs (List (κ × α))} {n : Rs κ} (hk : EvM cm W tb As Rk n) (hd : EvD cm W ta As Rk R m) : EvM cm W (tDIn tb ta) As RB (Rs.b2 n m fun k d => .ok (dget d k).isSome) := fun B0 H0 σ B H s Q q qe qn => by
  refine hk B0 H0 σ B H s _ (fun b eb u B1 H1 x1 r2 => ?_) (fun e he => qe e (by rw [he]; rfl)) (Rs.bind_ne qn)
  subst eb
  refine hd B0 H0 σ B1 H1 (s.mono x1) _ (fun a ea v B2 H2 x2 r1 => ?_) (fun e he H' hs => qe e (by rw [he]; rfl) H' (x1.h.trans hs)) (Rs.bind_ne (m := m) qn)
  subst ea
  obtain ⟨p, rfl, g⟩ := r1
  rcases g b B2 H2 u (Same.refl _) (Same.refl _) x2.s (Rk.up x2.b r2) with ⟨h1, h2⟩ | ⟨c, w, h1, h2, h3⟩
  · exact ⟨p, none, rfl, h2, q _ (show Rs.ok (dget a b).isSome = _ by rw [h1]; rfl) _ B2 H2 (x1.trans x2) rfl⟩
  · exact ⟨p, some w, rfl, h2, q _ (show Rs.ok (dget a b).isSome = _ by rw [h1]; rfl) _ B2 H2 (x1.trans x2) rfl⟩
theorem ev_dnotin {m : Rs (List (κ × α))} {n : Rs κ} (hk : EvM cm W tb As Rk n) (hd : EvD cm W ta As Rk R m) : EvM cm W (tDNotIn tb ta) As RB (Rs.b2 n m fun k d => .ok (!(dget d k).isSome)) := fun B0 H0 σ B H s Q q qe qn => by
  refine hk B0 H0 σ B H s _ (fun b eb u B1 H1 x1 r2 => ?_) (fun e he => qe e (by rw [he]; rfl)) (Rs.bind_ne qn)
  subst eb
  refine hd B0 H0 σ B1 H1 (s.mono x1) _ (fun a ea v B2 H2 x2 r1 => ?_) (fun e he H' hs => qe e (by rw [he]; rfl) H' (x1.h.trans hs)) (Rs.bind_ne (m := m) qn)
  subst ea
  obtain ⟨p, rfl, g⟩ := r1
  rcases g b B2 H2 u (Same.refl _) (Same.refl _) x2.s (Rk.up x2.b r2) with ⟨h1, h2⟩ | ⟨c, w, h1, h2, h3⟩
  · exact ⟨p, none, rfl, h2, q _ (show Rs.ok (!(dget a b).isSome) = _ by rw [h1]; rfl) _ B2 H2 (x1.trans x2) rfl⟩
  · exact ⟨p, some w, rfl, h2, q _ (show Rs.ok (!(dget a b).isSome) = _ by rw [h1]; rfl) _ B2 H2 (x1.trans x2) rfl⟩
theorem en_dnewT {k : KT κ} : EvN cm W tDNewT As (ODT k R) (.ok []) := fun B0 H0 σ B H s Q q qe qn l hl => q [] rfl _ [l] B _ (Ext.newO s.ext.s hl) ⟨l, [], rfl, rfl, upd_same, .nil, Nat.zero_le _⟩ (new1 s.ext.s hl)
theorem en_dnewK : EvN cm W tDNewK As (ODK R) (.ok []) := fun B0 H0 σ B H s Q q qe qn l hl => q [] rfl _ [l] B _ (Ext.newO s.ext.s hl) ⟨l, [], rfl, rfl, upd_same, .nil, Nat.zero_le _⟩ (new1 s.ext.s hl)
/-- d[k] = v -/
theorem b_dputT {k : KT κ} {i : Nat} {d : List (κ × α)} {m : Rs α} {n : Rs κ} {kk : List (κ × α) → Rs τ} (hi : As[i]? = some (.ow (ODT k R) d)) (hv : EvM cm W ta As R m) (hk : EvM cm W tb As k.rk n) (hz : ∀ d', Blk cm W tz (As.set i (.ow (ODT k R) d')) (kk d') C) :
    Blk cm W (tSeq (sDPut (tVar i) tb ta) tz) As (m.bind fun a => n.bind fun x => (dputR d x a).bind kk) C := fun B0 H0 D σ B H s q qe qn => by
  refine hv B0 H0 σ B H s _ (fun a ea v B1 H1 x1 r1 => ?_) (fun e he H' hs => qe e (by rw [he]; rfl) σ H' (s.ext.h.trans hs)) (Rs.bind_ne qn)
  subst ea
  have s1 := s.mono x1
  obtain ⟨v0, fp0, e0, p, vs, ev0, efp, hp, pr, hz0⟩ := s1.ow hi
  refine ⟨v0, e0, ?_⟩
  refine hk B0 H0 σ B1 H1 s1 _ (fun b eb u B2 H2 x2 r2 => ?_) (fun e he H' hs => qe e (by rw [he]; rfl) σ H' ((s.ext.h.trans x1.h).trans hs)) (Rs.bind_ne (m := n) qn)
  subst eb
  have s2 := s1.mono x2
  have n1 : dputR d b a ≠ .no := Rs.bind_ne (m := dputR d b a) qn
  have hl : d.length < 16777216 := Rs.gd_ne n1
  have e1 : ((Rs.ok a).bind fun a => (Rs.ok b).bind fun x => (dputR d x a).bind kk) = kk (dput d b a) := by
    show (dputR d b a).bind kk = _
    rw [dputR_ok hl]; rfl
  rw [e1] at q qe qn
  obtain ⟨pk, rfl, hpk⟩ := k.at_ r2
  have hp2 : H2 p = some (.dT vs) := x2.h _ _ hp
  have sz : vs.length < sizeLine := by rw [← pr.len, sizeLine_eq]; exact hl
  refine ⟨p, _, ev0, DPut.t hp2 (x2.s _ _ hpk) sz, ?_⟩
  refine hz (dput d b a) B0 H0 D σ B2 _ (s2.chg (O' := ODT k R) hi fun w fp ew hr hfp => ?_) q qe qn
  obtain ⟨p2, vs2, rfl, ef2, hp3, pr2, hz2⟩ := hr
  rw [e0] at ew
  have ep : p2 = p := by
    have := Option.some.inj (Option.some.inj ew)
    rw [ev0] at this
    exact (V.ref.inj this).symm
  subst ep
  have evs : vs2 = vs := by
    rw [hp2] at hp3
    cases hp3
    rfl
  subst evs
  refine ⟨fp, ⟨p2, _, rfl, ef2, upd_same, pr2.put k.inj (R.up x2.b r1), ?_⟩, fun b hb => ⟨.inl hb, ?_⟩, fun b hb _ => upd_ne fun e => hb (by rw [ef2, e]; exact List.mem_singleton.mpr rfl)⟩
  · have := dput_len d b a
    rw [sizeLine_eq]
    omega
  · rw [ef2, List.mem_singleton] at hb
    rw [hb, upd_same]
    exact Option.some_ne_none _
theorem b_dputK {i : Nat} {d : List (Int × α)} {m : Rs α} {n : Rs Int} {kk : List (Int × α) → Rs τ} (hi : As[i]? = some (.ow (ODK R) d)) (hv : EvM cm W ta As R m) (hk : EvM cm W tb As RI n) (hz : ∀ d', Blk cm W tz (As.set i (.ow (ODK R) d')) (kk d') C) :
    Blk cm W (tSeq (sDPut (tVar i) tb ta) tz) As (m.bind fun a => n.bind fun x => (dputR d x a).bind kk) C := fun B0 H0 D σ B H s q qe qn => by
  refine hv B0 H0 σ B H s _ (fun a ea v B1 H1 x1 r1 => ?_) (fun e he H' hs => qe e (by rw [he]; rfl) σ H' (s.ext.h.trans hs)) (Rs.bind_ne qn)
  subst ea
  have s1 := s.mono x1
  obtain ⟨v0, fp0, e0, p, vs, ev0, efp, hp, pr, hz0⟩ := s1.ow hi
  refine ⟨v0, e0, ?_⟩
  refine hk B0 H0 σ B1 H1 s1 _ (fun b eb u B2 H2 x2 r2 => ?_) (fun e he H' hs => qe e (by rw [he]; rfl) σ H' ((s.ext.h.trans x1.h).trans hs)) (Rs.bind_ne (m := n) qn)
  subst eb
  have s2 := s1.mono x2
  have n1 : dputR d b a ≠ .no := Rs.bind_ne (m := dputR d b a) qn
  have hl : d.length < 16777216 := Rs.gd_ne n1
  have e1 : ((Rs.ok a).bind fun a => (Rs.ok b).bind fun x => (dputR d x a).bind kk) = kk (dput d b a) := by
    show (dputR d b a).bind kk = _
    rw [dputR_ok hl]; rfl
  rw [e1] at q qe qn
  have hp2 : H2 p = some (.dK vs) := x2.h _ _ hp
  have sz : vs.length < sizeLine := by rw [← pr.len, sizeLine_eq]; exact hl
  rw [show u = kV (encK b) from r2]
  refine ⟨p, _, ev0, DPut.k hp2 sz, ?_⟩
  refine hz (dput d b a) B0 H0 D σ B2 _ (s2.chg (O' := ODK R) hi fun w fp ew hr hfp => ?_) q qe qn
  obtain ⟨p2, vs2, rfl, ef2, hp3, pr2, hz2⟩ := hr
  rw [e0] at ew
  have ep : p2 = p := by
    have := Option.some.inj (Option.some.inj ew)
    rw [ev0] at this
    exact (V.ref.inj this).symm
  subst ep
  have evs : vs2 = vs := by
    rw [hp2] at hp3
    cases hp3
    rfl
  subst evs
  refine ⟨fp, ⟨p2, _, rfl, ef2, upd_same, pr2.put encK_inj (R.up x2.b r1), ?_⟩, fun b hb => ⟨.inl hb, ?_⟩, fun b hb _ => upd_ne fun e => hb (by rw [ef2, e]; exact List.mem_singleton.mpr rfl)⟩
  · have := dput_len d b a
    rw [sizeLine_eq]
    omega
  · rw [ef2, List.mem_singleton] at hb
    rw [hb, upd_same]
    exact Option.some_ne_none _
end
end
end Gd

namespace Gd
open PySem PySem.Spec PyProof.Rows L2
/-! ### try -/
def Rs.tryR {α S : Type} (m : Rs α) (k : α → Rs S) (c : Nat → Bool) (h : Nat → Rs S) : Rs S := match m with
  | .ok a => k a
  | .ex e => if c e = true then h e else .ex e
  | .no => .no
@[simp] theorem Rs.tryR_ok {α S : Type} (a : α) (k : α → Rs S) (c : Nat → Bool) (h : Nat → Rs S) : Rs.tryR (.ok a) k c h = k a := rfl
@[simp] theorem Rs.tryR_ex {α S : Type} (e : Nat) (k : α → Rs S) (c : Nat → Bool) (h : Nat → Rs S) : Rs.tryR (.ex e) k c h = if c e = true then h e else .ex e := rfl
/-- an error that is held -/
def RExc (a : Addr) : Rel Unit := ⟨fun _ _ v => v = .ref a, fun _ h => h⟩
/-- by the class of what is held -/
def tExc (cm : Nat → Addr) (cls : Value) (d : Option Addr) (t : Nat → TS) : TS := fun D σ H => ∃ e, cls = .ref (cm e) ∧ d = none ∧ t e D σ H
theorem pss_exc {X : Cx} {cm : Nat → Addr} {cls : Value} {d : Option Addr} {t : Nat → TS} {st : List Stmt} (h : ∀ e, cls = .ref (cm e) → d = none → PSs X st (t e)) : PSs X st (tExc cm cls d t) :=
  ⟨fun pins s σ H D I hw => by
    obtain ⟨e, h1, h2, h3⟩ := hw
    exact (h e h1 h2).run pins s σ H D I h3⟩
section
variable {cm : Nat → Addr} {W : WX} {As Bs : List Sl} {K : PySem.W.Frag} {α β γ τ τ' ρ S S' : Type} {R : Rel α} {Rb : Rel β} {U : Rel γ} {T : HRel τ} {Rr : Rel ρ} {te ta tb tc : TE} {tt tu : TT} {t1 t2 tz : TS} {C : Con τ} {C' : Con τ'}
theorem St3.exc {B0 H0 B H H' : Hp} {σ : L2.St} (s : St3 B0 H0 As σ B H) (h : Same H H') : St3 B0 H0 As σ B H' := s.mono ⟨h, Same.refl _, s.ext.s.trans h, fun _ _ => rfl⟩
/-- try: f(..) except X: .. -/
theorem b_try {tef : WX → TE} {m : Rs α} {cv : Value} {c : Nat → Bool} {ts : Addr → Value → Option Addr → TS} {Post : S → List Sl} {s0 : S} {mh : Nat → Rs S} {k : S → Rs τ} (he : ∀ W, EvM cm W (tef W) As R m) (w0 : Wk As (Post s0))
    (hc : ∀ e, PySem.W.exmOne K (.ref (cm e)) cv = some (c e)) (hh : ∀ e a, Blk cm W (ts a (.ref (cm e)) none) As (mh e) (CS Post)) (hz : ∀ s, Blk cm W tz (Post s) (k s) C) :
    Blk cm W (tSeq (fun D σ H => (tSeq (tDrop (tef (wOnly K cv ts W D))) tNext) D σ H) tz) As ((Rs.tryR m (fun _ => .ok s0) c mh).bind k) C := fun B0 H0 D σ B H s q qe qn => by
  refine he _ B0 H0 σ B H s _ (fun a ea v B1 H1 x1 r1 => ?_) (fun e ee H' hs => ?_) (fun e => qn (by rw [e]; rfl))
  · subst ea
    exact hz s0 B0 H0 D σ B1 H1 ((s.mono x1).weak w0) q qe qn
  · subst ee
    have s' := s.exc hs
    refine ⟨c e, hc e, fun hce a _ => ?_, fun hce => ?_⟩
    · have e1 : (Rs.tryR (.ex e : Rs α) (fun _ => .ok s0) c mh) = mh e := by rw [Rs.tryR_ex, if_pos hce]
      rw [e1] at q qe qn
      refine hh e a B0 H0 { D with nx := tz D } σ B H' s' (fun b eb σ2 B2 H2 s2 => ?_) (fun e' he' => qe e' (by rw [he']; rfl)) (Rs.bind_ne qn)
      rw [eb] at q qe qn
      exact hz b B0 H0 D σ2 B2 H2 s2 q qe qn
    · have e1 : (Rs.tryR (.ex e : Rs α) (fun _ => .ok s0) c mh) = .ex e := by
        rw [Rs.tryR_ex, if_neg (by rw [hce]; exact Bool.false_ne_true)]
      exact qe e (by rw [e1]; rfl) σ H' s'.ext.h
/-- try: f(..) except X as n: .. -/
theorem b_tryAs {tef : WX → TE} {m : Rs α} {cv : Value} {i : Nat} {c : Nat → Bool} {ts : Addr → Value → Option Addr → TS} {Post : S → List Sl} {s0 : S} {mh : Nat → Rs S} {k : S → Rs τ} (he : ∀ W, EvM cm W (tef W) As R m) (w0 : Wk As (Post s0)) (hu : ∀ s, (Post s).set i .un = Post s)
    (hc : ∀ e, PySem.W.exmOne K (.ref (cm e)) cv = some (c e)) (hh : ∀ e a, Blk cm W (ts a (.ref (cm e)) none) (As.set i (.fz (RExc a) ())) (mh e) (CS Post)) (hz : ∀ s, Blk cm W tz (Post s) (k s) C) :
    Blk cm W (tSeq (fun D σ H => (tSeq (tDrop (tef (wAs K cv i ts W D))) tNext) D σ H) tz) As ((Rs.tryR m (fun _ => .ok s0) c mh).bind k) C := fun B0 H0 D σ B H s q qe qn => by
  refine he _ B0 H0 σ B H s _ (fun a ea v B1 H1 x1 r1 => ?_) (fun e ee H' hs => ?_) (fun e => qn (by rw [e]; rfl))
  · subst ea
    exact hz s0 B0 H0 D σ B1 H1 ((s.mono x1).weak w0) q qe qn
  · subst ee
    have s' := s.exc hs
    refine ⟨c e, hc e, fun hce a _ => ?_, fun hce => ?_⟩
    · have e1 : (Rs.tryR (.ex e : Rs α) (fun _ => .ok s0) c mh) = mh e := by rw [Rs.tryR_ex, if_pos hce]
      rw [e1] at q qe qn
      refine hh e a B0 H0 _ _ B H' (s'.set (R := RExc a) (a := ()) (v := .ref a) rfl) (fun b eb σ2 B2 H2 s2 => ?_) (fun e' he' => qe e' (by rw [he']; rfl)) (Rs.bind_ne qn)
      rw [eb] at q qe qn
      have s3 : St3 B0 H0 (Post b) (σ2.set i none) B2 H2 := by
        have f1 : St3 B0 H0 ((Post b).set i .un) σ2 B2 H2 := s2.forget
        obtain ⟨F, g1, g2, g3⟩ := f1.fp
        rw [← hu b]
        refine ⟨f1.ext, by rw [List.length_set]; exact f1.len, fun j => if j = i then [] else F j, fun j sl o ej eo => ?_, fun j b' hb => ?_, fun j k' b' hb hc' => ?_⟩
        · by_cases hj : j = i
          · subst hj
            have hl : j < (Post b).length := by
              have := (List.getElem?_eq_some_iff.mp ej).1
              rwa [List.length_set] at this
            rw [List.getElem?_set_self hl] at ej
            cases ej
            simp only [if_pos]
            rfl
          · rw [List.getElem?_set_ne (Ne.symm hj)] at eo
            simp only [if_neg hj]
            exact g1 j sl o ej eo
        · by_cases hj : j = i
          · simp [hj] at hb
          · simp only [if_neg hj] at hb
            exact g2 j b' hb
        · by_cases hj : j = i
          · simp [hj] at hb
          · by_cases hk : k' = i
            · simp [hk] at hc'
            · simp only [if_neg hj] at hb
              simp only [if_neg hk] at hc'
              exact g3 j k' b' hb hc'
      exact hz b B0 H0 D _ B2 H2 s3 q qe qn
    · have e1 : (Rs.tryR (.ex e : Rs α) (fun _ => .ok s0) c mh) = .ex e := by
        rw [Rs.tryR_ex, if_neg (by rw [hce]; exact Bool.false_ne_true)]
      exact qe e (by rw [e1]; rfl) σ H' s'.ext.h
theorem b_exc {t : Nat → TS} {e : Nat} {m : Rs τ} (h : Blk cm W (t e) As m C) : Blk cm W (tExc cm (.ref (cm e)) none t) As m C := fun B0 H0 D σ B H s q qe qn => ⟨e, rfl, rfl, h B0 H0 D σ B H s q qe qn⟩
/-- isinstance of what is held -/
theorem ev_isE {a : Addr} {e i : Nat} {c : V} {cv : Value} {b : Bool} (hi : As[i]? = some (.fz (RExc a) ())) (hcv : ∀ u, RelV c u → u = cv) (hk : PySem.W.kitOne K (.ref (cm e)) cv = some b) : EvM cm W (tCB (rIsE K (cm e) a) (tCons (tVar i) (tCons (tC c) tNil))) As RB (.ok b) := fun B0 H0 σ B H s Q q _ _ => by
  obtain ⟨v, ev, r⟩ := s.fz hi
  refine ⟨v, ev, c, cv, b, by rw [show v = .ref a from r], hcv, hk, q b rfl _ B H (Ext.refl s.ext.s) rfl⟩
/-- xs[k] = v -/
noncomputable def setR (xs : List α) (i : Int) (a : α) : Rs (List α) := Rs.cl ((Rs.op (ixN xs.length i)).bind fun j => .ok (xs.set j a))
theorem setR_eq (xs : List α) (i : Int) (a : α) : setR xs i a = (Rs.op (ixN xs.length i)).bind fun j => .ok (xs.set j a) := Rs.cl_eq _
theorem setR_nat {xs : List α} {i : Int} {j : Nat} {a : α} (hi : i = (j : Int)) (h : j < xs.length) : setR xs i a = .ok (xs.set j a) := by
  subst hi
  rw [setR_eq]
  unfold ixN
  rw [if_pos (by omega), if_pos (by omega), Int.toNat_natCast]
  rfl
theorem b_seti {i : Nat} {xs : List α} {m : Rs α} {n : Rs Int} {kk : List α → Rs τ} (hi : As[i]? = some (.ow (OL R) xs)) (hv : EvM cm W ta As R m) (hk : EvM cm W tb As RI n) (hz : ∀ d', Blk cm W tz (As.set i (.ow (OL R) d')) (kk d') C) :
    Blk cm W (tSeq (tAsg ta (gSub (tVar i) tb rSetL)) tz) As (m.bind fun a => n.bind fun x => (setR xs x a).bind kk) C := fun B0 H0 D σ B H s q qe qn => by
  refine hv B0 H0 σ B H s _ (fun a ea v B1 H1 x1 r1 => ?_) (fun e he H' hs => qe e (by rw [he]; rfl) σ H' (s.ext.h.trans hs)) (Rs.bind_ne qn)
  subst ea
  have s1 := s.mono x1
  obtain ⟨v0, fp0, e0, p, vs, ev0, efp, hp, pr, hz0⟩ := s1.ow hi
  refine ⟨v0, e0, ?_⟩
  refine hk B0 H0 σ B1 H1 s1 _ (fun b eb u B2 H2 x2 r2 => ?_) (fun e he H' hs => qe e (by rw [he]; rfl) σ H' ((s.ext.h.trans x1.h).trans hs)) (Rs.bind_ne (m := n) qn)
  subst eb
  have s2 := s1.mono x2
  have n1 : setR xs b a ≠ .no := Rs.bind_ne (m := setR xs b a) qn
  rw [setR_eq] at n1
  cases hj : ixN xs.length b with
  | none =>
    rw [hj] at n1
    exact absurd rfl n1
  | some j =>
    have e1 : ((Rs.ok a).bind fun a => (Rs.ok b).bind fun x => (setR xs x a).bind kk) = kk (xs.set j a) := by
      show (setR xs b a).bind kk = _
      rw [setR_eq, hj]; rfl
    rw [e1] at q qe qn
    have hp2 : H2 p = some (.lst vs) := x2.h _ _ hp
    refine ⟨p, vs, b, j, ev0, r2, hp2, by rw [← pairedLen pr]; exact hj, ?_⟩
    refine hz (xs.set j a) B0 H0 D σ B2 _ (s2.chg (O' := OL R) hi fun w fp ew hr hfp => ?_) q qe qn
    obtain ⟨p2, vs2, rfl, ef2, hp3, pr2, hz2⟩ := hr
    rw [e0] at ew
    have ep : p2 = p := by
      have := Option.some.inj (Option.some.inj ew)
      rw [ev0] at this
      exact (V.ref.inj this).symm
    subst ep
    have evs : vs2 = vs := by
      rw [hp2] at hp3
      cases hp3
      rfl
    subst evs
    refine ⟨fp, ⟨p2, _, rfl, ef2, upd_same, pairedSet (F := fun x u => R.r x B2 u) (R.up x2.b r1) j pr2, by rw [List.length_set]; exact hz2⟩, fun b hb => ⟨.inl hb, ?_⟩, fun b hb _ => upd_ne fun e => hb (by rw [ef2, e]; exact List.mem_singleton.mpr rfl)⟩
    rw [ef2, List.mem_singleton] at hb
    rw [hb, upd_same]
    exact Option.some_ne_none _
/-- xs.extend(ys) -/
theorem b_extend {i : Nat} {xs : List α} {m : Rs (List α)} {k : List α → Rs τ} (hi : As[i]? = some (.ow (OL R) xs)) (h : EvL cm W te As R m) (hz : ∀ ys, Blk cm W tz (As.set i (.ow (OL R) ys)) (k ys) C) :
    Blk cm W (tSeq (tDrop (tBM K "list" rExtend (tVar i) (tCons te tNil))) tz) As (m.bind fun a => (catR xs a).bind k) C := fun B0 H0 D σ B H s q qe qn => by
  obtain ⟨v0, fp0, e0, p, vs, ev0, efp, hp, pr, hz0⟩ := s.ow hi
  refine ⟨v0, e0, ?_⟩
  refine ⟨by rw [ev0]; exact .inl ⟨rfl, vs, .inl (.inl hp)⟩, ?_⟩
  refine h B0 H0 σ B H s _ (fun a ea v B' H' x r => ?_) (fun e he H' hs => qe e (by rw [he]; rfl) σ H' (s.ext.h.trans hs)) (Rs.bind_ne qn)
  subst ea
  have n1 : catR xs a ≠ .no := Rs.bind_ne (m := catR xs a) qn
  have hl := Rs.gd_ne n1
  have e1 : ((Rs.ok a).bind fun a => (catR xs a).bind k) = k (xs ++ a) := by rw [Rs.bind_ok, catR_ok hl]; rfl
  rw [e1] at q qe qn
  have hp' : H' p = some (.lst vs) := x.h _ _ hp
  obtain ⟨p3, ws, rfl, hp3, pr3, _⟩ := r
  have sz : vs.length + ws.length ≤ sizeLine := by rw [← pairedLen pr, ← pairedLen pr3, sizeLine_eq]; exact hl
  refine ⟨p, p3, vs, ws, ev0, rfl, hp', hp3, sz, ?_⟩
  refine hz (xs ++ a) B0 H0 D σ B' _ ((s.mono x).chg (O' := OL R) hi fun w fp ew hr hfp => ?_) q qe qn
  obtain ⟨p2, vs2, rfl, ef2, hp2, pr2, hz2⟩ := hr
  rw [e0] at ew
  have ep : p2 = p := by
    have := Option.some.inj (Option.some.inj ew)
    rw [ev0] at this
    exact (V.ref.inj this).symm
  subst ep
  have evs : vs2 = vs := by
    rw [hp'] at hp2
    cases hp2
    rfl
  subst evs
  refine ⟨fp, ⟨p2, vs2 ++ ws, rfl, ef2, upd_same, pairedApp pr2 pr3, ?_⟩, fun b hb => ⟨.inl hb, ?_⟩, fun b hb _ => upd_ne fun e => hb (by rw [ef2, e]; exact List.mem_singleton.mpr rfl)⟩
  · rw [List.length_append, sizeLine_eq]
    exact hl
  · rw [ef2, List.mem_singleton] at hb
    rw [hb, upd_same]
    exact Option.some_ne_none _
end
end Gd
namespace Gd
open PySem PySem.Spec PyProof.Rows L2
theorem call_isEK {X : Cx} {K : PySem.W.Frag} {a D : Addr} {oe : Obj} {pn : List (Addr × Obj)} {cls : Value} {d : Option Addr} (hK : X.K = K) (C : ExcC K D) (hc : cls = .ref D) (hd : d = none) (hz : Zc cls d oe) (hf : ∃ vs, oe.data = .fields vs) : CallR (X.suite a ((a, oe) :: pn)) (.builtin "isinstance") (rIsE K D a) := by
  subst hK hc hd
  exact call_isE C hz hf
theorem pe_const {X : Cx} {x : Str} {i : Int} {pos : Pos} (hg : Gl X x) (h : ∃ t, X.mg x = some (.int i t)) (hd : (x == ("__debug__" : Str)) = false := by decide) : PE X (.Name x pos) (tC (.int i)) := by
  obtain ⟨t, e⟩ := h
  exact pe_glob hg e ⟨t, rfl⟩ hd
theorem hu65 {k : Nat} {A : Around} (r : Room k A) : A.units + 65 < cLine := by have := r.un; omega
section
variable {X : Cx} {K : PySem.W.Frag} {o e : Expr} {es : List Expr} {to : TE} {t : TA} {T id : String} {name : Str} {r : V → List V → Hp → VK → Prop} {cpos apos : Pos}
theorem pe_bmK (hK : X.K = K) (pa : PlainAttrs T) (slot : Slot T name id) (hty : typeOf (.builtin id) = pure (.type "method_descriptor")) (hm : MtR X id r) (ho : PE X o to) (ha : PA X (e :: es) t)
    (hbase : attributeBase o name X.env (eval o X.env) = eval o X.env := by rfl)
    (hfew : ((backTo cpos (starEach (e :: es) X.env)).all (fun x => !x.1) && (backToKw cpos (keywordEach [] X.env)).all (fun x => x.1.isSome)
      && decide ((e :: es).length + ([] : List Keyword).length + (if ([] : List Keyword).isEmpty then 0 else 1) < 30)) = true := by rfl)
    (hline : (apos.endLine == cpos.line) = true := by rfl) (hs : starEach (e :: es) X.env = (false, eval e X.env) :: starEach es X.env := by rfl) (hplain : (backTo cpos (starEach es X.env)).any (·.1) = false := by rfl) :
    PE X (.Call (.Attribute o name apos) (e :: es) [] cpos) (tBM K T r to t) := by
  subst hK
  exact pe_bm pa slot hty hm ho ha hbase hfew hline hs hplain
end
section
variable {cm : Nat → Addr} {W : WX} {As : List Sl} {α τ κ : Type} [DecidableEq κ] {R : Rel α} {C : Con τ} {i : Nat}
theorem St3.freezeG {B0 H0 B H : Hp} {σ : L2.St} {β : Type} {O : Own β} {Rf : Rel β} {x : β} (S : St3 B0 H0 As σ B H) (hi : As[i]? = some (.ow O x))
    (hO : ∀ {B H v fp}, O.r x B H v fp → ∃ p o, v = .ref p ∧ fp = [p] ∧ H p = some o ∧ (B p = none → Rf.r x (upd B p o) v)) : ∃ B', St3 B0 H0 (As.set i (.fz Rf x)) σ B' H ∧ Same B B' := by
  obtain ⟨F, h1, h2, h3⟩ := S.fp
  have hia : i < As.length := (List.getElem?_eq_some_iff.mp hi).1
  have hl : i < σ.length := by rw [S.len]; exact hia
  obtain ⟨v, ev, rO⟩ := h1 i _ _ hi (List.getElem?_eq_getElem hl)
  obtain ⟨p, o, rfl, ef, hp, hr⟩ := hO rO
  have ev' : σ[i]? = some (some (.ref p)) := by rw [List.getElem?_eq_getElem hl, ev]
  have pin : p ∈ F i := by rw [ef]; exact List.mem_singleton.mpr rfl
  obtain ⟨_, p0, pB, pH⟩ := h2 i p pin
  have sB : Same B (upd B p o) := same_upd pB
  refine ⟨upd B p o, ⟨⟨S.ext.h, S.ext.b.trans sB, fun x o e => ?_, fun x hx => ?_⟩, by rw [List.length_set]; exact S.len, fun j => if j = i then [] else F j, fun j s o ej eo => ?_, fun j b hb => ?_, fun j k b hb hc => ?_⟩, sB⟩
  · by_cases hx : x = p
    · subst hx
      rw [upd_same] at e
      cases e
      exact hp
    · rw [upd_ne hx] at e
      exact S.ext.s _ _ e
  · rw [upd_ne (fun e => hx (by rw [e]; exact p0))]
    exact S.ext.n x hx
  · by_cases hj : j = i
    · subst hj
      rw [List.getElem?_set_self hia] at ej
      rw [ev'] at eo
      cases ej
      cases eo
      simp only [if_pos]
      exact ⟨rfl, _, rfl, hr pB⟩
    · rw [List.getElem?_set_ne (Ne.symm hj)] at ej
      simp only [if_neg hj]
      exact (h1 j s o ej eo).up sB fun _ _ => rfl
  · by_cases hj : j = i
    · simp [hj] at hb
    · simp only [if_neg hj] at hb
      obtain ⟨q0, q1, q2, q3⟩ := h2 j b hb
      rw [List.length_set]
      refine ⟨q0, q1, ?_, q3⟩
      rw [upd_ne (fun e => hj (h3 _ _ p (by rw [← e]; exact hb) pin))]
      exact q2
  · by_cases hj : j = i
    · simp [hj] at hb
    · by_cases hkk : k = i
      · simp [hkk] at hc
      · simp only [if_neg hj] at hb
        simp only [if_neg hkk] at hc
        exact h3 j k b hb hc
theorem b_freezeT {t : TS} {k : KT κ} {d : List (κ × α)} {m : Rs τ} (hi : As[i]? = some (.ow (ODT k R) d)) (h : Blk cm W t (As.set i (.fz (RDT k R) d)) m C) : Blk cm W t As m C := fun B0 H0 D σ B H s q qe qn => by
  obtain ⟨B', s', _⟩ := s.freezeG (Rf := RDT k R) hi fun {B H v fp} ⟨p, vs, e, f, hp, pr, l⟩ => ⟨p, _, e, f, hp, fun hB => ⟨p, vs, e, upd_same, pr.up (same_upd hB), l⟩⟩
  exact h B0 H0 D σ B' H s' q qe qn
theorem b_freezeK {t : TS} {d : List (Int × α)} {m : Rs τ} (hi : As[i]? = some (.ow (ODK R) d)) (h : Blk cm W t (As.set i (.fz (RDK R) d)) m C) : Blk cm W t As m C := fun B0 H0 D σ B H s q qe qn => by
  obtain ⟨B', s', _⟩ := s.freezeG (Rf := RDK R) hi fun {B H v fp} ⟨p, vs, e, f, hp, pr, l⟩ => ⟨p, _, e, f, hp, fun hB => ⟨p, vs, e, upd_same, pr.up (same_upd hB), l⟩⟩
  exact h B0 H0 D σ B' H s' q qe qn
end
end Gd

namespace Gd
open PySem PySem.Spec PyProof.Rows L2
/-! ### owned trees: things of one's own that hold things of one's own -/
inductive P3 {α : Type} (F : α → V → List Addr → Prop) : List α → List V → List Addr → Prop
  | nil : P3 F [] [] []
  | cons {x : α} {v : V} {f : List Addr} {xs : List α} {vs : List V} {g : List Addr} : F x v f → P3 F xs vs g → (∀ a ∈ f, a ∉ g) → P3 F (x :: xs) (v :: vs) (f ++ g)
section
variable {α β γ τ σ' ρ : Type}
theorem P3.imp {F G : α → V → List Addr → Prop} {xs : List α} {vs : List V} {g : List Addr} (h : P3 F xs vs g) : (∀ x v f, F x v f → (∀ a ∈ f, a ∈ g) → G x v f) → P3 G xs vs g := by
  induction h with
  | nil => exact fun _ => .nil
  | cons r t d ih =>
    intro k
    exact .cons (k _ _ _ r fun a ha => List.mem_append.mpr (.inl ha)) (ih fun x v f q hf => k x v f q fun a ha => List.mem_append.mpr (.inr (hf a ha))) d
theorem P3.len {F : α → V → List Addr → Prop} {xs : List α} {vs : List V} {g : List Addr} (h : P3 F xs vs g) : xs.length = vs.length := by
  induction h with
  | nil => rfl
  | cons r t d ih => rw [List.length_cons, List.length_cons, ih]
theorem P3.app {F : α → V → List Addr → Prop} {xs : List α} {vs : List V} {g : List Addr} {x : α} {v : V} {f : List Addr} (h : P3 F xs vs g) (r : F x v f) (d : ∀ a ∈ f, a ∉ g) : P3 F (xs ++ [x]) (vs ++ [v]) (g ++ f) := by
  induction h with
  | nil =>
    have := P3.cons r P3.nil fun a _ hb => by cases hb
    rwa [List.append_nil] at this
  | cons r' t d' ih =>
    rw [List.append_assoc]
    refine .cons r' (ih fun a ha hb => d a ha (List.mem_append.mpr (.inr hb))) fun a ha hb => ?_
    rcases List.mem_append.mp hb with q | q
    · exact d' a ha q
    · exact d a q (List.mem_append.mpr (.inl ha))
theorem P3.pop {F : α → V → List Addr → Prop} {xs : List α} {vs : List V} {g : List Addr} (h : P3 F xs vs g) : ∃ g', P3 F xs.dropLast vs.dropLast g' ∧ ∀ a ∈ g', a ∈ g := by
  induction h with
  | nil => exact ⟨[], .nil, fun a ha => ha⟩
  | cons r t d ih =>
    cases t with
    | nil => exact ⟨[], .nil, fun a ha => by cases ha⟩
    | cons r2 t2 d2 =>
      obtain ⟨g', p, s⟩ := ih
      exact ⟨_, .cons r p fun a ha hb => d a ha (s a hb), fun a ha => by
        rcases List.mem_append.mp ha with q | q
        · exact List.mem_append.mpr (.inl q)
        · exact List.mem_append.mpr (.inr (s a q))⟩
theorem P3.sub {F : α → V → List Addr → Prop} {xs : List α} {vs : List V} {g : List Addr} (h : P3 F xs vs g) : ∀ {i : Nat} {x : α}, xs[i]? = some x → ∃ u f, vs[i]? = some u ∧ F x u f ∧ (∀ a ∈ f, a ∈ g) ∧
    ∀ (G : α → V → List Addr → Prop) (x' : α) (f' : List Addr), (∀ y w k, F y w k → (∀ a ∈ k, a ∈ g ∧ a ∉ f) → G y w k) → G x' u f' → (∀ a ∈ f', a ∈ f ∨ a ∉ g) → ∃ g', P3 G (xs.set i x') vs g' ∧ ∀ a ∈ g', a ∈ f' ∨ (a ∈ g ∧ a ∉ f) := by
  induction h with
  | nil => intro i x e; simp at e
  | @cons y v f xs vs g r t d ih =>
    intro i x e
    cases i with
    | zero =>
      simp at e
      subst e
      refine ⟨v, f, rfl, r, fun a ha => List.mem_append.mpr (.inl ha), fun G x' f' hk hx hf => ?_⟩
      refine ⟨f' ++ g, .cons hx (t.imp fun y w k q hs => hk y w k q fun a ha => ⟨List.mem_append.mpr (.inr (hs a ha)), fun z => d a z (hs a ha)⟩) fun a ha hb => ?_, fun a ha => ?_⟩
      · rcases hf a ha with q | q
        · exact d a q hb
        · exact q (List.mem_append.mpr (.inr hb))
      · rcases List.mem_append.mp ha with q | q
        · exact .inl q
        · exact .inr ⟨List.mem_append.mpr (.inr q), fun z => d a z q⟩
    | succ i =>
      obtain ⟨u, f2, e2, r2, s2, k2⟩ := ih (i := i) (x := x) (by simpa using e)
      refine ⟨u, f2, by simpa using e2, r2, fun a ha => List.mem_append.mpr (.inr (s2 a ha)), fun G x' f' hk hx hf => ?_⟩
      obtain ⟨g', p, s⟩ := k2 G x' f' (fun y w k q hs => hk y w k q fun a ha => ⟨List.mem_append.mpr (.inr (hs a ha).1), (hs a ha).2⟩) hx fun a ha => (hf a ha).imp id fun z hb => z (List.mem_append.mpr (.inr hb))
      refine ⟨f ++ g', .cons (hk y v f r fun a ha => ⟨List.mem_append.mpr (.inl ha), fun z => d a ha (s2 a z)⟩) p fun a ha hb => ?_, fun a ha => ?_⟩
      · rcases s a hb with q | q
        · rcases hf a q with z | z
          · exact d a ha (s2 a z)
          · exact z (List.mem_append.mpr (.inl ha))
        · exact d a ha q.1
      · rcases List.mem_append.mp ha with q | q
        · exact .inr ⟨List.mem_append.mpr (.inl q), fun z => d a q (s2 a z)⟩
        · exact (s a q).imp id fun z => ⟨List.mem_append.mpr (.inr z.1), z.2⟩
/-- a thing for good among owned ones -/
def OF (R : Rel α) : Own α where
  r x B H v fp := fp = [] ∧ R.r x B v
  up := fun s _ ⟨e, h⟩ => ⟨e, R.up s h⟩
/-- a list of owned things -/
def OLd (O : Own α) : Own (List α) where
  r xs B H v fp := ∃ p vs g, v = .ref p ∧ fp = p :: g ∧ p ∉ g ∧ H p = some (.lst vs) ∧ P3 (fun x u f => O.r x B H u f) xs vs g ∧ xs.length ≤ sizeLine
  up := fun {B B' H H' x v fp} s k ⟨p, vs, g, e, f, hn, h, q, l⟩ => ⟨p, vs, g, e, f, hn, by rw [k p (by rw [f]; exact List.mem_cons_self)]; exact h,
    q.imp fun _ _ f' z hf => O.up s (fun a ha => k a (by rw [f]; exact List.mem_cons_of_mem _ (hf a ha))) z, l⟩
structure HOwn (τ : Type) where
  r : τ → Hp → Hp → List V → List Addr → Prop
  up : ∀ {B B' H H' : Hp} {x : τ} {vs : List V} {fp : List Addr}, Same B B' → (∀ a ∈ fp, H' a = H a) → r x B H vs fp → r x B' H' vs fp
def HO1 (O : Own α) : HOwn α where
  r x B H vs fp := ∃ u, vs = [u] ∧ O.r x B H u fp
  up := fun s k ⟨u, e, h⟩ => ⟨u, e, O.up s k h⟩
def HOC (O : Own α) (T : HOwn τ) : HOwn (α × τ) where
  r x B H vs fp := ∃ u us f g, vs = u :: us ∧ fp = f ++ g ∧ O.r x.1 B H u f ∧ T.r x.2 B H us g ∧ ∀ a ∈ f, a ∉ g
  up := fun s k ⟨u, us, f, g, e, ef, h, t, d⟩ => ⟨u, us, f, g, e, ef, O.up s (fun a ha => k a (by rw [ef]; exact List.mem_append.mpr (.inl ha))) h, T.up s (fun a ha => k a (by rw [ef]; exact List.mem_append.mpr (.inr ha))) t, d⟩
/-- a list with a fixed row of owned things -/
def OLi (T : HOwn τ) : Own τ where
  r x B H v fp := ∃ p vs g, v = .ref p ∧ fp = p :: g ∧ p ∉ g ∧ H p = some (.lst vs) ∧ T.r x B H vs g ∧ vs.length ≤ 1000
  up := fun s k ⟨p, vs, g, e, f, hn, h, q, l⟩ => ⟨p, vs, g, e, f, hn, by rw [k p (by rw [f]; exact List.mem_cons_self)]; exact h, T.up s (fun a ha => k a (by rw [f]; exact List.mem_cons_of_mem _ ha)) q, l⟩
/-! ### a part of an owned thing, and what it is when the part is another one -/
def Sub (O : Own τ) (B H : Hp) (v : V) (fp : List Addr) (P : Own σ') (s : σ') (u : V) (fs : List Addr) (put : σ' → τ) : Prop :=
  P.r s B H u fs ∧ (∀ a ∈ fs, a ∈ fp) ∧ ∀ (B' H' : Hp) (s' : σ') (fs' : List Addr), Same B B' → (∀ a ∈ fp, a ∉ fs → H' a = H a) → P.r s' B' H' u fs' → (∀ a ∈ fs', a ∈ fs ∨ a ∉ fp) →
    ∃ fp', O.r (put s') B' H' v fp' ∧ ∀ a ∈ fp', a ∈ fs' ∨ (a ∈ fp ∧ a ∉ fs)
theorem Sub.refl {O : Own τ} {B H : Hp} {v : V} {fp : List Addr} {x : τ} (h : O.r x B H v fp) : Sub O B H v fp O x v fp (fun s => s) :=
  ⟨h, fun a ha => ha, fun B' H' s' fs' _ _ r _ => ⟨fs', r, fun a ha => .inl ha⟩⟩
theorem Sub.trans {O : Own τ} {M : Own γ} {P : Own σ'} {B H : Hp} {v u w : V} {fp fs f2 : List Addr} {s : γ} {s2 : σ'} {put : γ → τ} {put2 : σ' → γ} (h : Sub O B H v fp M s u fs put) (k : Sub M B H u fs P s2 w f2 put2) : Sub O B H v fp P s2 w f2 (fun z => put (put2 z)) := by
  obtain ⟨h1, h2, h3⟩ := h
  obtain ⟨k1, k2, k3⟩ := k
  refine ⟨k1, fun a ha => h2 a (k2 a ha), fun B' H' s' fs' sb hh r hf => ?_⟩
  obtain ⟨g, rg, hg⟩ := k3 B' H' s' fs' sb (fun a ha hn => hh a (h2 a ha) hn) r fun a ha => (hf a ha).imp id fun z hb => z (h2 a hb)
  obtain ⟨fp', r', hr⟩ := h3 B' H' (put2 s') g sb (fun a ha hn => hh a ha fun z => hn (k2 a z)) rg fun a ha => by
    rcases hg a ha with q | q
    · exact (hf a q).imp (k2 a) id
    · exact .inl q.1
  refine ⟨fp', r', fun a ha => ?_⟩
  rcases hr a ha with q | q
  · rcases hg a q with z | z
    · exact .inl z
    · exact .inr ⟨h2 a z.1, z.2⟩
  · exact .inr ⟨q.1, fun z => q.2 (k2 a z)⟩
theorem ext_at {B H B' H' : Hp} (x : Ext B H B' H') {a : Addr} (h : H a ≠ none) : H' a = H a := by
  cases q : H a with
  | none => exact absurd q h
  | some u => exact x.h _ _ q
theorem Sub.up {O : Own τ} {P : Own σ'} {B H B1 H1 : Hp} {v u : V} {fp fs : List Addr} {s : σ'} {put : σ' → τ} (h : Sub O B H v fp P s u fs put) (x : Ext B H B1 H1) (hn : ∀ a ∈ fp, H a ≠ none) : Sub O B1 H1 v fp P s u fs put := by
  obtain ⟨h1, h2, h3⟩ := h
  exact ⟨P.up x.b (fun a ha => ext_at x (hn a (h2 a ha))) h1, h2, fun B' H' s' fs' sb hh r hf => h3 B' H' s' fs' (x.b.trans sb) (fun a ha hb => (hh a ha hb).trans (ext_at x (hn a ha))) r hf⟩
theorem Sub.item {O : Own α} {B H : Hp} {v : V} {fp : List Addr} {xs : List α} {i : Nat} {x : α} (h : (OLd O).r xs B H v fp) (e : xs[i]? = some x) : ∃ p vs u f, v = .ref p ∧ H p = some (.lst vs) ∧ vs[i]? = some u ∧ vs.length = xs.length ∧ Sub (OLd O) B H v fp O x u f (fun s => xs.set i s) := by
  obtain ⟨p, vs, g, ev, ef, hn, hp, pr, hz⟩ := h
  obtain ⟨u, f, eu, r, sf, k⟩ := pr.sub e
  have pf : p ∉ f := fun z => hn (sf p z)
  refine ⟨p, vs, u, f, ev, hp, eu, pr.len.symm, r, fun a ha => by rw [ef]; exact List.mem_cons_of_mem _ (sf a ha), fun B' H' s' fs' sb hh r' hf => ?_⟩
  obtain ⟨g', p', hs⟩ := k (fun x u f => O.r x B' H' u f) s' fs' (fun y w l q hl => O.up sb (fun a ha => hh a (by rw [ef]; exact List.mem_cons_of_mem _ (hl a ha).1) (hl a ha).2) q) r' fun a ha => (hf a ha).imp id fun z hb => z (by rw [ef]; exact List.mem_cons_of_mem _ hb)
  refine ⟨p :: g', ⟨p, vs, g', ev, rfl, fun z => ?_, by rw [hh p (by rw [ef]; exact List.mem_cons_self) pf]; exact hp, p', by rw [List.length_set]; exact hz⟩, fun a ha => ?_⟩
  · rcases hs p z with q | q
    · rcases hf p q with w | w
      · exact pf w
      · exact w (by rw [ef]; exact List.mem_cons_self)
    · exact hn q.1
  · rcases List.mem_cons.mp ha with q | q
    · subst q
      exact .inr ⟨by rw [ef]; exact List.mem_cons_self, pf⟩
    · exact (hs a q).imp id fun z => ⟨by rw [ef]; exact List.mem_cons_of_mem _ z.1, z.2⟩
/-- a place of a fixed row -/
def HSub (T : HOwn τ) (i : Nat) (P : Own σ') (get : τ → σ') (put : τ → σ' → τ) : Prop := ∀ {x : τ} {B H : Hp} {vs : List V} {g : List Addr}, T.r x B H vs g → ∃ u f, vs[i]? = some u ∧ P.r (get x) B H u f ∧ (∀ a ∈ f, a ∈ g) ∧
  ∀ (B' H' : Hp) (s' : σ') (f' : List Addr), Same B B' → (∀ a ∈ g, a ∉ f → H' a = H a) → P.r s' B' H' u f' → (∀ a ∈ f', a ∈ f ∨ a ∉ g) → ∃ g', T.r (put x s') B' H' vs g' ∧ ∀ a ∈ g', a ∈ f' ∨ (a ∈ g ∧ a ∉ f)
theorem hs_one {O : Own α} : HSub (HO1 O) 0 O (fun x => x) (fun _ s => s) := fun {x B H vs g} ⟨u, e, h⟩ => ⟨u, g, by rw [e]; rfl, h, fun a ha => ha, fun B' H' s' f' _ _ r _ => ⟨f', ⟨u, e, r⟩, fun a ha => .inl ha⟩⟩
theorem hs_fst {O : Own α} {T : HOwn τ} : HSub (HOC O T) 0 O (fun x => x.1) (fun x s => (s, x.2)) := fun {x B H vs fp} ⟨u, us, f, g, e, ef, h, t, d⟩ => by
  refine ⟨u, f, by rw [e]; rfl, h, fun a ha => by rw [ef]; exact List.mem_append.mpr (.inl ha), fun B' H' s' f' sb hh r hf => ⟨f' ++ g, ⟨u, us, f', g, e, rfl, r, T.up sb (fun a ha => hh a (by rw [ef]; exact List.mem_append.mpr (.inr ha)) fun z => d a z ha) t, fun a ha hb => ?_⟩, fun a ha => ?_⟩⟩
  · rcases hf a ha with q | q
    · exact d a q hb
    · exact q (by rw [ef]; exact List.mem_append.mpr (.inr hb))
  · rcases List.mem_append.mp ha with q | q
    · exact .inl q
    · exact .inr ⟨by rw [ef]; exact List.mem_append.mpr (.inr q), fun z => d a z q⟩
theorem hs_snd {O : Own α} {T : HOwn τ} {P : Own σ'} {i : Nat} {get : τ → σ'} {put : τ → σ' → τ} (k : HSub T i P get put) : HSub (HOC O T) (i + 1) P (fun x => get x.2) (fun x s => (x.1, put x.2 s)) := fun {x B H vs fp} ⟨u, us, f, g, e, ef, h, t, d⟩ => by
  obtain ⟨w, f2, ew, r2, s2, k2⟩ := k t
  refine ⟨w, f2, by rw [e]; simpa using ew, r2, fun a ha => by rw [ef]; exact List.mem_append.mpr (.inr (s2 a ha)), fun B' H' s' f' sb hh r hf => ?_⟩
  obtain ⟨g', t', hs⟩ := k2 B' H' s' f' sb (fun a ha hn => hh a (by rw [ef]; exact List.mem_append.mpr (.inr ha)) hn) r fun a ha => (hf a ha).imp id fun z hb => z (by rw [ef]; exact List.mem_append.mpr (.inr hb))
  refine ⟨f ++ g', ⟨u, us, f, g', e, rfl, O.up sb (fun a ha => hh a (by rw [ef]; exact List.mem_append.mpr (.inl ha)) fun z => d a ha (s2 a z)) h, t', fun a ha hb => ?_⟩, fun a ha => ?_⟩
  · rcases hs a hb with q | q
    · rcases hf a q with z | z
      · exact d a ha (s2 a z)
      · exact z (by rw [ef]; exact List.mem_append.mpr (.inl ha))
    · exact d a ha q.1
  · rcases List.mem_append.mp ha with q | q
    · exact .inr ⟨by rw [ef]; exact List.mem_append.mpr (.inl q), fun z => d a q (s2 a z)⟩
    · exact (hs a q).imp id fun z => ⟨by rw [ef]; exact List.mem_append.mpr (.inr z.1), z.2⟩
theorem Sub.field {T : HOwn τ} {P : Own σ'} {i : Nat} {get : τ → σ'} {put : τ → σ' → τ} (k : HSub T i P get put) {x : τ} {B H : Hp} {v : V} {fp : List Addr} (h : (OLi T).r x B H v fp) : ∃ p vs u f, v = .ref p ∧ H p = some (.lst vs) ∧ vs[i]? = some u ∧ Sub (OLi T) B H v fp P (get x) u f (put x) := by
  obtain ⟨p, vs, g, ev, ef, hn, hp, t, hz⟩ := h
  obtain ⟨u, f, eu, r, sf, k2⟩ := k t
  have pf : p ∉ f := fun z => hn (sf p z)
  refine ⟨p, vs, u, f, ev, hp, eu, r, fun a ha => by rw [ef]; exact List.mem_cons_of_mem _ (sf a ha), fun B' H' s' fs' sb hh r' hf => ?_⟩
  obtain ⟨g', t', hs⟩ := k2 B' H' s' fs' sb (fun a ha hb => hh a (by rw [ef]; exact List.mem_cons_of_mem _ ha) hb) r' fun a ha => (hf a ha).imp id fun z hb => z (by rw [ef]; exact List.mem_cons_of_mem _ hb)
  refine ⟨p :: g', ⟨p, vs, g', ev, rfl, fun z => ?_, by rw [hh p (by rw [ef]; exact List.mem_cons_self) pf]; exact hp, t', hz⟩, fun a ha => ?_⟩
  · rcases hs p z with q | q
    · rcases hf p q with w | w
      · exact pf w
      · exact w (by rw [ef]; exact List.mem_cons_self)
    · exact hn q.1
  · rcases List.mem_cons.mp ha with q | q
    · subst q
      exact .inr ⟨by rw [ef]; exact List.mem_cons_self, pf⟩
    · exact (hs a q).imp id fun z => ⟨by rw [ef]; exact List.mem_cons_of_mem _ z.1, z.2⟩
/-- a place for good is put otherwise -/
def HSet (T : HOwn τ) (i : Nat) (R : Rel α) (put : τ → α → τ) : Prop := ∀ {x : τ} {B H : Hp} {vs : List V} {g : List Addr} {a : α} {u : V}, T.r x B H vs g → R.r a B u → i < vs.length ∧ T.r (put x a) B H (vs.set i u) g
theorem hf_one {R : Rel α} : HSet (HO1 (OF R)) 0 R (fun _ s => s) := fun {x B H vs g a u} ⟨w, e, h⟩ r => ⟨by rw [e]; exact Nat.zero_lt_one, u, by rw [e]; rfl, h.1, r⟩
theorem hf_fst {R : Rel α} {T : HOwn τ} : HSet (HOC (OF R) T) 0 R (fun x s => (s, x.2)) := fun {x B H vs fp a u} ⟨w, us, f, g, e, ef, h, t, d⟩ r => ⟨by rw [e, List.length_cons]; omega, u, us, f, g, by rw [e]; rfl, ef, ⟨h.1, r⟩, t, d⟩
theorem hf_snd {O : Own β} {T : HOwn τ} {R : Rel α} {i : Nat} {put : τ → α → τ} (k : HSet T i R put) : HSet (HOC O T) (i + 1) R (fun x s => (x.1, put x.2 s)) := fun {x B H vs fp a u} ⟨w, us, f, g, e, ef, h, t, d⟩ r => by
  obtain ⟨k1, k2⟩ := k t r
  exact ⟨by rw [e, List.length_cons]; omega, w, us.set i u, f, g, by rw [e]; rfl, ef, h, k2, d⟩
/-! ### what was one's own, for good -/
def ovl (B H : Hp) (fp : List Addr) : Hp := fun a => if a ∈ fp then H a else B a
def Frz (O : Own α) (R : Rel α) : Prop := ∀ {B H : Hp} {x : α} {v : V} {fp : List Addr}, (∀ a ∈ fp, B a = none) → O.r x B H v fp → R.r x (ovl B H fp) v
theorem ovl_same {B H : Hp} {fp : List Addr} (h : ∀ a ∈ fp, B a = none) : Same B (ovl B H fp) := fun a o e => by
  unfold ovl
  split
  · rename_i q
    rw [h a q] at e
    cases e
  · exact e
theorem ovl_in {B H : Hp} {fp : List Addr} {a : Addr} (h : a ∈ fp) : ovl B H fp a = H a := if_pos h
theorem ovl_out {B H : Hp} {fp : List Addr} {a : Addr} (h : a ∉ fp) : ovl B H fp a = B a := if_neg h
theorem ovl_sub {B H : Hp} {f g : List Addr} (s : ∀ a ∈ f, a ∈ g) (h : ∀ a ∈ g, B a = none) : Same (ovl B H f) (ovl B H g) := fun a o e => by
  by_cases q : a ∈ f
  · rw [ovl_in q] at e
    rw [ovl_in (s a q)]
    exact e
  · rw [ovl_out q] at e
    by_cases z : a ∈ g
    · rw [h a z] at e
      cases e
    · rw [ovl_out z]
      exact e
theorem fz_of {R : Rel α} : Frz (OF R) R := fun h ⟨e, r⟩ => R.up (ovl_same h) r
theorem fz_ol {R : Rel α} : Frz (OL R) (RL R) := fun h ⟨p, vs, e, ef, hp, pr, l⟩ => ⟨p, vs, e, by rw [ovl_in (by rw [ef]; exact List.mem_singleton.mpr rfl)]; exact hp, pairedUp pr fun _ _ z => R.up (ovl_same h) z, l⟩
theorem fz_p3 {O : Own α} {R : Rel α} (k : Frz O R) {B H : Hp} {G : List Addr} {xs : List α} {vs : List V} {g : List Addr} (p : P3 (fun x u f => O.r x B H u f) xs vs g) : (∀ a ∈ g, a ∈ G) → (∀ a ∈ G, B a = none) → Paired (fun x u => R.r x (ovl B H G) u) xs vs := by
  induction p with
  | nil => exact fun _ _ => .nil
  | cons r t d ih => exact fun s h => .cons (R.up (ovl_sub (fun a ha => s a (List.mem_append.mpr (.inl ha))) h) (k (fun a ha => h a (s a (List.mem_append.mpr (.inl ha)))) r)) (ih (fun a ha => s a (List.mem_append.mpr (.inr ha))) h)
theorem fz_old {O : Own α} {R : Rel α} (k : Frz O R) : Frz (OLd O) (RL R) := fun h ⟨p, vs, g, e, ef, hn, hp, pr, l⟩ => ⟨p, vs, e, by rw [ovl_in (by rw [ef]; exact List.mem_cons_self)]; exact hp, fz_p3 k pr (fun a ha => by rw [ef]; exact List.mem_cons_of_mem _ ha) h, l⟩
def HFrz (T : HOwn τ) (S : HRel τ) : Prop := ∀ {B H : Hp} {x : τ} {vs : List V} {fp : List Addr}, (∀ a ∈ fp, B a = none) → T.r x B H vs fp → S.r x (ovl B H fp) vs
theorem hz_one {O : Own α} {R : Rel α} (k : Frz O R) : HFrz (HO1 O) (Gd.H1 R) := fun h ⟨u, e, r⟩ => ⟨u, e, k h r⟩
theorem hz_cons {O : Own α} {R : Rel α} {T : HOwn τ} {S : HRel τ} (k : Frz O R) (l : HFrz T S) : HFrz (HOC O T) (HC R S) := fun {B H x vs fp} h ⟨u, us, f, g, e, ef, r, t, d⟩ => by
  have h1 : ∀ a ∈ f, a ∈ fp := fun a ha => by rw [ef]; exact List.mem_append.mpr (.inl ha)
  have h2 : ∀ a ∈ g, a ∈ fp := fun a ha => by rw [ef]; exact List.mem_append.mpr (.inr ha)
  exact ⟨u, us, e, R.up (ovl_sub h1 h) (k (fun a ha => h a (h1 a ha)) r), S.up (ovl_sub h2 h) (l (fun a ha => h a (h2 a ha)) t)⟩
theorem fz_oli {T : HOwn τ} {S : HRel τ} (k : HFrz T S) : Frz (OLi T) (RLi S) := fun {B H x v fp} h ⟨p, vs, g, e, ef, hn, hp, t, l⟩ => by
  have h2 : ∀ a ∈ g, a ∈ fp := fun a ha => by rw [ef]; exact List.mem_cons_of_mem _ ha
  exact ⟨p, vs, e, by rw [ovl_in (by rw [ef]; exact List.mem_cons_self)]; exact hp, S.up (ovl_sub h2 h) (k (fun a ha => h a (h2 a ha)) t)⟩
theorem ovl_le {B H : Hp} {fp : List Addr} (s : Same B H) : Same (ovl B H fp) H := fun a o e => by
  by_cases q : a ∈ fp
  · rw [ovl_in q] at e
    exact e
  · rw [ovl_out q] at e
    exact s _ _ e
end
section
variable {cm : Nat → Addr} {W : WX} {As Bs : List Sl} {K : PySem.W.Frag} {α β γ τ τ' σ' ρ S S' : Type} {R : Rel α} {Rb : Rel β} {O : Own α} {T : HRel τ} {Rr : Rel ρ} {te ta tb tc : TE} {tt tu : TT} {t1 t2 tz : TS} {C : Con τ} {C' : Con τ'}
theorem evn_frz {m : Rs α} (h : EvN cm W te As O m) (k : Frz O R) : EvM cm W te As R m := fun B0 H0 σ B H s Q q qe qn =>
  h B0 H0 σ B H s _ (fun a ea v fp B1 H1 x1 r1 hf => by
    have hb : ∀ b ∈ fp, B1 b = none := fun b z => (hf b z).2.1
    refine q a ea v (ovl B1 H1 fp) H1 ⟨x1.h, x1.b.trans (ovl_same hb), ovl_le x1.s, fun b hx => ?_⟩ (k hb r1)
    rw [ovl_out fun z => hx (hf b z).1]
    exact x1.n b hx) qe qn
theorem St3.frz {B0 H0 B H : Hp} {σ : L2.St} {i : Nat} {x : α} (s : St3 B0 H0 As σ B H) (hi : As[i]? = some (.ow O x)) (k : Frz O R) : ∃ B', St3 B0 H0 (As.set i (.fz R x)) σ B' H ∧ Same B B' := by
  obtain ⟨F, h1, h2, h3⟩ := s.fp
  have hia : i < As.length := (List.getElem?_eq_some_iff.mp hi).1
  have hl : i < σ.length := by rw [s.len]; exact hia
  obtain ⟨v, ev, rO⟩ := h1 i _ _ hi (List.getElem?_eq_getElem hl)
  have ev' : σ[i]? = some (some v) := by rw [List.getElem?_eq_getElem hl, ev]
  have hb : ∀ b ∈ F i, B b = none := fun b z => (h2 i b z).2.2.1
  have sB := ovl_same (B := B) (H := H) hb
  refine ⟨ovl B H (F i), ⟨⟨s.ext.h, s.ext.b.trans sB, ovl_le s.ext.s, fun b hx => ?_⟩, by rw [List.length_set]; exact s.len, fun j => if j = i then [] else F j, fun j sl o ej eo => ?_, fun j b hb' => ?_, fun j l b hb' hc => ?_⟩, sB⟩
  · rw [ovl_out fun z => hx (h2 i b z).2.1]
    exact s.ext.n b hx
  · by_cases hj : j = i
    · subst hj
      rw [List.getElem?_set_self hia] at ej
      rw [ev'] at eo
      cases ej
      cases eo
      simp only [if_pos]
      exact ⟨rfl, _, rfl, k hb rO⟩
    · rw [List.getElem?_set_ne (Ne.symm hj)] at ej
      simp only [if_neg hj]
      exact (h1 j sl o ej eo).up sB fun _ _ => rfl
  · by_cases hj : j = i
    · simp [hj] at hb'
    · simp only [if_neg hj] at hb'
      obtain ⟨q0, q1, q2, q3⟩ := h2 j b hb'
      rw [List.length_set]
      exact ⟨q0, q1, by rw [ovl_out fun z => hj (h3 _ _ b hb' z)]; exact q2, q3⟩
  · by_cases hj : j = i
    · simp [hj] at hb'
    · by_cases hkk : l = i
      · simp [hkk] at hc
      · simp only [if_neg hj] at hb'
        simp only [if_neg hkk] at hc
        exact h3 j l b hb' hc
theorem b_frz {t : TS} {i : Nat} {x : α} {m : Rs τ} (k : Frz O R) (hi : As[i]? = some (.ow O x)) (h : Blk cm W t (As.set i (.fz R x)) m C) : Blk cm W t As m C := fun B0 H0 D σ B H s q qe qn => by
  obtain ⟨B', s', _⟩ := s.frz hi k
  exact h B0 H0 D σ B' H s' q qe qn
/-- a test that only looks at a thing of one's own -/
theorem et_peek {i : Nat} {x : α} {m : Rs Bool} (k : Frz O R) (hi : As[i]? = some (.ow O x)) (h : EvT cm W tt (As.set i (.fz R x)) m) : EvT cm W tt As m := fun B0 H0 σ B H s Q q qe qn => by
  obtain ⟨B1, s1, sb⟩ := s.frz hi k
  exact h B0 H0 σ B1 H s1 Q (fun a ea B' H' x' => q a ea B H' ⟨x'.h, Same.refl _, s.ext.s.trans x'.h, fun _ _ => rfl⟩) qe qn
theorem ev_peek {i : Nat} {x : α} {m : Rs β} (k : Frz O R) (hfl : Rb.Flat) (hi : As[i]? = some (.ow O x)) (h : EvM cm W te (As.set i (.fz R x)) Rb m) : EvM cm W te As Rb m := fun B0 H0 σ B H s Q q qe qn => by
  obtain ⟨B1, s1, sb⟩ := s.frz hi k
  exact h B0 H0 σ B1 H s1 Q (fun a ea v B' H' x' r => q a ea v B H' ⟨x'.h, Same.refl _, s.ext.s.trans x'.h, fun _ _ => rfl⟩ (hfl r)) qe qn
end
end Gd

namespace Gd
open PySem PySem.Spec PyProof.Rows L2
/-! ### paths into owned things -/
def Flds (H0 : Hp) (As : List Sl) (σ : L2.St) (B H : Hp) (F : Nat → List Addr) : Prop :=
  (∀ (i : Nat) (s : Sl) (o : Option V), As[i]? = some s → σ[i]? = some o → s.ok B H o (F i)) ∧ (∀ (i : Nat) (a : Addr), a ∈ F i → i < As.length ∧ H0 a = none ∧ B a = none ∧ H a ≠ none) ∧ ∀ (i j : Nat) (a : Addr), a ∈ F i → a ∈ F j → i = j
section
variable {cm : Nat → Addr} {W : WX} {As Bs : List Sl} {K : PySem.W.Frag} {α β γ τ τ' σ' ρ S S' : Type} {R : Rel α} {Rb : Rel β} {O : Own τ} {P : Own σ'} {T : HRel τ} {Rr : Rel ρ} {te ta tb tc : TE} {tt tu : TT} {t1 t2 tz : TS} {i : Nat}
theorem Flds.mono {B0 H0 B H B' H' : Hp} {σ : L2.St} {F : Nat → List Addr} (f : Flds H0 As σ B H F) (x : Ext B H B' H') : Flds H0 As σ B' H' F := by
  obtain ⟨h1, h2, h3⟩ := f
  refine ⟨fun i s o ei eo => (h1 i s o ei eo).up x.b fun a ha => ext_at x (h2 i a ha).2.2.2, fun i a ha => ?_, h3⟩
  obtain ⟨q0, q1, q2, q3⟩ := h2 i a ha
  exact ⟨q0, q1, (x.n a q3).trans q2, by rw [ext_at x q3]; exact q3⟩
theorem chgF {B0 H0 B H B2 H2 H3 : Hp} {σ : L2.St} {F : Nat → List Addr} {x : τ} {v u : V} {s s' : σ'} {fs fs' : List Addr} {put : σ' → τ} (x0 : Ext B0 H0 B H) (hl : σ.length = As.length) (fl : Flds H0 As σ B H F) (hi : As[i]? = some (.ow O x)) (ev : σ[i]? = some (some v))
    (e : Ext B H B2 H2) (sb : Sub O B2 H2 v (F i) P s u fs put) (hr : P.r s' B2 H3 u fs') (hk : ∀ b, b ∉ fs → H2 b ≠ none → H3 b = H2 b) (hf : ∀ b ∈ fs', (b ∈ fs ∨ (H b = none ∧ B2 b = none)) ∧ H3 b ≠ none) : St3 B0 H0 (As.set i (.ow O (put s'))) σ B2 H3 := by
  obtain ⟨h1, h2, h3⟩ := fl
  obtain ⟨_, sF, k⟩ := sb
  have at2 : ∀ j a, a ∈ F j → H2 a = H a ∧ H2 a ≠ none := fun j a ha => by
    have q := (h2 j a ha).2.2.2
    exact ⟨ext_at e q, by rw [ext_at e q]; exact q⟩
  obtain ⟨fp', r', hfp⟩ := k B2 H3 s' fs' (Same.refl _) (fun a ha hn => hk a hn (at2 i a ha).2) hr fun a ha => (hf a ha).1.imp id fun q z => (h2 i a z).2.2.2 q.1
  have hia : i < As.length := (List.getElem?_eq_some_iff.mp hi).1
  have n0 : ∀ a, a ∈ fs → H0 a = none := fun a ha => (h2 i a (sF a ha)).2.1
  have n2 : ∀ j a, a ∈ F j → B2 a = none := fun j a ha => (e.n a (h2 j a ha).2.2.2).trans (h2 j a ha).2.2.1
  have keep : ∀ a o, a ∉ fs → H2 a = some o → H3 a = some o := fun a o hn q => by rw [hk a hn (by rw [q]; exact Option.some_ne_none _)]; exact q
  have xx := x0.trans e
  refine ⟨⟨fun a o q => keep a o (fun z => by rw [n0 a z] at q; cases q) (xx.h _ _ q), xx.b, fun a o q => keep a o (fun z => by rw [n2 i a (sF a z)] at q; cases q) (xx.s _ _ q), xx.n⟩, by rw [List.length_set]; exact hl, fun j => if j = i then fp' else F j, fun j sl o ej eo => ?_, fun j b hb => ?_, fun j l b hb hc => ?_⟩
  · by_cases hj : j = i
    · subst hj
      rw [List.getElem?_set_self hia] at ej
      rw [ev] at eo
      cases ej
      cases eo
      simp only [if_pos]
      exact ⟨v, rfl, r'⟩
    · rw [List.getElem?_set_ne (Ne.symm hj)] at ej
      simp only [if_neg hj]
      refine (h1 j sl o ej eo).up e.b fun a ha => ?_
      obtain ⟨q1, q2⟩ := at2 j a ha
      rw [hk a (fun z => hj (h3 _ _ a ha (sF a z))) q2, q1]
  · by_cases hj : j = i
    · simp only [if_pos hj] at hb
      rw [List.length_set, hj]
      rcases hfp b hb with q | q
      · obtain ⟨z, zn⟩ := hf b q
        rcases z with z | z
        · exact ⟨hia, n0 b z, n2 i b (sF b z), zn⟩
        · exact ⟨hia, x0.h.free z.1, z.2, zn⟩
      · exact ⟨hia, (h2 i b q.1).2.1, n2 i b q.1, by rw [hk b q.2 (at2 i b q.1).2]; exact (at2 i b q.1).2⟩
    · simp only [if_neg hj] at hb
      rw [List.length_set]
      obtain ⟨q0, q1, _, _⟩ := h2 j b hb
      refine ⟨q0, q1, n2 j b hb, ?_⟩
      rw [hk b (fun z => hj (h3 _ _ b hb (sF b z))) (at2 j b hb).2]
      exact (at2 j b hb).2
  · have ex : ∀ j b, j ≠ i → b ∈ fp' → b ∈ F j → False := fun j b hj q z => by
      rcases hfp b q with w | w
      · rcases (hf b w).1 with y | y
        · exact hj (h3 _ _ b z (sF b y))
        · exact (h2 j b z).2.2.2 y.1
      · exact hj (h3 _ _ b z w.1)
    by_cases hj : j = i
    · by_cases hl : l = i
      · rw [hj, hl]
      · simp only [if_pos hj] at hb
        simp only [if_neg hl] at hc
        exact (ex l b hl hb hc).elim
    · by_cases hl : l = i
      · simp only [if_neg hj] at hb
        simp only [if_pos hl] at hc
        exact (ex j b hj hc hb).elim
      · simp only [if_neg hj] at hb
        simp only [if_neg hl] at hc
        exact h3 j l b hb hc
def EvP (cm : Nat → Addr) (W : WX) (te : TE) (As : List Sl) (i : Nat) (O : Own τ) (P : Own σ') (m : Rs (σ' × (σ' → τ))) : Prop :=
  ∀ (B0 H0 : Hp) (σ : L2.St) (B H : Hp) (F : Nat → List Addr), Ext B0 H0 B H → σ.length = As.length → Flds H0 As σ B H F → ∀ v, σ[i]? = some (some v) → ∀ Q : VK,
    (∀ s put, m = .ok (s, put) → ∀ u fs B' H', Ext B H B' H' → Sub O B' H' v (F i) P s u fs put → Q u H') → (∀ e, m = .ex e → ∀ H', Same H H' → W (.ref (cm e)) none σ H') → m ≠ .no → te σ H Q
theorem ep_var {x : τ} (h : As[i]? = some (.ow O x)) : EvP cm W (tVar i) As i O O (.ok (x, fun s => s)) := fun B0 H0 σ B H F x0 hl fl v ev Q q qe qn => by
  obtain ⟨w, ew, r⟩ := fl.1 i _ _ h ev
  cases ew
  exact ⟨v, ev, q x _ rfl v (F i) B H (Ext.refl x0.s) (Sub.refl r)⟩
theorem ep_field {T : HOwn γ} {c : Int} {n : Nat} {get : γ → σ'} {put : γ → σ' → γ} {m : Rs (γ × (γ → τ))} (k : HSub T n P get put) (hc : c = (n : Int)) (h : EvP cm W te As i O (OLi T) m) : EvP cm W (tOp (rIxL K) te (tC (.int c))) As i O P (m.bind fun p => .ok (get p.1, fun s => p.2 (put p.1 s))) := fun B0 H0 σ B H F x0 hl fl v ev Q q qe qn => by
  refine h B0 H0 σ B H F x0 hl fl v ev _ (fun s pt em u fs B1 H1 x1 sb => ?_) (fun e he => qe e (by rw [he]; rfl)) (Rs.bind_ne qn)
  subst em
  obtain ⟨p, vs, w, f, eu, hp, ew, sb2⟩ := Sub.field k sb.1
  exact ⟨p, vs, c, w, eu, rfl, .inl (.inl hp), by rw [hc]; exact atI_nat ew, q _ _ rfl w f B1 H1 x1 (sb.trans sb2)⟩
noncomputable def pyAt (xs : List α) (y : Int) : Rs (α × (α → List α)) := Rs.cl (Rs.op ((ixN xs.length y).bind fun j => (xs[j]?).map fun a => (a, fun s => xs.set j s)))
theorem pyAt_eq (xs : List α) (y : Int) : pyAt xs y = Rs.op ((ixN xs.length y).bind fun j => (xs[j]?).map fun a => (a, fun s => xs.set j s)) := Rs.cl_eq _
theorem pyAt_nat {xs : List α} {y : Int} {j : Nat} {a : α} (hy : y = (j : Int)) (h : xs[j]? = some a) : pyAt xs y = .ok (a, fun s => xs.set j s) := by
  subst hy
  have hj := (List.getElem?_eq_some_iff.mp h).1
  rw [pyAt_eq]
  unfold ixN
  rw [if_pos (by omega), if_pos (by omega)]
  show Rs.op (xs[((j : Int)).toNat]?.map _) = _
  rw [Int.toNat_natCast, h]
  rfl
theorem ep_item {m : Rs (List σ' × (List σ' → τ))} {n : Rs Int} (h : EvP cm W te As i O (OLd P) m) (hb : EvM cm W tb As RI n) : EvP cm W (tOp (rIxL K) te tb) As i O P (m.bind fun p => n.bind fun y => (pyAt p.1 y).bind fun r => .ok (r.1, fun s => p.2 (r.2 s))) := fun B0 H0 σ B H F x0 hl fl v ev Q q qe qn => by
  refine h B0 H0 σ B H F x0 hl fl v ev _ (fun s pt em u fs B1 H1 x1 sb => ?_) (fun e he => qe e (by rw [he]; rfl)) (Rs.bind_ne qn)
  subst em
  have fl1 := Flds.mono (B0 := B0) fl x1
  refine hb B0 H0 σ B1 H1 ⟨x0.trans x1, hl, F, fl1⟩ _ (fun b eb w B2 H2 x2 r2 => ?_) (fun e he H' hs => qe e (by rw [he]; rfl) H' (x1.h.trans hs)) (Rs.bind_ne (m := n) qn)
  subst eb
  have hn1 : ∀ a ∈ F i, H1 a ≠ none := fun a ha => (fl1.2.1 i a ha).2.2.2
  have sb2 := sb.up x2 hn1
  have n1 : pyAt s b ≠ .no := Rs.bind_ne (m := pyAt s b) qn
  rw [pyAt_eq] at n1
  cases hj : ixN s.length b with
  | none =>
    rw [hj] at n1
    exact absurd rfl n1
  | some j =>
    cases hx : s[j]? with
    | none =>
      rw [hj] at n1
      refine absurd ?_ n1
      show Rs.op (s[j]?.map _) = _
      rw [hx]
      rfl
    | some a =>
      obtain ⟨p, vs, z, f, eu, hp, ez, el, sb3⟩ := Sub.item sb2.1 hx
      have e1 : pyAt s b = .ok (a, fun t => s.set j t) := by
        rw [pyAt_eq, hj]
        show Rs.op (s[j]?.map _) = _
        rw [hx]
        rfl
      refine ⟨p, vs, b, z, eu, r2, .inl (.inl hp), ?_, q a (fun t => pt (s.set j t)) ?_ z f B2 H2 (x1.trans x2) (sb2.trans sb3)⟩
      · unfold atI
        rw [el, hj]
        exact ez
      · show (pyAt s b).bind _ = _
        rw [e1]
        rfl
/-! read -/
theorem ep_open {m : Rs (σ' × (σ' → τ))} {x : τ} {te : TE} {σ : L2.St} {Q : VK} {B0 H0 B H : Hp} (h : EvP cm W te As i O P m) (s : St3 B0 H0 As σ B H) (hi : As[i]? = some (.ow O x)) (q : ∀ z put, m = .ok (z, put) → ∀ u fs B' H', Ext B H B' H' → P.r z B' H' u fs → Q u H') (qe : ∀ e, m = .ex e → ∀ H', Same H H' → W (.ref (cm e)) none σ H') (qn : m ≠ .no) : te σ H Q := by
  obtain ⟨F, fl⟩ := s.fp
  obtain ⟨v, fp, ev, _⟩ := s.ow hi
  exact h B0 H0 σ B H F s.ext s.len fl v ev Q (fun z put em u fs B' H' x' sb => q z put em u fs B' H' x' sb.1) qe qn
theorem ev_path {m : Rs (α × (α → τ))} {x : τ} (h : EvP cm W te As i O (OF R) m) (hi : As[i]? = some (.ow O x)) : EvM cm W te As R (m.bind fun p => .ok p.1) := fun B0 H0 σ B H s Q q qe qn =>
  ep_open h s hi (fun z put em u fs B' H' x' r => q z (by rw [em]; rfl) u B' H' x' r.2) (fun e he => qe e (by rw [he]; rfl)) (Rs.bind_ne qn)
theorem el_path {m : Rs (List α × (List α → τ))} {x : τ} (h : EvP cm W te As i O (OL R) m) (hi : As[i]? = some (.ow O x)) : EvL cm W te As R (m.bind fun p => .ok p.1) := fun B0 H0 σ B H s Q q qe qn =>
  ep_open h s hi (fun z put em u fs B' H' x' ⟨p, vs, e1, e2, hp, pr, hz⟩ => q z (by rw [em]; rfl) u B' H' x' ⟨p, vs, e1, hp, pr, hz⟩) (fun e he => qe e (by rw [he]; rfl)) (Rs.bind_ne qn)
theorem ev_lenP {m : Rs (List σ' × (List σ' → τ))} {x : τ} (h : EvP cm W te As i O (OLd P) m) (hi : As[i]? = some (.ow O x)) : EvM cm W (tCB (rLenS K) (tCons te tNil)) As RI (m.bind fun p => .ok (p.1.length : Int)) := fun B0 H0 σ B H s Q q qe qn => by
  show te σ H _
  refine ep_open h s hi (fun z put em u fs B' H' x' r => ?_) (fun e he => qe e (by rw [he]; rfl)) (Rs.bind_ne qn)
  obtain ⟨p, vs, g, e1, e2, hn, hp, pr, hz⟩ := r
  exact ⟨p, vs, by rw [e1], .inl (.inl (.inl hp)), q _ (by rw [em]; rfl) _ B' H' x' (by rw [← pr.len]; rfl)⟩
variable {C : Con ρ} {x : τ}
/-! changed -/
theorem b_appP {m : Rs (List α × (List α → τ))} {n : Rs α} {k : τ → Rs ρ} (hi : As[i]? = some (.ow O x)) (h : EvP cm W te As i O (OL R) m) (ha : EvM cm W ta As R n) (hz : ∀ y, Blk cm W tz (As.set i (.ow O y)) (k y) C) :
    Blk cm W (tSeq (tDrop (tBM K "list" rAppend te (tCons ta tNil))) tz) As (m.bind fun p => n.bind fun a => (push p.1 a).bind fun ys => k (p.2 ys)) C := fun B0 H0 D σ B H s q qe qn => by
  obtain ⟨F, fl⟩ := s.fp
  obtain ⟨v, fp, ev, _⟩ := s.ow hi
  refine h B0 H0 σ B H F s.ext s.len fl v ev _ (fun z put em u fs B1 H1 x1 sb => ?_) (fun e he H' hs => qe e (by rw [he]; rfl) σ H' (s.ext.h.trans hs)) (Rs.bind_ne qn)
  subst em
  have s1 := s.mono x1
  have fl1 := Flds.mono (B0 := B0) fl x1
  obtain ⟨p, vs, eu, ef, hp, pr, hz0⟩ := sb.1
  refine ⟨by rw [eu]; exact .inl ⟨rfl, vs, .inl (.inl hp)⟩, ?_⟩
  refine ha B0 H0 σ B1 H1 s1 _ (fun a ea w B2 H2 x2 r2 => ?_) (fun e he H' hs => qe e (by rw [he]; rfl) σ H' ((s.ext.h.trans x1.h).trans hs)) (Rs.bind_ne (m := n) qn)
  subst ea
  have hl : z.length < 16777216 := Rs.gd_ne (Rs.bind_ne (m := push z a) qn)
  have e1 : ((Rs.ok (z, put)).bind fun p => (Rs.ok a).bind fun a => (push p.1 a).bind fun ys => k (p.2 ys)) = k (put (z ++ [a])) := by
    show (push z a).bind _ = _
    rw [push_ok hl]; rfl
  rw [e1] at q qe qn
  have hp2 : H2 p = some (.lst vs) := x2.h _ _ hp
  refine ⟨p, vs, w, eu, rfl, hp2, by rw [← pairedLen pr, sizeLine_eq]; exact hl, ?_⟩
  have hn1 : ∀ a ∈ F i, H1 a ≠ none := fun a ha => (fl1.2.1 i a ha).2.2.2
  refine hz (put (z ++ [a])) B0 H0 D σ B2 _ (chgF (s' := z ++ [a]) (fs' := fs) (H2 := H2) (s.ext.trans x1) s.len fl1 hi ev x2 (sb.up x2 hn1) ⟨p, vs ++ [w], eu, ef, upd_same, pairedApp (pairedUp pr fun _ _ y => R.up x2.b y) (.cons r2 .nil), ?_⟩ (fun b hb _ => upd_ne fun e => hb (by rw [ef, e]; exact List.mem_singleton.mpr rfl)) fun b hb => ⟨.inl hb, ?_⟩) q qe qn
  · rw [List.length_append, sizeLine_eq]
    show z.length + 1 ≤ 16777216
    omega
  · rw [ef, List.mem_singleton] at hb
    rw [hb, upd_same]
    exact Option.some_ne_none _
theorem b_appN {m : Rs (List σ' × (List σ' → τ))} {n : Rs σ'} {k : τ → Rs ρ} (hi : As[i]? = some (.ow O x)) (h : EvP cm W te As i O (OLd P) m) (ha : EvN cm W ta As P n) (hz : ∀ y, Blk cm W tz (As.set i (.ow O y)) (k y) C) :
    Blk cm W (tSeq (tDrop (tBM K "list" rAppend te (tCons ta tNil))) tz) As (m.bind fun p => n.bind fun a => (push p.1 a).bind fun ys => k (p.2 ys)) C := fun B0 H0 D σ B H s q qe qn => by
  obtain ⟨F, fl⟩ := s.fp
  obtain ⟨v, fp, ev, _⟩ := s.ow hi
  refine h B0 H0 σ B H F s.ext s.len fl v ev _ (fun z put em u fs B1 H1 x1 sb => ?_) (fun e he H' hs => qe e (by rw [he]; rfl) σ H' (s.ext.h.trans hs)) (Rs.bind_ne qn)
  subst em
  have s1 := s.mono x1
  have fl1 := Flds.mono (B0 := B0) fl x1
  obtain ⟨p, vs, g, eu, ef, hng, hp, pr, hz0⟩ := sb.1
  refine ⟨by rw [eu]; exact .inl ⟨rfl, vs, .inl (.inl hp)⟩, ?_⟩
  refine ha B0 H0 σ B1 H1 s1 _ (fun a ea w fw B2 H2 x2 r2 hw => ?_) (fun e he H' hs => qe e (by rw [he]; rfl) σ H' ((s.ext.h.trans x1.h).trans hs)) (Rs.bind_ne (m := n) qn)
  subst ea
  have hl : z.length < 16777216 := Rs.gd_ne (Rs.bind_ne (m := push z a) qn)
  have e1 : ((Rs.ok (z, put)).bind fun p => (Rs.ok a).bind fun a => (push p.1 a).bind fun ys => k (p.2 ys)) = k (put (z ++ [a])) := by
    show (push z a).bind _ = _
    rw [push_ok hl]; rfl
  rw [e1] at q qe qn
  have hp2 : H2 p = some (.lst vs) := x2.h _ _ hp
  refine ⟨p, vs, w, eu, rfl, hp2, by rw [← pr.len, sizeLine_eq]; exact hl, ?_⟩
  have hn1 : ∀ a ∈ F i, H1 a ≠ none := fun a ha => (fl1.2.1 i a ha).2.2.2
  have hfn : ∀ a ∈ fs, H1 a ≠ none := fun a ha => hn1 a (sb.2.1 a ha)
  have pin : p ∈ fs := by rw [ef]; exact List.mem_cons_self
  have gin : ∀ a ∈ g, a ∈ fs := fun a ha => by rw [ef]; exact List.mem_cons_of_mem _ ha
  have pw : p ∉ fw := fun y => hfn p pin (hw p y).1
  have hne : ∀ a, a ≠ p → upd H2 p (.lst (vs ++ [w])) a = H2 a := fun a ha => upd_ne ha
  have pr2 : P3 (fun x u f => P.r x B2 (upd H2 p (.lst (vs ++ [w]))) u f) z vs g := pr.imp fun y u' f' r' hf' => P.up x2.b (fun a ha => by
    rw [hne a fun e => hng (by rw [← e]; exact hf' a ha)]
    exact ext_at x2 (hfn a (gin a (hf' a ha)))) r'
  refine hz (put (z ++ [a])) B0 H0 D σ B2 _ (chgF (s' := z ++ [a]) (fs' := p :: (g ++ fw)) (H2 := H2) (s.ext.trans x1) s.len fl1 hi ev x2 (sb.up x2 hn1) ⟨p, vs ++ [w], g ++ fw, eu, rfl, fun y => ?_, upd_same, pr2.app (P.up (Same.refl _) (fun a ha => hne a fun e => pw (by rw [← e]; exact ha)) r2) (fun a ha hb => hfn a (gin a hb) (hw a ha).1), ?_⟩ (fun b hb _ => upd_ne fun e => hb (by rw [e]; exact pin)) fun b hb => ?_) q qe qn
  · rcases List.mem_append.mp y with y | y
    · exact hng y
    · exact pw y
  · rw [List.length_append, sizeLine_eq]
    show z.length + 1 ≤ 16777216
    omega
  · rcases List.mem_cons.mp hb with y | y
    · subst y
      exact ⟨.inl pin, by rw [upd_same]; exact Option.some_ne_none _⟩
    · rcases List.mem_append.mp y with y | y
      · refine ⟨.inl (gin b y), ?_⟩
        rw [hne b fun e => hng (by rw [← e]; exact y), ext_at x2 (hfn b (gin b y))]
        exact hfn b (gin b y)
      · refine ⟨.inr ⟨(hw b y).1, (hw b y).2.1⟩, ?_⟩
        rw [hne b fun e => pw (by rw [← e]; exact y)]
        exact (hw b y).2.2
noncomputable def popR (xs : List α) : Rs (List α) := Rs.gd (0 < xs.length) (.ok xs.dropLast)
theorem popR_ok {xs : List α} (h : 0 < xs.length) : popR xs = .ok xs.dropLast := Rs.gd_pos h
theorem pairedPop {F : α → V → Prop} {xs : List α} {vs : List V} (h : Paired F xs vs) : Paired F xs.dropLast vs.dropLast := by
  rw [List.dropLast_eq_take, List.dropLast_eq_take, ← pairedLen h]
  exact pairedTake _ h
theorem b_popP {m : Rs (List α × (List α → τ))} {k : τ → Rs ρ} (hi : As[i]? = some (.ow O x)) (h : EvP cm W te As i O (OL R) m) (hz : ∀ y, Blk cm W tz (As.set i (.ow O y)) (k y) C) :
    Blk cm W (tSeq (tDrop (tBM0 K "list" rPop te)) tz) As (m.bind fun p => (popR p.1).bind fun ys => k (p.2 ys)) C := fun B0 H0 D σ B H s q qe qn => by
  obtain ⟨F, fl⟩ := s.fp
  obtain ⟨v, fp, ev, _⟩ := s.ow hi
  refine h B0 H0 σ B H F s.ext s.len fl v ev _ (fun z put em u fs B1 H1 x1 sb => ?_) (fun e he H' hs => qe e (by rw [he]; rfl) σ H' (s.ext.h.trans hs)) (Rs.bind_ne qn)
  subst em
  have fl1 := Flds.mono (B0 := B0) fl x1
  obtain ⟨p, vs, eu, ef, hp, pr, hz0⟩ := sb.1
  refine ⟨by rw [eu]; exact .inl ⟨rfl, vs, .inl (.inl hp)⟩, ?_⟩
  have hl : 0 < z.length := Rs.gd_ne (Rs.bind_ne (m := popR z) qn)
  have e1 : ((Rs.ok (z, put)).bind fun p => (popR p.1).bind fun ys => k (p.2 ys)) = k (put z.dropLast) := by
    show (popR z).bind _ = _
    rw [popR_ok hl]; rfl
  rw [e1] at q qe qn
  have hv : vs.length - 1 < vs.length := by rw [← pairedLen pr]; omega
  refine ⟨p, vs, vs[vs.length - 1], eu, rfl, hp, List.getElem?_eq_getElem hv, ?_⟩
  refine hz (put z.dropLast) B0 H0 D σ B1 _ (chgF (s' := z.dropLast) (fs' := fs) (H2 := H1) (s.ext.trans x1) s.len fl1 hi ev (Ext.refl x1.s) sb ⟨p, vs.dropLast, eu, ef, upd_same, pairedPop pr, ?_⟩ (fun b hb _ => upd_ne fun e => hb (by rw [ef, e]; exact List.mem_singleton.mpr rfl)) fun b hb => ⟨.inl hb, ?_⟩) q qe qn
  · rw [List.length_dropLast]
    omega
  · rw [ef, List.mem_singleton] at hb
    rw [hb, upd_same]
    exact Option.some_ne_none _
theorem b_popD {m : Rs (List σ' × (List σ' → τ))} {k : τ → Rs ρ} (hi : As[i]? = some (.ow O x)) (h : EvP cm W te As i O (OLd P) m) (hz : ∀ y, Blk cm W tz (As.set i (.ow O y)) (k y) C) :
    Blk cm W (tSeq (tDrop (tBM0 K "list" rPop te)) tz) As (m.bind fun p => (popR p.1).bind fun ys => k (p.2 ys)) C := fun B0 H0 D σ B H s q qe qn => by
  obtain ⟨F, fl⟩ := s.fp
  obtain ⟨v, fp, ev, _⟩ := s.ow hi
  refine h B0 H0 σ B H F s.ext s.len fl v ev _ (fun z put em u fs B1 H1 x1 sb => ?_) (fun e he H' hs => qe e (by rw [he]; rfl) σ H' (s.ext.h.trans hs)) (Rs.bind_ne qn)
  subst em
  have fl1 := Flds.mono (B0 := B0) fl x1
  obtain ⟨p, vs, g, eu, ef, hng, hp, pr, hz0⟩ := sb.1
  refine ⟨by rw [eu]; exact .inl ⟨rfl, vs, .inl (.inl hp)⟩, ?_⟩
  have hl : 0 < z.length := Rs.gd_ne (Rs.bind_ne (m := popR z) qn)
  have e1 : ((Rs.ok (z, put)).bind fun p => (popR p.1).bind fun ys => k (p.2 ys)) = k (put z.dropLast) := by
    show (popR z).bind _ = _
    rw [popR_ok hl]; rfl
  rw [e1] at q qe qn
  have hv : vs.length - 1 < vs.length := by rw [← pr.len]; omega
  obtain ⟨g', pr', hg'⟩ := pr.pop
  have hn1 : ∀ a ∈ fs, H1 a ≠ none := fun a ha => (fl1.2.1 i a (sb.2.1 a ha)).2.2.2
  have pin : p ∈ fs := by rw [ef]; exact List.mem_cons_self
  have gin : ∀ a ∈ g', a ∈ fs := fun a ha => by rw [ef]; exact List.mem_cons_of_mem _ (hg' a ha)
  have hne : ∀ a, a ∈ g' → upd H1 p (.lst vs.dropLast) a = H1 a := fun a ha => upd_ne fun e => hng (by rw [← e]; exact hg' a ha)
  refine ⟨p, vs, vs[vs.length - 1], eu, rfl, hp, List.getElem?_eq_getElem hv, ?_⟩
  refine hz (put z.dropLast) B0 H0 D σ B1 _ (chgF (s' := z.dropLast) (fs' := p :: g') (H2 := H1) (s.ext.trans x1) s.len fl1 hi ev (Ext.refl x1.s) sb ⟨p, vs.dropLast, g', eu, rfl, fun y => hng (hg' p y), upd_same, pr'.imp fun y u' f' r' hf' => P.up (Same.refl _) (fun a ha => hne a (hf' a ha)) r', ?_⟩ (fun b hb _ => upd_ne fun e => hb (by rw [e]; exact pin)) fun b hb => ?_) q qe qn
  · rw [List.length_dropLast]
    omega
  · rcases List.mem_cons.mp hb with y | y
    · subst y
      exact ⟨.inl pin, by rw [upd_same]; exact Option.some_ne_none _⟩
    · exact ⟨.inl (gin b y), by rw [hne b y]; exact hn1 b (gin b y)⟩
theorem b_setP {m : Rs (List α × (List α → τ))} {n : Rs α} {nb : Rs Int} {k : τ → Rs ρ} (hi : As[i]? = some (.ow O x)) (hv : EvM cm W ta As R n) (h : EvP cm W te As i O (OL R) m) (hb : EvM cm W tb As RI nb) (hz : ∀ y, Blk cm W tz (As.set i (.ow O y)) (k y) C) :
    Blk cm W (tSeq (tAsg ta (gSub te tb rSetL)) tz) As (n.bind fun a => m.bind fun p => nb.bind fun y => (setR p.1 y a).bind fun ys => k (p.2 ys)) C := fun B0 H0 D σ B H s q qe qn => by
  refine hv B0 H0 σ B H s _ (fun a ea w B1 H1 x1 r1 => ?_) (fun e he H' hs => qe e (by rw [he]; rfl) σ H' (s.ext.h.trans hs)) (Rs.bind_ne qn)
  subst ea
  have s1 := s.mono x1
  obtain ⟨F, fl1⟩ := s1.fp
  obtain ⟨v, fp, ev, _⟩ := s1.ow hi
  refine h B0 H0 σ B1 H1 F s1.ext s1.len fl1 v ev _ (fun z put em u fs B2 H2 x2 sb => ?_) (fun e he H' hs => qe e (by rw [he]; rfl) σ H' ((s.ext.h.trans x1.h).trans hs)) (Rs.bind_ne (m := m) qn)
  subst em
  have s2 := s1.mono x2
  have fl2 := Flds.mono (B0 := B0) fl1 x2
  obtain ⟨p, vs, eu, ef, hp, pr, hz0⟩ := sb.1
  refine hb B0 H0 σ B2 H2 s2 _ (fun b eb wb B3 H3 x3 r3 => ?_) (fun e he H' hs => qe e (by rw [he]; rfl) σ H' (((s.ext.h.trans x1.h).trans x2.h).trans hs)) (Rs.bind_ne (m := nb) qn)
  subst eb
  have n1 : setR z b a ≠ .no := Rs.bind_ne (m := setR z b a) qn
  rw [setR_eq] at n1
  cases hj : ixN z.length b with
  | none =>
    rw [hj] at n1
    exact absurd rfl n1
  | some j =>
    have e1 : ((Rs.ok a).bind fun a => (Rs.ok (z, put)).bind fun p => (Rs.ok b).bind fun y => (setR p.1 y a).bind fun ys => k (p.2 ys)) = k (put (z.set j a)) := by
      show (setR z b a).bind _ = _
      rw [setR_eq, hj]; rfl
    rw [e1] at q qe qn
    have hp3 : H3 p = some (.lst vs) := x3.h _ _ hp
    have hn2 : ∀ a ∈ F i, H2 a ≠ none := fun a ha => (fl2.2.1 i a ha).2.2.2
    refine ⟨p, vs, b, j, eu, r3, hp3, by rw [← pairedLen pr]; exact hj, ?_⟩
    refine hz (put (z.set j a)) B0 H0 D σ B3 _ (chgF (s' := z.set j a) (fs' := fs) (H2 := H3) (s1.ext.trans x2) s.len fl2 hi ev x3 (sb.up x3 hn2) ⟨p, vs.set j w, eu, ef, upd_same, pairedSet (F := fun x u => R.r x B3 u) (R.up (x2.b.trans x3.b) r1) j (pairedUp pr fun _ _ y => R.up x3.b y), by rw [List.length_set]; exact hz0⟩ (fun b hb _ => upd_ne fun e => hb (by rw [ef, e]; exact List.mem_singleton.mpr rfl)) fun b hb => ⟨.inl hb, ?_⟩) q qe qn
    rw [ef, List.mem_singleton] at hb
    rw [hb, upd_same]
    exact Option.some_ne_none _
theorem b_setF {T : HOwn τ} {c : Int} {n : Nat} {put : τ → α → τ} {m : Rs α} {k : τ → Rs ρ} (hi : As[i]? = some (.ow (OLi T) x)) (hp : HSet T n R put) (hc : c = (n : Int)) (hv : EvM cm W ta As R m) (hz : ∀ y, Blk cm W tz (As.set i (.ow (OLi T) y)) (k y) C) :
    Blk cm W (tSeq (tAsg ta (gSub (tVar i) (tC (.int c)) rSetL)) tz) As (m.bind fun a => k (put x a)) C := fun B0 H0 D σ B H s q qe qn => by
  refine hv B0 H0 σ B H s _ (fun a ea w B1 H1 x1 r1 => ?_) (fun e he H' hs => qe e (by rw [he]; rfl) σ H' (s.ext.h.trans hs)) (Rs.bind_ne qn)
  subst ea
  have s1 := s.mono x1
  obtain ⟨F, fl1⟩ := s1.fp
  obtain ⟨v, fp, ev, p, vs, g, eu, ef, hng, hpp, t, hz0⟩ := s1.ow hi
  refine ⟨v, ev, ?_⟩
  obtain ⟨v', ev', p', vs', g', eu', ef', hng', hpp', t', hz0'⟩ := fl1.1 i _ _ hi ev
  cases ev'
  obtain ⟨k1, k2⟩ := hp t' r1
  refine ⟨p', vs', c, n, eu', rfl, hpp', by rw [hc]; unfold ixN; rw [if_pos (by omega), if_pos (by omega), Int.toNat_natCast], ?_⟩
  refine hz (put x a) B0 H0 D σ B1 _ (chgF (P := OLi T) (s := x) (s' := put x a) (fs := F i) (fs' := F i) (put := fun y => y) (H2 := H1) (u := v) s1.ext s1.len fl1 hi ev (Ext.refl s1.ext.s) (Sub.refl ⟨p', vs', g', eu', ef', hng', hpp', t', hz0'⟩) ⟨p', vs'.set n w, g', eu', ef', hng', upd_same, T.up (Same.refl _) (fun b hb => upd_ne fun e => hng' (by rw [← e]; exact hb)) k2, by rw [List.length_set]; exact hz0'⟩ (fun b hb _ => upd_ne fun e => hb (by rw [ef', e]; exact List.mem_cons_self)) fun b hb => ⟨.inl hb, ?_⟩) q qe qn
  by_cases e : b = p'
  · rw [e, upd_same]
    exact Option.some_ne_none _
  · rw [upd_ne e]
    exact (fl1.2.1 i b hb).2.2.2
end
end Gd

namespace Gd
open PySem PySem.Spec PyProof.Rows L2
/-! ### tuple * int, the count 1 too -/
theorem tuple_mul1 (l : Addr) (items : Array Value) (n : Nat) (dd : Option Addr) (sl : Array (Option Value)) (u : Tok) :
    Meets (Builtin.«tuple.__mul__» ⟨[.ref l, .int 1 u], []⟩) (fun _ R s => s.heap.get? l = some { cls := .type "tuple", dict := dd, data := .seq items n, slots := sl } ∧ R (.ok (.ret (Value.ref l))) s) :=
  .of_wp fun prog w A R s h => by
    obtain ⟨hp, g, d, tk, os⟩ := s
    obtain ⟨hl, h⟩ := h
    have f1 := AutoSeq1.idx_int
    wp_walk using wpAny_loadPart' hl
    repeat (first
      | (refine wpAny_ite_false (decide_eq_false (by decide)) ?_; wp_walk using wpAny_loadPart' hl)
      | (refine wpAny_ite_true (decide_eq_true (by simp)) ?_; wp_walk using wpAny_loadPart' hl))
    exact ⟨_, rfl, h⟩
def rRep1 (K : PySem.W.Frag) : R2 := fun x y H Q => ∃ l xs, x = .ref l ∧ y = .int 1 ∧ SqT K H l xs ∧ Q (.ref l) H
theorem op_rep1 {X : Cx} : OpR X (binaryOp .Mult) (rRep1 X.K) := by
  intro pins s σ H x y v u Q I rx ry h
  obtain ⟨l, xs, rfl, rfl, hT, q⟩ := h
  cases rx
  obtain ⟨t, rfl⟩ := ry
  obtain ⟨its, r, ⟨⟨cls, dd, data, sl⟩, ho, hc, n, hd⟩, hs⟩ := I.tuple hT
  simp only at hc hd
  subst hc hd
  refine wpAny_binaryOp_repeat_ref (T := "tuple") (U := "int") (by decide) ⟨_, ho, rfl⟩ (fun s' => typeIs_int s' 1 t) noFill_tuple_mul F.fills_int_mul F.slot_int_rmul repeat_tuple F.slot_int_index.lookup
    (call_meets F.slot_int_rmul (typeIs_int s 1 t) F.entry_int_rmul (F.args_int_rmul_2 _ _) (int_rmul_tuple 1 t l its.toArray n dd sl)
      ⟨ho, rfl, ⟨_, ho, rfl⟩, call_meets F.slot_tuple_mul ⟨_, ho, rfl⟩ F.entry_tuple_mul (F.args_tuple_mul_2 _ _) (tuple_mul1 l its.toArray n dd sl t) ⟨ho, ?_⟩⟩)
  exact ⟨.ref l, H, I, rfl, q⟩
def rRepA (K : PySem.W.Frag) : R2 := fun x y H Q => rRep1 K x y H Q ∨ rRepT K x y H Q
theorem op_repA {X : Cx} : OpR X (binaryOp .Mult) (rRepA X.K) := by
  intro pins s σ H x y v u Q I rx ry h
  rcases h with h | h
  · exact op_rep1 pins s σ H x y v u Q I rx ry h
  · exact op_repT pins s σ H x y v u Q I rx ry h
theorem op_repAK {X : Cx} {K : PySem.W.Frag} (hK : X.K = K) : OpR X (binaryOp .Mult) (rRepA K) := by
  subst hK
  exact op_repA
section
variable {α : Type} {R : Rel α} {K : PySem.W.Frag}
noncomputable def repTR (xs : List α) (n : Int) : Rs (List α) := Rs.gd (0 < xs.length ∧ xs.length ≤ 1000 ∧ 1 ≤ n ∧ n ≤ 1000) (.ok (List.replicate n.toNat xs).flatten)
theorem repTR_one {x : α} {n : Int} (h : 1 ≤ n ∧ n ≤ 1000) : repTR [x] n = .ok (List.replicate n.toNat x) := by
  have e : (List.replicate n.toNat [x]).flatten = List.replicate n.toNat x := by
    generalize n.toNat = k
    induction k with
    | zero => rfl
    | succ k ih => rw [List.replicate_succ, List.flatten_cons, ih, List.replicate_succ]; rfl
  rw [← e]
  exact Rs.gd_pos ⟨by simp, by simp, h.1, h.2⟩
theorem pairedRepFl {F : α → V → Prop} {xs : List α} {vs : List V} (h : Paired F xs vs) : ∀ n, Paired F (List.replicate n xs).flatten (List.replicate n vs).flatten
  | 0 => .nil
  | n + 1 => by
    rw [List.replicate_succ, List.replicate_succ, List.flatten_cons, List.flatten_cons]
    exact pairedApp h (pairedRepFl h n)
theorem oe_repT : OpE (rRepA K) (RT R) RI (RT R) (fun x y => repTR x y) := fun {x y B H v u} s hx hy n => by
  obtain ⟨p, vs, rfl, hp, pr, hz⟩ := hx
  obtain ⟨g1, g2, g3, g4⟩ := Rs.gd_ne n
  have hy' : u = .int y := hy
  refine ⟨_, Rs.gd_pos ⟨g1, g2, g3, g4⟩, fun Q q => ?_⟩
  have hl := pairedLen pr
  by_cases h1 : y = 1
  · subst h1
    refine .inl ⟨p, vs, rfl, hy', .inl (.inl (s _ _ hp)), q _ B H (Ext.refl s) ⟨p, vs, rfl, hp, ?_, ?_⟩⟩
    · show Paired _ (List.replicate 1 x).flatten vs
      rw [show (List.replicate 1 x).flatten = x by simp]
      exact pr
    · show (List.replicate 1 x).flatten.length ≤ _
      rw [show (List.replicate 1 x).flatten = x by simp]
      exact hz
  · refine .inr ⟨p, y, vs, rfl, hy', .inl (.inl (s _ _ hp)), fun e => ?_, by omega, g4, by omega, fun p2 hp2 => q _ _ _ (Ext.new s hp2) ⟨p2, _, rfl, upd_same, pairedRepFl (pairedUp pr fun _ _ z => R.up (same_upd (s.free hp2)) z) _, ?_⟩⟩
    · rw [e] at hl
      simp at hl
      rw [hl] at g1
      cases g1
    · rw [PyProof.Rows.lm_len_rep_flat, sizeLine_eq]
      have a1 : y.toNat * x.length ≤ 1000 * 1000 := Nat.mul_le_mul (by omega) g2
      omega
end
end Gd

namespace Gd
open PySem PySem.Spec PyProof.Rows L2
/-! ### defs that give owned things, or take them -/
def CO {ρ : Type} (O : Own ρ) : Con ρ := ⟨fun r B0 H0 D => ∀ v fp B H, Ext B0 H0 B H → O.r r B H v fp → (∀ b ∈ fp, H0 b = none ∧ B b = none ∧ H b ≠ none) → D.rt v H⟩
def RtO {ρ : Type} (C : Con ρ) : Prop := ∀ (r : ρ) (B0 H0 : Hp) (D D' : Ends), D'.rt = D.rt → C.c r B0 H0 D → C.c r B0 H0 D'
theorem rto_CR {ρ : Type} {Rr : Rel ρ} : RtO (CR Rr) := fun r B0 H0 D D' e h v B H x z => by rw [e]; exact h v B H x z
theorem rto_CO {ρ : Type} {O : Own ρ} : RtO (CO O) := fun r B0 H0 D D' e h v fp B H x z k => by rw [e]; exact h v fp B H x z k
/-- a block that goes on, or returns as C1 says -/
def CF {S ρ : Type} (C1 : Con ρ) (Post : S → List Sl) : Con (Fl S ρ) := ⟨fun f B0 H0 D => match f with
  | .nx s => ∀ σ B H, St3 B0 H0 (Post s) σ B H → D.nx σ H
  | .bk _ => True
  | .rt r => C1.c r B0 H0 D⟩
section
variable {cm : Nat → Addr} {W : WX} {As Bs : List Sl} {K : PySem.W.Frag} {α β γ τ τ' σ' ρ S S' : Type} {R : Rel α} {Rb : Rel β} {O : Own ρ} {P : Own σ'} {T : HRel τ} {Rr : Rel ρ} {te ta tb tc : TE} {tt tu : TT} {t1 t2 tz : TS} {i : Nat} {C : Con γ} {C1 : Con ρ}
theorem b_retN {m : Rs ρ} (h : EvN cm W te As O m) : Blk cm W (tSeq (tRet te) tz) As m (CO O) := fun B0 H0 D σ B H s q qe qn =>
  h B0 H0 σ B H s _ (fun a ea v fp B' H' x r k => q a ea v fp B' H' (s.ext.trans x) r fun b hb => ⟨s.ext.h.free (k b hb).1, (k b hb).2⟩) (fun e he H' hs => qe e he σ H' (s.ext.h.trans hs)) qn
theorem b_retS {x : ρ} (hi : As[i]? = some (.ow O x)) : Blk cm W (tSeq (tRet (tVar i)) tz) As (.ok x) (CO O) := fun B0 H0 D σ B H s q qe qn => by
  obtain ⟨F, h1, h2, h3⟩ := s.fp
  obtain ⟨v, fp, ev, _⟩ := s.ow hi
  obtain ⟨w, ew, r⟩ := h1 i _ _ hi ev
  cases ew
  exact ⟨v, ev, q x rfl v (F i) B H s.ext r fun b hb => (h2 i b hb).2⟩
theorem b_liftF {t : TS} {m : Rs ρ} {Post : S → List Sl} (h : Blk cm W t As m C1) : Blk cm W t As (m.bind fun r => .ok (Fl.rt r)) (CF C1 Post) := fun B0 H0 D σ B H s q qe qn =>
  h B0 H0 D σ B H s (fun a ea => q (.rt a) (by rw [ea]; rfl)) (fun e he => qe e (by rw [he]; rfl)) (Rs.bind_ne qn)
theorem b_nilC {Post : S → List Sl} {s : S} (w : Wk As (Post s)) : Blk cm W tNext As (.ok (.nx s)) (CF C1 Post) := fun B0 H0 D σ B H st q _ _ => q _ rfl σ B H (st.weak w)
def UpC (C : Con γ) (C1 : Con ρ) (g : ρ → γ) : Prop := ∀ (r : ρ) (B0 H0 : Hp) (D D' : Ends), D'.rt = D.rt → C.c (g r) B0 H0 D → C1.c r B0 H0 D'
theorem upc_r (h : RtO C1) : UpC C1 C1 (fun r => r) := h
theorem upc_f {Post : S → List Sl} (h : RtO C1) : UpC (CF C1 Post) C1 (fun r => Fl.rt r) := fun r B0 H0 D D' e k => h r B0 H0 D D' e k
theorem b_ifC {mc : Rs Bool} {mA mB : Rs (Fl S ρ)} {Post : S → List Sl} {k : S → Rs γ} {g : ρ → γ} (up : UpC C C1 g) (ht : EvT cm W tt As mc) (h1 : Blk cm W t1 As mA (CF C1 Post)) (h2 : Blk cm W t2 As mB (CF C1 Post)) (hz : ∀ s, Blk cm W tz (Post s) (k s) C) :
    Blk cm W (tSeq (tIfS tt t1 t2) tz) As (mc.bind fun b => (Rs.thn (if b = true then mA else mB) g k)) C := fun B0 H0 D σ B H s q qe qn =>
  ht B0 H0 σ B H s _ (fun b eb B' H' x => by
    subst eb
    have go : ∀ (t : TS) (mm : Rs (Fl S ρ)), (Rs.thn (if b = true then mA else mB) g k) = Rs.thn mm g k → Blk cm W t As mm (CF C1 Post) → t { D with nx := tz D } σ H' := fun t mm em hblk => by
      have q' : ∀ a, Rs.thn mm g k = .ok a → C.c a B0 H0 D := by rw [← em]; exact q
      have qe' : ∀ e, Rs.thn mm g k = .ex e → ∀ σ' H', Same H0 H' → W (.ref (cm e)) none σ' H' := by rw [← em]; exact qe
      have qn' : Rs.thn mm g k ≠ .no := by rw [← em]; exact qn
      refine hblk B0 H0 { D with nx := tz D } σ B' H' (s.mono x) (fun a ea => ?_) (fun e he => qe' e (by rw [he]; rfl)) (Rs.bind_ne (m := mm) qn')
      subst ea
      cases a with
      | nx s' => exact fun σ2 B2 H2 s2 => hz s' B0 H0 D σ2 B2 H2 s2 q' qe' qn'
      | bk s' => trivial
      | rt r => exact up r B0 H0 D _ rfl (q' (g r) rfl)
    cases b with
    | true => exact go t1 mA rfl h1
    | false => exact go t2 mB rfl h2) (fun e he H' hs => qe e (by rw [he]; rfl) σ H' (s.ext.h.trans hs)) (Rs.bind_ne qn)
/-! the words of such defs -/
def spN (cm : Nat → Addr) (T : HRel τ) (O : Own ρ) (f : τ → Rs ρ) : Sp := fun vs H Q E => ∃ (B : Hp) (x : τ), Same B H ∧ T.r x B vs ∧ (∀ r, f x = .ok r → ∀ v fp B' H', Ext B H B' H' → O.r r B' H' v fp → (∀ b ∈ fp, H b = none ∧ B' b = none ∧ H' b ≠ none) → Q v H') ∧
  (∀ e, f x = .ex e → ∀ H', Same H H' → E (.ref (cm e)) none H') ∧ f x ≠ .no
theorem en_call {tr : TA} {f : τ → Rs ρ} {m : Rs τ} (h : EvAr cm W tr As T m) : EvN cm W (tCallS (spN cm T O f) (WE W) tr) As O (m.bind f) := fun B0 H0 σ B H s Q q qe qn => by
  refine h B0 H0 σ B H s _ (fun a ea v B1 H1 x1 r1 => ?_) (fun e he => qe e (by rw [he]; rfl)) (Rs.bind_ne qn)
  subst ea
  exact ⟨B1, a, x1.s, r1, fun r er v fp B' H' x rr k => q r er v fp B' H' (x1.trans x) rr fun b hb => ⟨x1.h.free (k b hb).1, (k b hb).2⟩, fun e he H' hs => qe e he H' (x1.h.trans hs), qn⟩
def hid (H : Hp) (fp : List Addr) : Hp := fun a => if a ∈ fp then none else H a
theorem hid_in {H : Hp} {fp : List Addr} {a : Addr} (h : a ∈ fp) : hid H fp a = none := if_pos h
theorem hid_out {H : Hp} {fp : List Addr} {a : Addr} (h : a ∉ fp) : hid H fp a = H a := if_neg h
theorem hid_some {H : Hp} {fp : List Addr} {a : Addr} {o : HO} (h : H a = some o) (k : a ∉ fp) : hid H fp a = some o := by rw [hid_out k]; exact h
def spC {α : Type} (cm : Nat → Addr) (P : Own α) (T : HRel τ) (O : Own ρ) (f : α × τ → Rs ρ) : Sp := fun vs H Q E => ∃ (B : Hp) (x : α) (y : τ) (v : V) (ws : List V) (fp : List Addr), vs = v :: ws ∧ Same B H ∧ (∀ a ∈ fp, B a = none ∧ H a ≠ none) ∧ P.r x B H v fp ∧ T.r y B ws ∧
  (∀ r, f (x, y) = .ok r → ∀ u g B' H', Ext B (hid H fp) B' H' → O.r r B' H' u g → (∀ b ∈ g, hid H fp b = none ∧ B' b = none ∧ H' b ≠ none) → Q u H') ∧ (∀ e, f (x, y) = .ex e → ∀ H', Same (hid H fp) H' → E (.ref (cm e)) none H') ∧ f (x, y) ≠ .no
/-- y = f(x, ..): x is given away -/
theorem b_callC {j : Nat} {x : σ'} {tr : TA} {f : σ' × τ → Rs ρ} {m : Rs τ} {k : ρ → Rs γ} (hi : As[i]? = some (.ow P x)) (hj : j < As.length) (h : EvAr cm W tr As T m) (hz : ∀ r, Blk cm W tz ((As.set i .un).set j (.ow O r)) (k r) C) :
    Blk cm W (tSeq (tAsg (tCallS (spC cm P T O f) (WE W) (tCons (tVar i) tr)) (gName j)) tz) As (m.bind fun y => (f (x, y)).bind k) C := fun B0 H0 D σ B H s q qe qn => by
  obtain ⟨F, h1, h2, h3⟩ := s.fp
  obtain ⟨v, fp0, ev, _⟩ := s.ow hi
  refine ⟨v, ev, ?_⟩
  refine h B0 H0 σ B H s _ (fun a ea ws B1 H1 x1 r1 => ?_) (fun e he H' hs => qe e (by rw [he]; rfl) σ H' (s.ext.h.trans hs)) (Rs.bind_ne qn)
  subst ea
  have fl1 := Flds.mono (B0 := B0) (As := As) ⟨h1, h2, h3⟩ x1
  obtain ⟨g1, g2, g3⟩ := fl1
  obtain ⟨w, ew, r⟩ := g1 i _ _ hi ev
  cases ew
  have xx := s.ext.trans x1
  have qn1 : f (x, a) ≠ .no := Rs.bind_ne (m := f (x, a)) qn
  have o0 : ∀ b o, H0 b = some o → hid H1 (F i) b = some o := fun b o e => hid_some (xx.h _ _ e) fun z => by rw [(g2 i b z).2.1] at e; cases e
  refine ⟨B1, x, a, v, ws, F i, rfl, x1.s, fun b hb => (g2 i b hb).2.2, r, r1, fun r er u g B' H' y rr kk => ?_, fun e he H' hs => qe e (by show (f (x, a)).bind k = _; rw [he]; rfl) σ H' (fun b o eb => hs b o (o0 b o eb)), qn1⟩
  have hi' : i < As.length := (List.getElem?_eq_some_iff.mp hi).1
  have e1 : ((Rs.ok a).bind fun y => (f (x, y)).bind k) = k r := by show (f (x, a)).bind k = _; rw [er]; rfl
  rw [e1] at q qe qn
  have keep : ∀ l b, l ≠ i → b ∈ F l → hid H1 (F i) b ≠ none ∧ H' b = H1 b ∧ B' b = none := fun l b hl hb => by
    have hn : b ∉ F i := fun z => hl (g3 _ _ b hb z)
    have q3 := (g2 l b hb).2.2.2
    have z1 : hid H1 (F i) b ≠ none := by rw [hid_out hn]; exact q3
    refine ⟨z1, by rw [ext_at y z1, hid_out hn], (y.n b z1).trans (g2 l b hb).2.2.1⟩
  refine hz r B0 H0 D _ B' H' ⟨⟨fun b o eb => y.h b o (o0 b o eb), xx.b.trans y.b, y.s, fun b hb => ?_⟩, by rw [List.length_set, List.length_set, List.length_set]; exact s.len, fun l => if l = j then g else if l = i then [] else F l, fun l sl o el eo => ?_, fun l b hb => ?_, fun l l2 b hb hc => ?_⟩ q qe qn
  · cases q0 : H0 b with
    | none => exact absurd q0 hb
    | some o =>
      rw [y.n b (by rw [o0 b o q0]; exact Option.some_ne_none _)]
      exact xx.n b hb
  · by_cases hl : l = j
    · subst hl
      rw [List.getElem?_set_self (by rw [List.length_set]; exact hj)] at el
      rw [List.getElem?_set_self (by rw [s.len]; exact hj)] at eo
      cases el
      cases eo
      simp only [if_pos]
      exact ⟨u, rfl, rr⟩
    · rw [List.getElem?_set_ne (Ne.symm hl)] at el eo
      simp only [if_neg hl]
      by_cases hl2 : l = i
      · subst hl2
        rw [List.getElem?_set_self hi'] at el
        cases el
        simp only [if_pos]
        rfl
      · rw [List.getElem?_set_ne (Ne.symm hl2)] at el
        simp only [if_neg hl2]
        exact (g1 l sl o el eo).up y.b fun b hb => (keep l b hl2 hb).2.1
  · rw [List.length_set, List.length_set]
    by_cases hl : l = j
    · simp only [if_pos hl] at hb
      obtain ⟨k1, k2, k3⟩ := kk b hb
      refine ⟨by rw [hl]; exact hj, ?_, k2, k3⟩
      cases q0 : H0 b with
      | none => rfl
      | some o => rw [o0 b o q0] at k1; cases k1
    · simp only [if_neg hl] at hb
      by_cases hl2 : l = i
      · simp [hl2] at hb
      · simp only [if_neg hl2] at hb
        obtain ⟨z1, z2, z3⟩ := keep l b hl2 hb
        obtain ⟨y0, y1, y2, y3⟩ := g2 l b hb
        exact ⟨y0, y1, z3, by rw [z2]; exact y3⟩
  · have ex : ∀ l b, l ≠ i → b ∈ g → b ∈ F l → False := fun l b hl hg hF => (keep l b hl hF).1 (kk b hg).1
    by_cases a1 : l = j
    · by_cases a2 : l2 = j
      · rw [a1, a2]
      · simp only [if_pos a1] at hb
        simp only [if_neg a2] at hc
        by_cases a3 : l2 = i
        · simp [a3] at hc
        · simp only [if_neg a3] at hc
          exact (ex l2 b a3 hb hc).elim
    · simp only [if_neg a1] at hb
      by_cases a3 : l = i
      · simp [a3] at hb
      · simp only [if_neg a3] at hb
        by_cases a2 : l2 = j
        · simp only [if_pos a2] at hc
          exact (ex l b a3 hc hb).elim
        · simp only [if_neg a2] at hc
          by_cases a4 : l2 = i
          · simp [a4] at hc
          · simp only [if_neg a4] at hc
            exact g3 l l2 b hb hc
/-! displays of owned things -/
def EvAN (cm : Nat → Addr) (W : WX) (ta : TA) (As : List Sl) (T : HOwn τ) (m : Rs τ) : Prop :=
  ∀ (B0 H0 : Hp) (σ : L2.St) (B H : Hp), St3 B0 H0 As σ B H → ∀ Q : List V → Hp → Prop, (∀ a, m = .ok a → ∀ vs fp B' H', Ext B H B' H' → T.r a B' H' vs fp → (∀ b ∈ fp, H b = none ∧ B' b = none ∧ H' b ≠ none) → Q vs H') →
    (∀ e, m = .ex e → ∀ H', Same H H' → W (.ref (cm e)) none σ H') → m ≠ .no → ta σ H Q
theorem en_of {m : Rs α} (h : EvM cm W te As R m) : EvN cm W te As (OF R) m := fun B0 H0 σ B H s Q q qe qn =>
  h B0 H0 σ B H s _ (fun a ea v B' H' x r => q a ea v [] B' H' x ⟨rfl, r⟩ fun b hb => by cases hb) qe qn
theorem ean_one {m : Rs ρ} (h : EvN cm W te As O m) : EvAN cm W (tCons te tNil) As (HO1 O) m := fun B0 H0 σ B H s Q q qe qn =>
  h B0 H0 σ B H s _ (fun a ea v fp B' H' x r k => q a ea [v] fp B' H' x ⟨v, rfl, r⟩ k) qe qn
theorem ean_cons {T : HOwn τ} {tr : TA} {m : Rs ρ} {n : Rs τ} (h : EvN cm W te As O m) (h2 : EvAN cm W tr As T n) : EvAN cm W (tCons te tr) As (HOC O T) (Rs.pr m n) := fun B0 H0 σ B H s Q q qe qn => by
  refine h B0 H0 σ B H s _ (fun a ea v fp B1 H1 x1 r1 k1 => ?_) (fun e he => qe e (by rw [he]; rfl)) (Rs.bind_ne qn)
  subst ea
  refine h2 B0 H0 σ B1 H1 (s.mono x1) _ (fun b eb us g B2 H2 x2 r2 k2 => ?_) (fun e he H' hs => qe e (by rw [he]; rfl) H' (x1.h.trans hs)) (Rs.bind_ne (m := n) qn)
  subst eb
  refine q (a, b) rfl _ (fp ++ g) B2 H2 (x1.trans x2) ⟨v, us, fp, g, rfl, rfl, O.up x2.b (fun c hc => ext_at x2 (k1 c hc).2.2) r1, r2, fun c hc hd => (k1 c hc).2.2 (k2 c hd).1⟩ fun c hc => ?_
  rcases List.mem_append.mp hc with z | z
  · obtain ⟨y1, y2, y3⟩ := k1 c z
    exact ⟨y1, (x2.n c y3).trans y2, by rw [ext_at x2 y3]; exact y3⟩
  · obtain ⟨y1, y2, y3⟩ := k2 c z
    exact ⟨x1.h.free y1, y2, y3⟩
theorem en_lstN {T : HOwn τ} {tr : TA} {m : Rs τ} (hn : ∀ {x : τ} {B H : Hp} {vs : List V} {fp : List Addr}, T.r x B H vs fp → vs.length ≤ 1000) (h : EvAN cm W tr As T m) : EvN cm W (tLst tr) As (OLi T) m := fun B0 H0 σ B H s Q q qe qn =>
  h B0 H0 σ B H s _ (fun a ea vs fp B1 H1 x1 r1 k1 => ⟨Nat.le_of_lt (small1000 (hn r1)), fun p hp => by
    have pn : p ∉ fp := fun z => (k1 p z).2.2 hp
    have hne : ∀ b ∈ fp, upd H1 p (.lst vs) b = H1 b := fun b hb => upd_ne fun e => pn (by rw [← e]; exact hb)
    refine q a ea _ (p :: fp) B1 _ (x1.trans (Ext.newO x1.s hp)) ⟨p, vs, fp, rfl, rfl, pn, upd_same, T.up (Same.refl _) hne r1, hn r1⟩ fun b hb => ?_
    rcases List.mem_cons.mp hb with z | z
    · subst z
      exact ⟨x1.h.free hp, x1.s.free hp, by rw [upd_same]; exact Option.some_ne_none _⟩
    · obtain ⟨y1, y2, y3⟩ := k1 b z
      exact ⟨y1, y2, by rw [hne b z]; exact y3⟩⟩) qe qn
theorem ho1_le {O : Own α} : ∀ {x : α} {B H : Hp} {vs : List V} {fp : List Addr}, (HO1 O).r x B H vs fp → vs.length ≤ 1000 := fun ⟨u, e, _⟩ => by rw [e]; simp
theorem ho3_le {O1 : Own α} {O2 : Own β} {O3 : Own γ} : ∀ {x : α × β × γ} {B H : Hp} {vs : List V} {fp : List Addr}, (HOC O1 (HOC O2 (HO1 O3))).r x B H vs fp → vs.length ≤ 1000 := fun {x B H vs fp} h => by
  obtain ⟨u, us, f, g, e, ef, h, ⟨u2, us2, f2, g2, e2, ef2, h2, ⟨u3, e3, h3⟩, d2⟩, d⟩ := h
  rw [e, e2, e3]
  simp
/-- [e for x in ..], each item a new thing of one's own -/
theorem en_mapN {b : Bool} {wi : TI} {g : TG} {st : α → List Sl → List Sl} {js vs : List Nat} {m : Rs (List α)} {f : α → Rs ρ} (hw : WI b cm W wi As R m) (hg : EvG g R st js) (hj : ∀ i ∈ js, i ∈ vs)
    (he : ∀ x, EvN cm W te (st x (wipeS As vs)) O (f x)) : EvN cm W (tLc wi g tYes te vs) As (OLd O) (m.bind fun xs => Rs.mapR f xs) := fun B0 H0 σ B H s Q q qe qn => by
  refine hw B0 H0 σ B H s _ (fun xs exs J B1 H1 G x1 sG bG eG jok => ?_) (fun e he H' hs => qe e (by rw [he]; rfl) H' hs) (Rs.bind_ne qn)
  subst exs
  have qn1 : Rs.mapR f xs ≠ .no := qn
  have s1 := s.mono x1
  intro L hL
  have hLB : B1 L = none := x1.s.free hL
  have hLG : G L = none := sG.free hL
  have nx : ∀ (i : Nat) (x : α), xs[i]? = some x → Rs.mapR f (xs.drop i) = (f x).noEx.bind fun y => (Rs.mapR f (xs.drop (i + 1))).bind fun ys => .ok (y :: ys) := fun i x h => by
    obtain ⟨hi, e⟩ := List.getElem?_eq_some_iff.mp h
    rw [List.drop_eq_getElem_cons hi, e]
    rfl
  let I : Nat → Hp → Prop := fun i H' => ∃ ys acc gs B', Ext B1 H1 B' H' ∧ B' L = none ∧ H' L = some (.lst acc) ∧ P3 (fun x u k => O.r x B' H' u k) ys acc gs ∧ L ∉ gs ∧ (∀ c ∈ gs, H1 c = none ∧ B' c = none ∧ H' c ≠ none) ∧ ys.length ≤ i ∧ Rs.mapR f xs = (Rs.mapR f (xs.drop i)).bind fun zs => .ok (ys ++ zs)
  refine ⟨fun i m H' => m = xs.length - i ∧ i ≤ xs.length ∧ I i H', ⟨xs.length, by simp, Nat.zero_le _, [], [], [], B1, Ext.newO x1.s hL, hLB, upd_same, .nil, (fun z => by cases z), (fun c hc => by cases hc), Nat.le_refl _, ?_⟩, ?_⟩
  · rw [List.drop_zero]
    cases Rs.mapR f xs <;> rfl
  · rintro i m H2 ⟨rfl, hi, ys, acc, gs, B2, x2, nL, eL, pr, Lg, kg, hz, e2⟩
    have sG2 : Same G H2 := sG.trans x2.h
    by_cases hlt : i < xs.length
    · refine .inr ⟨jok.go i H2 sG2 hlt, I (i + 1), fun H' p' => ⟨xs.length - (i + 1), by omega, rfl, hlt, p'⟩, fun x H' y => ?_⟩
      obtain ⟨a, ha, k2⟩ := jok.yld i H2 x H' sG2 hlt y
      obtain ⟨B4, x4, r4⟩ := k2 B2 x2.b x2.s
      rw [nx i a ha] at e2
      have nn : (f a).noEx.bind (fun y => (Rs.mapR f (xs.drop (i + 1))).bind fun ys => .ok (y :: ys)) ≠ .no := Rs.bind_ne (by rw [← e2]; exact qn1)
      have x24 := x2.trans x4
      have s4 : St3 B0 H0 (wipeS As vs) (L2.wipe σ vs) B4 H' := (s1.mono x24).wipe vs
      refine hg B0 H0 _ _ B4 H' a x s4 r4 _ fun σ5 s5 h5 l5 => ?_
      refine ⟨wipe_eq hj h5 (by rw [l5, wipe_length]), ?_⟩
      refine et_yes (cm := cm) (W := W) B0 H0 σ5 B4 H' s5 _ (fun b' eb B6 H6 x6 => ?_) (fun e hee => by cases hee) (fun z => by cases z)
      cases eb
      show te σ5 H6 _
      have x26 := x24.trans x6
      obtain ⟨y, ey⟩ := noEx_ne (Rs.bind_ne nn)
      have L6 : H6 L = some (.lst acc) := x6.h _ _ (x4.h _ _ eL)
      have nL6 : B6 L = none := (x6.n L (by rw [x4.h _ _ eL]; exact Option.some_ne_none _)).trans ((x4.n L (by rw [eL]; exact Option.some_ne_none _)).trans nL)
      refine he a B0 H0 σ5 B6 H6 (s5.mono x6) _ (fun y' ey' v fv B7 H7 x7 r7 kv => ?_) (fun e hee => by rw [ey] at hee; cases hee) (by rw [ey]; exact fun z => nomatch z)
      have eyy : y' = y := by
        rw [ey] at ey'
        cases ey'
        rfl
      subst eyy
      have x47 := (x4.trans x6).trans x7
      have L7 : H7 L = some (.lst acc) := x7.h _ _ L6
      have nL7 : B7 L = none := (x7.n L (by rw [L6]; exact Option.some_ne_none _)).trans nL6
      have x27 := x26.trans x7
      have hz2 := jok.len
      have hz1 : acc.length < sizeLine := by rw [← pr.len]; omega
      have Lf : L ∉ fv := fun z => by have := (kv L z).1; rw [L6] at this; cases this
      have gn : ∀ c ∈ gs, c ≠ L := fun c hc e => Lg (by rw [← e]; exact hc)
      have fn : ∀ c ∈ fv, c ≠ L := fun c hc e => Lf (by rw [← e]; exact hc)
      have pr7 : P3 (fun x u k => O.r x B7 (upd H7 L (.lst (acc ++ [v]))) u k) ys acc gs := pr.imp fun z u k r hk => O.up x47.b (fun c hc => by rw [upd_ne (gn c (hk c hc))]; exact ext_at x47 (kg c (hk c hc)).2.2) r
      refine ⟨acc, L7, hz1, ys ++ [y'], acc ++ [v], gs ++ fv, B7, ⟨?_, x27.b, ?_, x27.n⟩, nL7, upd_same, pr7.app (O.up (Same.refl _) (fun c hc => upd_ne (fn c hc)) r7) (fun c hc hd => (kg c hd).2.2 ((x4.trans x6).h.free (kv c hc).1)), fun z => ?_, fun c hc => ?_, by rw [List.length_append]; exact Nat.add_le_add_right hz 1, ?_⟩
      · intro b o hb
        rw [upd_ne (ne_of_none hb hL)]
        exact x27.h _ _ hb
      · intro b o hb
        rw [upd_ne (ne_of_none hb nL7)]
        exact x27.s _ _ hb
      · rcases List.mem_append.mp z with w | w
        · exact Lg w
        · exact Lf w
      · rcases List.mem_append.mp hc with w | w
        · obtain ⟨y1, y2, y3⟩ := kg c w
          exact ⟨y1, (x47.n c y3).trans y2, by rw [upd_ne (gn c w), ext_at x47 y3]; exact y3⟩
        · obtain ⟨y1, y2, y3⟩ := kv c w
          exact ⟨x26.h.free y1, y2, by rw [upd_ne (fn c w)]; exact y3⟩
      · rw [e2, ey]
        show Rs.bind (Rs.bind _ _) _ = _
        rw [Rs.noEx_ok, Rs.bind_ok]
        cases Rs.mapR f (xs.drop (i + 1)) with
        | ok zs =>
          show Rs.ok (ys ++ y' :: zs) = Rs.ok (ys ++ [y'] ++ zs)
          rw [List.append_assoc]
          rfl
        | ex e => rfl
        | no => rfl
    · have e0 : i = xs.length := by omega
      subst e0
      rw [List.drop_length] at e2
      have e3 : (Rs.ok xs).bind (fun xs => Rs.mapR f xs) = .ok ys := by
        show Rs.mapR f xs = _
        rw [e2]
        show Rs.ok (ys ++ []) = _
        rw [List.append_nil]
      refine .inl ⟨jok.stop _ H2 sG2 (Nat.le_refl _), q ys e3 (.ref L) (L :: gs) B2 H2 (x1.trans x2) ⟨L, acc, gs, rfl, rfl, Lg, eL, pr, Nat.le_trans hz jok.len⟩ fun c hc => ?_⟩
      rcases List.mem_cons.mp hc with w | w
      · subst w
        exact ⟨x1.h.free hL, nL, by rw [eL]; exact Option.some_ne_none _⟩
      · obtain ⟨y1, y2, y3⟩ := kg c w
        exact ⟨x1.h.free y1, y2, y3⟩
end
section
variable {cm : Nat → Addr} {K : PySem.W.Frag} {τ ρ α : Type} {T : HRel τ} {O : Own ρ} {Pw : Own α} {P : Program} {w : World} {mg : Str → Option Value} {base : Heap}
theorem def_goN {x qual : Str} {st : Stmt} {fA : Addr} {fd : FuncData} {N ps : List Str} {k : Nat} {sl : τ → List Sl} {f : τ → Rs ρ} (F : Fun K x qual st fA fd) (S : FnScope N ps (defScope st)) (e : Ent T sl) (hl : ∀ x, (sl x).length = ps.length)
    (hb : ∀ (cdv : Value) (A : Around) (outer : List Env) (s : Shared) (H : Hp) (E : XK), Room k (A.deeper (envOfC qual (defScope st) s.heap.objs.size fA cdv)) →
      ∃ t, PSs (cxOf (L2.CX P w) P w K mg base N qual (defScope st) fA cdv A outer s H E) (defBody st) t ∧ ∀ x, Blk cm (fun cls d _ H => E cls d H) t (sl x ++ List.replicate (N.length - (sl x).length) .un) (f x) (CO O)) :
    FnOk P w K mg base (L2.CX P w) (k + 1) fA fd ps (spN cm T O f) := by
  refine F.okX S (fun vs H Q E h => ?_) (fun cdv A outer s H vs Q E hr h => ?_)
  · obtain ⟨B, x, _, hT, _⟩ := h
    rw [e.len hT, hl]
  · obtain ⟨B, x, hs, hT, q, qe, qn⟩ := h
    obtain ⟨t, ht, hbl⟩ := hb cdv A outer s H E hr
    exact ⟨t, ht, hbl x B H _ _ B H (st3_start e hT hs N) (fun r er v fp B' H' x' r' k' => q r er v fp B' H' x' r' k') (fun e he σ' H' hs' => qe e he H' hs') qn⟩
theorem def_goC {x qual : Str} {st : Stmt} {fA : Addr} {fd : FuncData} {N ps : List Str} {k : Nat} {sl : τ → List Sl} {f : α × τ → Rs ρ} (F : Fun K x qual st fA fd) (S : FnScope N ps (defScope st)) (e : Ent T sl) (hl : ∀ x, (sl x).length + 1 = ps.length)
    (hb : ∀ (cdv : Value) (A : Around) (outer : List Env) (s : Shared) (H : Hp) (E : XK), Room k (A.deeper (envOfC qual (defScope st) s.heap.objs.size fA cdv)) →
      ∃ t, PSs (cxOf (L2.CX P w) P w K mg base N qual (defScope st) fA cdv A outer s H E) (defBody st) t ∧ ∀ (x : α) (y : τ), Blk cm (fun cls d _ H => E cls d H) t (.ow Pw x :: sl y ++ List.replicate (N.length - (sl y).length - 1) .un) (f (x, y)) (CO O)) :
    FnOk P w K mg base (L2.CX P w) (k + 1) fA fd ps (spC cm Pw T O f) := by
  refine F.okX S (fun vs H Q E h => ?_) (fun cdv A outer s H vs Q E hr h => ?_)
  · obtain ⟨B, x, y, v, ws, fp, rfl, _, _, _, hT, _⟩ := h
    rw [List.length_cons, e.len hT, hl]
  · obtain ⟨B, x, y, v, ws, fp, rfl, hs, hf, hx, hT, q, qe, qn⟩ := h
    obtain ⟨t, ht, hbl⟩ := hb cdv A outer s H E hr
    refine ⟨t, ht, hbl x y B (hid H fp) _ _ B H ⟨⟨fun b o eb => ?_, Same.refl _, hs, fun _ _ => rfl⟩, ?_, fun j => if j = 0 then fp else [], fun j s' o ej eo => ?_, fun j b hb' => ?_, fun j l b hb' hc => ?_⟩ (fun r er u g B' H' x' r' k' => q r er u g B' H' x' r' k') (fun e he σ' H' hs' => qe e he H' hs') qn⟩
    · by_cases z : b ∈ fp
      · rw [hid_in z] at eb
        cases eb
      · rwa [hid_out z] at eb
    · have hel := e.len hT
      unfold L2.start
      simp only [List.length_append, List.length_cons, List.length_map, List.length_replicate]
      omega
    · cases j with
      | zero =>
        have : s' = .ow Pw x := by simpa using ej.symm
        subst this
        have : o = some v := by
          unfold L2.start at eo
          simpa using eo.symm
        subst this
        simp only [if_pos]
        exact ⟨v, rfl, hx⟩
      | succ j =>
        simp only [Nat.succ_ne_zero, if_false, Nat.add_eq_zero_iff, false_and, and_false, Nat.one_ne_zero]
        have hel := e.len hT
        by_cases hj : j < (sl y).length
        · have ej' : (sl y)[j]? = some s' := by
            have := ej
            rw [List.cons_append, List.getElem?_cons_succ, List.getElem?_append_left hj] at this
            exact this
          obtain ⟨v', hv, ok⟩ := e.get hT ej'
          unfold L2.start at eo
          rw [List.map_cons, List.cons_append, List.getElem?_cons_succ, List.getElem?_append_left (by rw [List.length_map, hel]; exact hj), List.getElem?_map, hv] at eo
          cases eo
          exact ok H
        · rw [List.cons_append, List.getElem?_cons_succ, List.getElem?_append_right (by omega)] at ej
          obtain ⟨hlt, ev⟩ := List.getElem?_eq_some_iff.mp ej
          rw [List.getElem_replicate] at ev
          rw [← ev]
          rfl
    · by_cases hj : j = 0
      · simp only [if_pos hj] at hb'
        subst hj
        exact ⟨by rw [List.cons_append, List.length_cons]; exact Nat.succ_pos _, hid_in hb', hf b hb'⟩
      · simp [hj] at hb'
    · by_cases hj : j = 0
      · by_cases hk : l = 0
        · rw [hj, hk]
        · simp [hk] at hc
      · simp [hj] at hb'
end
end Gd

namespace Gd
open PySem PySem.Spec PyProof.Rows L2
section
variable {cm : Nat → Addr} {W : WX} {As Bs : List Sl} {K : PySem.W.Frag} {α β γ τ τ' σ' ρ S S' : Type} {R : Rel α} {Rb : Rel β} {O : Own τ} {P : Own σ'} {T : HRel τ'} {Rr : Rel ρ} {te ta tb tc : TE} {tt tu : TT} {t1 t2 tz : TS} {i : Nat} {C : Con ρ} {x : τ}
theorem b_appP' {m : Rs (List α × (List α → τ))} {n : Rs α} {k : τ → Rs ρ} (hi : As[i]? = some (.ow O x)) (h : EvP cm W te As i O (OL R) m) (ha : EvM cm W ta As R n) (hz : ∀ y, Blk cm W tz (As.set i (.ow O y)) (k y) C) :
    Blk cm W (tSeq (tDrop (tBM K "list" rAppend te (tCons ta tNil))) tz) As ((m.bind fun p => n.bind fun a => (push p.1 a).bind fun ys => .ok (p.2 ys)).bind k) C := by
  rw [Rs.bind_assoc]
  simp only [Rs.bind_assoc]
  exact b_appP hi h ha hz
theorem b_appN' {m : Rs (List σ' × (List σ' → τ))} {n : Rs σ'} {k : τ → Rs ρ} (hi : As[i]? = some (.ow O x)) (h : EvP cm W te As i O (OLd P) m) (ha : EvN cm W ta As P n) (hz : ∀ y, Blk cm W tz (As.set i (.ow O y)) (k y) C) :
    Blk cm W (tSeq (tDrop (tBM K "list" rAppend te (tCons ta tNil))) tz) As ((m.bind fun p => n.bind fun a => (push p.1 a).bind fun ys => .ok (p.2 ys)).bind k) C := by
  simp only [Rs.bind_assoc]
  exact b_appN hi h ha hz
theorem b_popP' {m : Rs (List α × (List α → τ))} {k : τ → Rs ρ} (hi : As[i]? = some (.ow O x)) (h : EvP cm W te As i O (OL R) m) (hz : ∀ y, Blk cm W tz (As.set i (.ow O y)) (k y) C) :
    Blk cm W (tSeq (tDrop (tBM0 K "list" rPop te)) tz) As ((m.bind fun p => (popR p.1).bind fun ys => .ok (p.2 ys)).bind k) C := by
  simp only [Rs.bind_assoc]
  exact b_popP hi h hz
theorem b_popD' {m : Rs (List σ' × (List σ' → τ))} {k : τ → Rs ρ} (hi : As[i]? = some (.ow O x)) (h : EvP cm W te As i O (OLd P) m) (hz : ∀ y, Blk cm W tz (As.set i (.ow O y)) (k y) C) :
    Blk cm W (tSeq (tDrop (tBM0 K "list" rPop te)) tz) As ((m.bind fun p => (popR p.1).bind fun ys => .ok (p.2 ys)).bind k) C := by
  simp only [Rs.bind_assoc]
  exact b_popD hi h hz
theorem b_setP' {m : Rs (List α × (List α → τ))} {n : Rs α} {nb : Rs Int} {k : τ → Rs ρ} (hi : As[i]? = some (.ow O x)) (hv : EvM cm W ta As R n) (h : EvP cm W te As i O (OL R) m) (hb : EvM cm W tb As RI nb) (hz : ∀ y, Blk cm W tz (As.set i (.ow O y)) (k y) C) :
    Blk cm W (tSeq (tAsg ta (gSub te tb rSetL)) tz) As ((n.bind fun a => m.bind fun p => nb.bind fun y => (setR p.1 y a).bind fun ys => .ok (p.2 ys)).bind k) C := by
  simp only [Rs.bind_assoc]
  exact b_setP hi hv h hb hz
theorem b_setF' {T : HOwn τ} {c : Int} {n : Nat} {put : τ → α → τ} {m : Rs α} {k : τ → Rs ρ} (hi : As[i]? = some (.ow (OLi T) x)) (hp : HSet T n R put) (hc : c = (n : Int)) (hv : EvM cm W ta As R m) (hz : ∀ y, Blk cm W tz (As.set i (.ow (OLi T) y)) (k y) C) :
    Blk cm W (tSeq (tAsg ta (gSub (tVar i) (tC (.int c)) rSetL)) tz) As ((m.bind fun a => .ok (put x a)).bind k) C := by
  simp only [Rs.bind_assoc]
  exact b_setF hi hp hc hv hz
theorem b_callC' {C : Con γ} {O : Own ρ} {j : Nat} {x : σ'} {tr : TA} {f : σ' × τ' → Rs ρ} {m : Rs τ'} {k : ρ → Rs γ} (hi : As[i]? = some (.ow P x)) (hj : j < As.length) (h : EvAr cm W tr As T m) (hz : ∀ r, Blk cm W tz ((As.set i .un).set j (.ow O r)) (k r) C) :
    Blk cm W (tSeq (tAsg (tCallS (spC cm P T O f) (WE W) (tCons (tVar i) tr)) (gName j)) tz) As ((m.bind fun y => f (x, y)).bind k) C := by
  rw [Rs.bind_assoc]
  exact b_callC hi hj h hz
end
section
variable {τ : Type} [DecidableEq τ] {T : HRel τ}
def datLi (E : HDat T) : Dat (RLi T) := ⟨fun x => .list (E.d x), E.n + 1, fun {K x B H v} s h => by
  obtain ⟨p, vs, rfl, hp, r⟩ := h
  exact .lst (.inl (.inl (s _ _ hp))) (E.at_ s r), fun x => by simp only [PyData.canLay0]; exact E.lay x, fun x => by
  simp only [PyData.depth]
  have := E.dep x
  omega, fun x y => by simp only [PyData.eqv]; exact E.eqv x y⟩
/-- an item of a list of given kinds, at a written place -/
theorem ev_ixli {α : Type} {cm : Nat → Addr} {W : WX} {As : List Sl} {K : PySem.W.Frag} {ta : TE} {R : Rel α} {m : Rs τ} {n i : Nat} {f : τ → α} {c : Int} (at_ : HAt T n i R f) (hc : c = (i : Int)) (ha : EvM cm W ta As (RLi T) m) : EvM cm W (tOp (rIxL K) ta (tC (.int c))) As R (m.bind fun x => .ok (f x)) := fun B0 H0 σ B H s Q q qe qn => by
  refine ha B0 H0 σ B H s _ (fun a ea v B1 H1 x1 r1 => ?_) (fun e he => qe e (by rw [he]; rfl)) (Rs.bind_ne qn)
  subst ea
  obtain ⟨p, vs, rfl, hp, pr⟩ := r1
  obtain ⟨_, u, hu, r⟩ := at_ pr
  refine ⟨p, vs, c, u, rfl, rfl, .inl (.inl (x1.s _ _ hp)), ?_, q _ rfl u B1 H1 x1 r⟩
  rw [hc]
  exact atI_nat hu
end
end Gd

namespace Gd
open PySem PySem.Spec PyProof.Rows L2
/-! ### tuple * 0 -/
theorem tuple_mul0 (l : Addr) (items : Array Value) (n : Nat) (dd : Option Addr) (sl : Array (Option Value)) (u : Tok) (hne : items.isEmpty = false) :
    Meets (Builtin.«tuple.__mul__» ⟨[.ref l, .int 0 u], []⟩) (fun _ R s => s.heap.get? l = some { cls := .type "tuple", dict := dd, data := .seq items n, slots := sl } ∧
      R (.ok (.ret (Value.ref s.heap.objs.size))) { s with heap := s.heap.push { cls := Value.type "tuple", data := Data.seq #[] }, toks := s.toks }) :=
  .of_wp fun prog w A R s h => by
    obtain ⟨hp, g, d, tk, os⟩ := s
    obtain ⟨hl, h⟩ := h
    have f1 := AutoSeq1.idx_int
    wp_walk using wpAny_loadPart' hl
    repeat (first
      | (refine wpAny_ite_false (decide_eq_false (by decide)) ?_; wp_walk using wpAny_loadPart' hl)
      | (refine wpAny_ite_false (decide_eq_false (by rw [hne]; decide)) ?_; wp_walk using wpAny_loadPart' hl)
      | (refine wpAny_ite_true (decide_eq_true (by simp)) ?_; wp_walk using wpAny_loadPart' hl)
      | (refine wpAny_ite_false (decide_eq_false (Nat.not_lt.mpr (Nat.zero_le _))) ?_; wp_walk using wpAny_loadPart' hl))
    exact ⟨_, rfl, h⟩
def rRep0 (K : PySem.W.Frag) : R2 := fun x y H Q => ∃ l xs, x = .ref l ∧ y = .int 0 ∧ SqT K H l xs ∧ xs ≠ [] ∧ ∀ p, H p = none → Q (.ref p) (upd H p (.tup []))
theorem op_rep0 {X : Cx} : OpR X (binaryOp .Mult) (rRep0 X.K) := by
  intro pins s σ H x y v u Q I rx ry h
  obtain ⟨l, xs, rfl, rfl, hT, hne, q⟩ := h
  cases rx
  obtain ⟨t, rfl⟩ := ry
  obtain ⟨its, r, ⟨⟨cls, dd, data, sl⟩, ho, hc, n, hd⟩, hs⟩ := I.tuple hT
  simp only at hc hd
  subst hc hd
  have hle : its.length = xs.length := r.length.symm
  have hi : its.toArray.isEmpty = false := by
    cases its with
    | nil => exact absurd (List.eq_nil_of_length_eq_zero hle.symm) hne
    | cons a b => rfl
  refine wpAny_binaryOp_repeat_ref (T := "tuple") (U := "int") (by decide) ⟨_, ho, rfl⟩ (fun s' => typeIs_int s' 0 t) noFill_tuple_mul F.fills_int_mul F.slot_int_rmul repeat_tuple F.slot_int_index.lookup
    (call_meets F.slot_int_rmul (typeIs_int s 0 t) F.entry_int_rmul (F.args_int_rmul_2 _ _) (int_rmul_tuple 0 t l its.toArray n dd sl)
      ⟨ho, rfl, ⟨_, ho, rfl⟩, call_meets F.slot_tuple_mul ⟨_, ho, rfl⟩ F.entry_tuple_mul (F.args_tuple_mul_2 _ _) (tuple_mul0 l its.toArray n dd sl t hi) ⟨ho, ?_⟩⟩)
  exact ⟨.ref s.heap.objs.size, _, I.laid (t' := s.toks) (o := .tup []) (fun b ob q => Heap.get?_push_of_some _ q) (Nat.le_refl _) ⟨Nat.zero_le _, [], .nil, IsTup.new _ _⟩, rfl, q _ (I.hok.fresh (Nat.le_refl _))⟩
def rRepB (K : PySem.W.Frag) : R2 := fun x y H Q => rRep0 K x y H Q ∨ rRepA K x y H Q
theorem op_repBK {X : Cx} {K : PySem.W.Frag} (hK : X.K = K) : OpR X (binaryOp .Mult) (rRepB K) := by
  subst hK
  intro pins s σ H x y v u Q I rx ry h
  rcases h with h | h
  · exact op_rep0 pins s σ H x y v u Q I rx ry h
  · exact op_repA pins s σ H x y v u Q I rx ry h
section
variable {α : Type} {R : Rel α} {K : PySem.W.Frag}
noncomputable def repT0R (xs : List α) (n : Int) : Rs (List α) := Rs.gd (0 < xs.length ∧ xs.length ≤ 1000 ∧ 0 ≤ n ∧ n ≤ 1000) (.ok (List.replicate n.toNat xs).flatten)
theorem repT0R_one {x : α} {n : Int} (h : 0 ≤ n ∧ n ≤ 1000) : repT0R [x] n = .ok (List.replicate n.toNat x) := by
  have e : (List.replicate n.toNat [x]).flatten = List.replicate n.toNat x := by
    generalize n.toNat = k
    induction k with
    | zero => rfl
    | succ k ih => rw [List.replicate_succ, List.flatten_cons, ih, List.replicate_succ]; rfl
  rw [← e]
  exact Rs.gd_pos ⟨by simp, by simp, h.1, h.2⟩
theorem oe_repT0 : OpE (rRepB K) (RT R) RI (RT R) (fun x y => repT0R x y) := fun {x y B H v u} s hx hy n => by
  obtain ⟨g1, g2, g3, g4⟩ := Rs.gd_ne n
  refine ⟨_, Rs.gd_pos ⟨g1, g2, g3, g4⟩, fun Q q => ?_⟩
  by_cases h0 : y = 0
  · obtain ⟨p, vs, rfl, hp, pr, hz⟩ := hx
    have hy' : u = .int y := hy
    subst h0
    refine .inl ⟨p, vs, rfl, hy', .inl (.inl (s _ _ hp)), fun e => ?_, fun p2 hp2 => q _ _ _ (Ext.new s hp2) ⟨p2, [], rfl, upd_same, .nil, Nat.zero_le _⟩⟩
    have hl := pairedLen pr
    rw [e] at hl
    simp at hl
    rw [hl] at g1
    cases g1
  · have g3' : 1 ≤ y := by omega
    obtain ⟨a, ea, k⟩ := (oe_repT (K := K) (R := R)) s hx hy (show repTR x y ≠ .no by unfold repTR; rw [Rs.gd_pos ⟨g1, g2, g3', g4⟩]; exact fun z => by cases z)
    refine .inr (k Q fun w B' H' x' r' => ?_)
    have : a = (List.replicate y.toNat x).flatten := by
      have ea' : repTR x y = .ok a := ea
      unfold repTR at ea'
      rw [Rs.gd_pos ⟨g1, g2, g3', g4⟩] at ea'
      cases ea'
      rfl
    subst this
    exact q w B' H' x' r'
end
/-! ### a def as a value -/
def RFn (f : Addr) : Rel Unit := ⟨fun _ _ v => v = .ref f, fun _ h => h⟩
def tCallLS (i : Nat) (f : Addr) (sp : Sp) (E : L2.St → XK) (t : TA) : TE := fun σ H Q => σ[i]? = some (some (.ref f)) ∧ t σ H fun vs H1 => sp vs H1 Q (E σ)
theorem pe_callLS {X : Cx} {CX : CXT} {k i : Nat} {f : Addr} {fd : FuncData} {ps : List Str} {sp : Sp} {E : L2.St → XK} {x : Str} {p pos : Pos} {e : Expr} {es : List Expr} {t : TA} (F : FnOk X.prog X.w X.K X.mg X.base CX k f fd ps sp) (hr : Room k X.A) (hN : X.N[i]? = some x) (hv : Vis X.env.scope x) (hk : PySem.W.keepIn X.K (.ref f) = true) (hb : Binds X.K fd ps []) (hx : ∀ σ, PassesAt CX X σ (E σ)) (ha : PA X (e :: es) t)
    (hdb : (x == ("__debug__" : Str)) = false := by decide) (hcd : (x == ("__classdict__" : Str)) = false := by decide)
    (he : starEach (e :: es) X.env = (false, eval e X.env) :: starEach es X.env := by rfl) (hpl : (backTo pos (starEach es X.env)).any (·.1) = false := by rfl) : PE X (.Call (.Name x p) (e :: es) [] pos) (tCallLS i f sp E t) := by
  refine ⟨fun pins s σ H Q I h => ?_⟩
  obtain ⟨hs, ht⟩ := h
  refine wpAny_Call_Name_kw (thn ((pe_var (pos := p) hN hv hdb hcd).run pins s σ H (fun v H1 => v = .ref f ∧ H1 = H) I ⟨.ref f, hs, rfl, rfl⟩) fun u s1 ⟨v, H1, I1, r1, q1⟩ => ?_)
  obtain ⟨rfl, rfl⟩ := q1
  cases r1
  refine PySem.W.callWith_K (h₀ := X.base) I.ok.mod.kin hk (thn (ha.run pos pins s1 σ _ _ I1 ht) fun us s2 ⟨vs, H2, I2, r, q⟩ => ⟨I2.kIn, ?_⟩) he hpl
  exact run_fnS F hr hb (hx σ) I2 r q
section
variable {cm : Nat → Addr} {W : WX} {As : List Sl} {K : PySem.W.Frag} {α β τ ρ : Type} {R : Rel α} {Rb : Rel β} {T : HRel τ} {Rr : Rel ρ} {ta te tz : TE} {i : Nat} {f : Addr}
theorem ev_fn : EvM cm W (tC (.ref f)) As (RFn f) (.ok ()) := fun _ _ _ B H s Q q _ _ => q () rfl _ B H (Ext.refl s.ext.s) rfl
theorem ev_callL {tr : TA} {g : τ → Rs ρ} {m : Rs τ} (hi : As[i]? = some (.fz (RFn f) ())) (h : EvAr cm W tr As T m) : EvM cm W (tCallLS i f (spT cm T Rr g) (WE W) tr) As Rr (m.bind g) := fun B0 H0 σ B H s Q q qe qn => by
  obtain ⟨v, ev, r⟩ := s.fz hi
  refine ⟨by rw [ev, show v = .ref f from r], ?_⟩
  exact ev_call h B0 H0 σ B H s Q q qe qn
/-- x[:2] of a tuple of five or so kinds, its first two alike -/
theorem ev_sl2 {m : Rs τ} {n : Nat} {g1 g2 : τ → α} (hn : 2 < n) (a1 : HAt T n 0 R g1) (a2 : HAt T n 1 R g2) (ha : EvM cm W ta As (RTu T) m) : EvM cm W (L2.tSl (rSlA K) ta tNoPart (tPart (tC (.int 2)))) As (RT R) (m.bind fun x => .ok [g1 x, g2 x]) := fun B0 H0 σ B H s Q q qe qn => by
  refine ha B0 H0 σ B H s _ (fun a ea v B1 H1 x1 r1 => ?_) (fun e he => qe e (by rw [he]; rfl)) (Rs.bind_ne qn)
  subst ea
  obtain ⟨p, vs, rfl, hp, pr⟩ := r1
  obtain ⟨l1, u1, e1, r1⟩ := a1 pr
  obtain ⟨_, u2, e2, r2⟩ := a2 pr
  have hv : vs = u1 :: u2 :: vs.drop 2 := by
    cases vs with
    | nil => simp at e1
    | cons a vs =>
      cases vs with
      | nil => simp at e2
      | cons b vs =>
        simp at e1 e2
        rw [e1, e2]
        rfl
  have h0 : HT.sIx vs.length 0 none = 0 := rfl
  have h2 : HT.sIx vs.length vs.length (some 2) = 2 := by
    rw [show (2 : Int) = ((2 : Nat) : Int) from rfl, HT.sIx_nat, l1]
    omega
  refine ⟨2, rfl, p, vs, rfl, .inl (.inl (x1.s _ _ hp)), fun hw => ?_, fun _ l hl => ?_⟩
  · rw [h2] at hw
    omega
  · have ec : cutV vs none (some 2) = [u1, u2] := by
      unfold cutV
      rw [h0, h2, hv]
      rfl
    rw [ec]
    exact q _ rfl _ _ _ (x1.trans (Ext.new x1.s hl)) ⟨l, _, rfl, upd_same, .cons (R.up (same_upd (x1.s.free hl)) r1) (.cons (R.up (same_upd (x1.s.free hl)) r2) .nil), by rw [sizeLine_eq]; show 2 ≤ 16777216; decide⟩
end
section
variable {cm : Nat → Addr} {K : PySem.W.Frag} {τ : Type} {T : HRel τ} {P : Program} {w : World} {mg : Str → Option Value} {base : Heap}
/-- a def that gives nothing -/
def CU : Con Unit := ⟨fun _ B0 H0 D => ∀ σ B H, Ext B0 H0 B H → D.nx σ H⟩
theorem b_endU {W : WX} {As : List Sl} : Blk cm W tNext As (.ok ()) CU := b_end rfl
theorem def_goU {x qual : Str} {st : Stmt} {fA : Addr} {fd : FuncData} {N ps : List Str} {k : Nat} {sl : τ → List Sl} {f : τ → Rs Unit} (F : Fun K x qual st fA fd) (S : FnScope N ps (defScope st)) (e : Ent T sl) (hl : ∀ x, (sl x).length = ps.length)
    (hb : ∀ (cdv : Value) (A : Around) (outer : List Env) (s : Shared) (H : Hp) (E : XK), Room k (A.deeper (envOfC qual (defScope st) s.heap.objs.size fA cdv)) →
      ∃ t, PSs (cxOf (L2.CX P w) P w K mg base N qual (defScope st) fA cdv A outer s H E) (defBody st) t ∧ ∀ x, Blk cm (fun cls d _ H => E cls d H) t (sl x ++ List.replicate (N.length - (sl x).length) .un) (f x) CU) :
    FnOk P w K mg base (L2.CX P w) (k + 1) fA fd ps (spT cm T RN f) := by
  refine F.okX S (fun vs H Q E h => ?_) (fun cdv A outer s H vs Q E hr h => ?_)
  · obtain ⟨B, x, _, hT, _⟩ := h
    rw [e.len hT, hl]
  · obtain ⟨B, x, hs, hT, q, qe, qn⟩ := h
    obtain ⟨t, ht, hbl⟩ := hb cdv A outer s H E hr
    exact ⟨t, ht, hbl x B H _ _ B H (st3_start e hT hs N) (fun r er σ B' H' x' => q r er .non B' H' x' rfl) (fun e he σ' H' hs' => qe e he H' hs') qn⟩
end
end Gd

/-! ### tuple(reversed(a tuple)) -/
namespace GdR
open PySem PySem.Spec PyProof.Rows _root_.RT
theorem nolen_rt : typeLookup (.type "reversed") "__len__" = pure none := by rw [typeLookup_type, builtinLookup_eq_fast]; kernel_rfl
theorem slot_rt_hint : Slot "reversed" "__length_hint__" "reversed.__length_hint__" :=
  .of (owner := "reversed") (n := "__length_hint__") (by rw [typeLookup_type, builtinLookup_eq_fast]; kernel_rfl) (by decide +kernel) (by decide +kernel) (by decide +kernel)
    (by first | exact .inl (by decide +kernel) | exact .inr (by decide +kernel)) (by rw [isSubtype_type]; kernel_rfl)
theorem entry_rt_hint : entryFor table "reversed.__length_hint__" = some Builtin.«reversed.__length_hint__» := entryFor_of_tree (by kernel_rfl)
theorem args_rt_hint (a : Value) : argsOk "reversed.__length_hint__" ⟨[a], []⟩ := by
  unfold argsOk; rw [signature?_of (id := "reversed.__length_hint__") (n := ['_', '_', 't', 'n', 'i', 'h', '_', 'h', 't', 'g', 'n', 'e', 'l', '_', '_']) (o := ['d', 'e', 's', 'r', 'e', 'v', 'e', 'r']) (by kernel_rfl) owner_rt]; kernel_rfl
section
variable {prog : Program} {w : World} {A : Around} {E : Value → Shared → Prop} {s : Shared}
theorem call_hint_rt {it t : Addr} {items : Array Value} {Q : Value → Shared → Prop} (hit : IsRt s.heap it t ((items.size : Int) - 1)) (ht : IsTup s.heap t items) (hfit : (items.size : Int) < 2 ^ 63)
    (h : ∀ tk tk2, Q (.int items.size tk) { s with toks := tk2 }) : wpAny (model prog w) A (call (.builtin "reversed.__length_hint__") [.ref it]) Q E s := by
  obtain ⟨o, ho, hc, hd⟩ := id hit
  refine wpAny_call_entry slot_rt_hint hit.typeIs entry_rt_hint ?_ (args_rt_hint _)
  unfold Builtin.«reversed.__length_hint__»
  refine wpAny_bind (wpAny_of_eq (a := Value.ref it) (by first | rfl | kernel_rfl) ?_)
  refine wpAny_bind (wpAny_field ho hd (x := .ref t) rfl ?_)
  rw [if_neg (by simp)]
  try dsimp only
  refine wpAny_bind (len_tuple ht hfit ?_)
  refine wpAny_bind (wpAny_of_eq (a := some ((items.size : Nat) : Int)) rfl ?_)
  try dsimp only
  refine wpAny_bind (wpAny_field (s := { s with toks := s.toks + 1 + 1 }) ho hd (x := rawInt ((items.size : Int) - 1)) rfl ?_)
  show wpAny _ _ (if ((items.size : Nat) : Int) < ((items.size : Int) - 1) + 1 then _ else retInt (((items.size : Int) - 1) + 1)) _ _ _
  rw [if_neg (by omega), show ((items.size : Int) - 1) + 1 = (items.size : Int) by omega]
  show wpAny _ _ (mkInt (items.size : Int) >>= fun v => ret v) _ _ _
  refine wpAny_bind (wpAny_mkInt ?_)
  exact wpAny_pure ⟨_, rfl, h _ _⟩
theorem hint_rt {it t : Addr} {items : Array Value} {Q : Bool → Shared → Prop} (hit : IsRt s.heap it t ((items.size : Int) - 1)) (ht : IsTup s.heap t items) (hn : items.size ≤ sizeLine)
    (h : ∀ tk2, Q ((items.size : Int) != 0) { s with toks := tk2 }) : wpAny (model prog w) A (Builtin.List.listLengthHint (.ref it)) Q E s := by
  have hT := hit.typeIs
  have hl := L2.line63
  unfold Builtin.List.listLengthHint
  refine wpAny_bind (wpAny_specialOf hT nolen_rt ?_)
  show wpAny _ A (specialOf (Value.ref it) (Str.ofString "__length_hint__") >>= _) _ _ _
  refine wpAny_bind (wpAny_specialOf hT slot_rt_hint.lookup ?_)
  generalize hid : ("reversed.__length_hint__" : String) = id0
  wp_delta
  rw [show splitId id0 = some ("reversed", "__length_hint__") from by subst hid; decide +kernel]
  subst hid
  refine wpAny_bind (wpAny_isInstance (b := true) hT (by rw [isSubtype_type]; kernel_rfl) ?_)
  rw [if_neg (by decide)]
  try dsimp only
  rw [if_neg (by decide +kernel)]
  refine wpAny_bind (wpAny_rule ?_)
  refine wpAny_bind (wpAny_of_eq (a := (Value.builtin "reversed.__length_hint__", [Value.ref it])) (by first | rfl | kernel_rfl) ?_)
  try dsimp only
  refine wpAny_bind (wpAny_attempt (call_hint_rt hit ht (by rw [sizeLine_eq] at hn; show ((items.size : Nat) : Int) < 9223372036854775808; omega) fun tk tk2 => ?_))
  try dsimp only
  have f1 : Builtin.List.listFitsIndex ((items.size : Nat) : Int) = true := by
    unfold Builtin.List.listFitsIndex
    rw [Bool.and_eq_true]
    have hq : ((items.size : Nat) : Int) < 9223372036854775808 := by rw [sizeLine_eq] at hn; omega
    exact ⟨decide_eq_true (by omega), decide_eq_true hq⟩
  have f2 : Builtin.List.listTooLong ((items.size : Nat) : Int).toNat = false := by
    unfold Builtin.List.listTooLong
    exact decide_eq_false (by rw [Int.toNat_natCast]; omega)
  have f3 : ¬ ((items.size : Nat) : Int) < 0 := by omega
  have hq' := h tk2
  generalize ((items.size : Nat) : Int) = k at f1 f2 f3 hq' ⊢
  generalize hF : Builtin.List.listFitsIndex k = F at f1 ⊢
  generalize hG : Builtin.List.listTooLong k.toNat = G at f2 ⊢
  refine wpAny_bind (wpAny_of_eq (a := some k) rfl ?_)
  try dsimp only
  rw [hF, hG]
  rw [if_neg (by rw [f1]; decide)]
  rw [if_neg f3]
  rw [if_neg (by rw [f2]; decide)]
  exact wpAny_pure hq'
theorem walks_rt (hh : A.handled = none) (I t : Addr) (hne : t ≠ I) (items : Array Value) (hsz : items.size ≤ sizeLine) :
    Walks prog w A I [I, t] [I] items.size (fun i v => items[items.size - 1 - i]? = some v) (fun i h => i ≤ items.size ∧ IsRt h I t ((items.size : Int) - 1 - (i : Int)) ∧ IsTup h t items) where
  sub := fun b hb => by simp at hb; simp [hb]
  frame := fun _ _ _ x hk => ⟨x.1, x.2.1.at fun o e => hk I (by simp) o e, let ⟨o, ho, r⟩ := x.2.2; ⟨o, hk t (by simp) o ho, r⟩⟩
  item := fun i s Q E hi x hQ => by
    have e : (items.size : Int) - 1 - (i : Int) = ((items.size - 1 - i : Nat) : Int) := by omega
    have hit := x.2.1
    rw [e] at hit
    have hx : items[items.size - 1 - i]? = some (items[items.size - 1 - i]'(by omega)) := Array.getElem?_eq_getElem (by omega)
    refine next_rt_item hit x.2.2 hx hsz fun h' hit' hs' => ?_
    have e2 : ((items.size - 1 - i : Nat) : Int) - 1 = (items.size : Int) - 1 - ((i + 1 : Nat) : Int) := by omega
    rw [e2] at hit'
    exact hQ _ h' (s.toks + 1) hx ⟨hi, hit', x.2.2.extBut hs'.extBut hne⟩ fun b o hb eo => hs'.extBut b o (fun h => hb (by simp [h])) eo
  done := fun s Q E x hQ => by
    have e : (items.size : Int) - 1 - (items.size : Int) = -1 := by omega
    have hit := x.2.1
    rw [e] at hit
    exact next_rt_end hh hit fun h' he' => hQ h' s.toks fun b o hb eo => he' b o (fun h => hb (by simp [h])) eo
  self := fun _ _ _ _ x hQ => iter_rt x.2.1 hQ
theorem collect_rt {it t : Addr} {items : Array Value} {Q : List Value → Shared → Prop} (hh : A.handled = none) (hit : IsRt s.heap it t ((items.size : Int) - 1)) (ht : IsTup s.heap t items) (hne : t ≠ it) (hn : items.size ≤ sizeLine)
    (hQ : ∀ (h' : Heap) (tk : Nat) (acc : Array Value), (∀ b o, b ≠ it → s.heap.get? b = some o → h'.get? b = some o) → ItemsOf (fun i v => items[items.size - 1 - i]? = some v) acc items.size → Q acc.toList { s with heap := h', toks := tk }) :
    wpAny (model prog w) A (collect (.ref it)) Q E s := by
  have W := (walks_rt (prog := prog) (w := w) (A := A.in1) hh it t hne items hn).toS
  obtain ⟨oi, hoi, _⟩ := id hit
  have hSi : s.heap.objs.size ≠ it := Nat.ne_of_gt (Heap.lt_size hoi)
  have hSl : s.heap.objs.size ≠ t := Nat.ne_of_gt ht.lt
  have hSf : s.heap.objs.size ∉ [it, t] := by simp only [List.mem_cons, List.not_mem_nil, or_false, not_or]; exact ⟨hSi, hSl⟩
  unfold collect
  refine wpAny_bind (wpAny_runValue (codeAny_builtin F.entry_proto_collect ?_))
  rw [Around.under_plainId F.plain_proto_collect _]
  show wpAny _ A.in1 (newList [] >>= fun l' => again (.builtin "list.__iadd__" ⟨[l', .ref it], []⟩)) _ _ s
  refine wpAny_bind (wpAny_newObj_type ?_)
  refine wpAny_pure ⟨plainId_quiet F.plain_list_iadd _, codeAny_builtin F.entry_list_iadd ?_⟩
  rw [Around.under_plainId F.plain_list_iadd _]
  obtain ⟨h1, eh1⟩ : ∃ h1, h1 = s.heap.push { cls := .type "list", data := .seq ([] : List Value).toArray } := ⟨_, rfl⟩
  have hS₁ : h1.get? s.heap.objs.size = some { cls := .type "list", data := .seq ([] : List Value).toArray } := by rw [eh1]; exact Heap.get?_push_size _ rfl
  have hit1 : IsRt h1 it t ((items.size : Int) - 1) := hit.at fun o e => by rw [eh1]; exact Heap.get?_push_of_some _ e
  have ht1 : IsTup h1 t items := by rw [eh1]; exact ht.push _
  have old1 : ∀ b o, s.heap.get? b = some o → h1.get? b = some o := fun b o e => by rw [eh1]; exact Heap.get?_push_of_some _ e
  rw [← eh1]
  have hT : ({ s with heap := h1 } : Shared).TypeIs (.ref it) "reversed" := IsRt.typeIs (s := { s with heap := h1 }) hit1
  have hx1 : Builtin.List.listSameRef (.ref s.heap.objs.size) (.ref it) = false := by simp [Builtin.List.listSameRef, hSi]
  show wpAny _ A.in1 (Builtin.List.listExtendWith (.ref s.heap.objs.size) (.ref it) (.ref s.heap.objs.size)) _ _ _
  unfold Builtin.List.listExtendWith
  refine wpAny_bind (wpAny_typeOf hT ?_)
  rw [if_neg (by rw [hx1]; decide)]
  refine wpAny_bind (iter_rt (s := { s with heap := h1 }) hit1 ?_)
  refine wpAny_bind (wpAny_holding ?_)
  refine hint_rt (s := { s with heap := h1 }) hit1 ht1 hn fun tk2 => ?_
  have e0 : ((items.size : Nat) : Int) - 1 - ((0 : Nat) : Int) = (items.size : Int) - 1 := by omega
  have fin : ∀ (h2 : Heap) (tk : Nat) (c : Nat), h2.get? s.heap.objs.size = some { cls := .type "list", data := .seq ([] : List Value).toArray c } → (∀ b o, b ≠ s.heap.objs.size → h1.get? b = some o → h2.get? b = some o) →
      codeAny (model prog w) A (.builtin "list.extend.loop" ⟨[.ref s.heap.objs.size, .ref it, .ref s.heap.objs.size], []⟩) (fun r s' => ∃ (h' : Heap) (tk' : Nat) (acc : Array Value) (c' : Nat), r = .ok (.ret (.ref s.heap.objs.size)) ∧ s' = { s with heap := h', toks := tk' } ∧ h'.get? s.heap.objs.size = some { cls := .type "list", dict := none, data := .seq acc c', slots := #[] } ∧
        (∀ b o, b ≠ it → s.heap.get? b = some o → h'.get? b = some o) ∧ ItemsOf (fun i v => items[items.size - 1 - i]? = some v) acc items.size) { s with heap := h2, toks := tk } := fun h2 tk c hS oth => by
    have hit2 : IsRt h2 it t ((items.size : Int) - 1 - ((0 : Nat) : Int)) := by rw [e0]; exact hit1.at fun o e => oth _ _ (Ne.symm hSi) e
    have ht2 : IsTup h2 t items := let ⟨o, ho, r⟩ := ht1; ⟨o, oth _ _ (Ne.symm hSl) ho, r⟩
    refine codeAny_extend_loopS W hn _ hSf _ items.size 0 ({ s with heap := h2, toks := tk } : Shared) #[] c rfl (Nat.zero_le _) ⟨Nat.zero_le _, hit2, ht2⟩ hS (ItemsOf.nil _) fun s' acc' c' hm hS' hacc => ?_
    refine ⟨s'.heap, s'.toks, acc', c', rfl, ?_, hS', fun b o hb e => ?_, hacc⟩
    · rw [Moved.eq_with hm]
    · refine hm.heap b o (fun hmem => ?_) (oth b o (fun z => ?_) (old1 b o e))
      · rcases List.mem_cons.mp hmem with e' | hmem
        · exact absurd (Heap.lt_size e) (by rw [e']; exact Nat.lt_irrefl _)
        · exact hb (List.mem_singleton.mp hmem)
      · exact absurd (Heap.lt_size e) (by rw [z]; exact Nat.lt_irrefl _)
  have last : ∀ (h' : Heap) (tk' : Nat) (acc : Array Value) (c' : Nat), h'.get? s.heap.objs.size = some { cls := .type "list", dict := none, data := .seq acc c', slots := #[] } → (∀ b o, b ≠ it → s.heap.get? b = some o → h'.get? b = some o) → ItemsOf (fun i v => items[items.size - 1 - i]? = some v) acc items.size →
      wpAny (model prog w) A (load s.heap.objs.size >>= fun o => match o.data with | .seq xs _ => pure xs.toList | _ => unsupported "internal:collect") Q E { s with heap := h', toks := tk' } := fun h' tk' acc c' hS ho hi => by
    refine wpAny_bind (wpAny_load hS ?_)
    exact wpAny_pure (hQ h' tk' acc ho hi)
  dsimp only
  cases hb : ((items.size : Int) != 0) with
  | false =>
    rw [if_neg (by decide +kernel)]
    refine wpAny_pure ⟨plainId_quiet F.plain_extend_loop _, codeAny_mono (fin h1 tk2 _ hS₁ fun _ _ _ e => e) ?_⟩
    rintro r s' ⟨h', tk', acc, c', rfl, rfl, hS, ho, hi⟩
    exact last h' tk' acc c' hS ho hi
  | true =>
    rw [if_pos (by simp)]
    refine wpAny_bind (wpAny_rule ?_)
    refine wpAny_bind ?_
    show wpAny _ A.in1 (updateSeq s.heap.objs.size (·.push .none) >>= fun _ => updateSeq s.heap.objs.size (·.pop)) _ _ _
    refine wpAny_bind (wpAny_updateSeq hS₁ rfl ?_)
    have hS₂ := Heap.get?_update_self (Obj.mapSeq (·.push Value.none)) hS₁ rfl
    refine wpAny_updateSeq hS₂ rfl ?_
    have hS₃ := Heap.get?_update_self (Obj.mapSeq (·.pop)) hS₂ rfl
    have oth : ∀ b o, b ≠ s.heap.objs.size → h1.get? b = some o → ((h1.update s.heap.objs.size (Obj.mapSeq (·.push Value.none))).update s.heap.objs.size (Obj.mapSeq (·.pop))).get? b = some o :=
      fun b o hb e => (Heap.get?_update_other _ _ (Ne.symm hb)).trans ((Heap.get?_update_other _ _ (Ne.symm hb)).trans e)
    refine wpAny_pure ⟨plainId_quiet F.plain_extend_loop _, codeAny_mono (fin _ tk2 _ hS₃ oth) ?_⟩
    rintro r s' ⟨h', tk', acc, c', rfl, rfl, hS, ho, hi⟩
    exact last h' tk' acc c' hS ho hi
theorem code_tuple_new_rt {it t : Addr} {items : Array Value} {Q₁ : Value → Shared → Prop} (hh : A.handled = none) (hit : IsRt s.heap it t ((items.size : Int) - 1)) (ht : IsTup s.heap t items) (hne : t ≠ it) (hn : items.size ≤ sizeLine)
    (h : ∀ (h' : Heap) (tk : Nat) (acc : Array Value), (∀ b o, b ≠ it → s.heap.get? b = some o → h'.get? b = some o) → ItemsOf (fun i v => items[items.size - 1 - i]? = some v) acc items.size →
      Q₁ (.ref h'.objs.size) { s with heap := h'.push { cls := .type "tuple", data := .seq acc }, toks := tk }) :
    codeAny (model prog w) A (.call (.builtin "tuple.__new__") ⟨[.type "tuple", .ref it], []⟩) (wants Q₁ E) s := by
  refine codeAny_of_tree ?_
  show wpAny _ A.in1 (do checkBuiltinCall "tuple.__new__" ⟨[.type "tuple", .ref it], []⟩; again (.builtin "tuple.__new__" ⟨[.type "tuple", .ref it], []⟩)) _ _ s
  refine wpAny_bind (wpAny_of_eq (F.newCall_tuple_1 _) (wpAny_pure ⟨plainId_quiet F.plain_tuple_new _, codeAny_builtin F.entry_tuple_new ?_⟩))
  rw [Around.under_plainId F.plain_tuple_new _]
  have hsub := sub_tuple_self
  have hinit := init_tuple_lookup
  have hmh := madeHere_tuple
  have hTI : s.TypeIs (.ref it) "reversed" := hit.typeIs
  have hh1 : A.in1.handled = none := hh
  wp_walk using wpAny_typeOf hTI, collect_rt (A := A.in1) hh1 hit ht hne hn
  intro h' tk acc hk hacc
  show wpAny _ _ (Builtin.Tuple.tupleExact acc.toList.toArray >>= fun v => ret v) _ _ _
  unfold Builtin.Tuple.tupleExact
  refine wpAny_bind (wpAny_newObj_type ?_ (by show acc.toList.toArray.size ≤ sizeLine; simp only [Array.toArray_toList]; rw [hacc.1]; exact hn))
  refine wpAny_pure ?_
  have e : acc.toList.toArray = acc := by simp
  rw [e]
  exact h h' tk acc hk hacc
theorem call_tuple_rt {it t : Addr} {items : Array Value} {Q : Value → Shared → Prop} (hh : A.handled = none) (hit : IsRt s.heap it t ((items.size : Int) - 1)) (ht : IsTup s.heap t items) (hne : t ≠ it) (hn : items.size ≤ sizeLine)
    (hQ : ∀ (h' : Heap) (tk : Nat) (acc : Array Value), (∀ b o, b ≠ it → s.heap.get? b = some o → h'.get? b = some o) → ItemsOf (fun i v => items[items.size - 1 - i]? = some v) acc items.size →
      Q (.ref h'.objs.size) { s with heap := h'.push { cls := .type "tuple", data := .seq acc }, toks := tk }) :
    wpAny (model prog w) A (call (.type "tuple") [.ref it]) Q E s := by
  refine callType_codes (Q₁ := fun obj s₁ => s₁.TypeIs obj "tuple" ∧ Q obj s₁) F.called_tuple (F.typeCall_tuple_1 _) F.entry_object_init
    (code_tuple_new_rt (A := A.in1) hh hit ht hne hn fun h' tk acc hk hacc => ⟨⟨_, Heap.get?_push_size _ rfl, rfl⟩, hQ h' tk acc hk hacc⟩) fun obj s₁ h₁ => ?_
  exact ⟨h₁.1, F.args_object_init_2 obj _, object_init_meets F.called_tuple.init.lookup F.called_tuple.made (by decide) prog w A.in1 _ s₁ ⟨h₁.1, rfl, h₁.2⟩⟩
end
end GdR
namespace Gd
open PySem PySem.Spec PyProof.Rows L2
def tTupRevT (K : PySem.W.Frag) (te : TE) : TE := fun σ H Q => te σ H fun v H1 => ∃ (a : Addr) (xs : List V), v = .ref a ∧ SqT K H1 a xs ∧ ∀ q, H1 q = none → Q (.ref q) (upd H1 q (.tup xs.reverse))
theorem pe_tupRevT {X : Cx} {e : Expr} {te : TE} {p p2 pos pos2 : Pos} (hc : X.calm = true) (hg : Gl X "tuple") (hm : X.mg "tuple" = none) (hg2 : Gl X "reversed") (hm2 : X.mg "reversed" = none) (he : PE X e te)
    (hs : starEach [e] X.env = (false, eval e X.env) :: starEach [] X.env := by rfl)
    (hs2 : starEach [.Call (.Name "reversed" p2) [e] [] pos2] X.env = (false, eval (.Call (.Name "reversed" p2) [e] [] pos2) X.env) :: starEach [] X.env := by rfl) :
    PE X (.Call (.Name "tuple" p) [.Call (.Name "reversed" p2) [e] [] pos2] [] pos) (tTupRevT X.K te) := by
  refine ⟨fun pins s σ H Q I h => ?_⟩
  refine Call_ (ld_blt I hg hm boot_tuple (PyProof.Rows.callWith_type1 (args_cons (Call_ (ld_blt I hg2 hm2 PyProof.Rows.boot_reversed (PyProof.Rows.callWith_type1 (args_cons (thn (he.run pins s σ H _ I h) fun u s1 ⟨v, H1, I1, r1, q1⟩ => args_nil ?_) hs) hs rfl))) hs2) hs2 rfl))
  obtain ⟨a, xs, ev, hq, q⟩ := q1
  subst ev
  obtain rfl : u = Value.ref a := r1
  obtain ⟨its, rv, p', hz⟩ := I1.tuple hq
  have hn : its.toArray.size ≤ sizeLine := by rw [List.size_toArray, ← rv.length]; exact hz
  have hl63 := line63
  refine _root_.RT.call_reversed_tup p' (fun A E Q k => len_tuple p' (by simp only [List.size_toArray] at hn ⊢; rw [sizeLine_eq] at hn; show ((its.length : Nat) : Int) < 9223372036854775808; omega) k) (args_nil ?_)
  have k0 : ∀ b o, s1.heap.get? b = some o → (s1.heap.push (_root_.RT.rtObj a ((its.toArray.size : Int) - 1))).get? b = some o := fun b o e => Heap.get?_push_of_some _ e
  have I2 : Inv X pins σ H1 { s1 with heap := s1.heap.push (_root_.RT.rtObj a ((its.toArray.size : Int) - 1)), toks := s1.toks + 1 + 1 } := I1.kept (t' := s1.toks + 1 + 1) k0
  obtain ⟨f0, f1, f2, f3, f4, f5⟩ := I1.fpOk (H' := H1) (b := s1.heap.objs.size) (Nat.le_refl _) (I1.hok.fresh (Nat.le_refl _))
  have hne : a ≠ s1.heap.objs.size := Nat.ne_of_lt p'.lt
  refine GdR.call_tuple_rt (s := { s1 with heap := s1.heap.push (_root_.RT.rtObj a ((its.toArray.size : Int) - 1)), toks := s1.toks + 1 + 1 }) (I1.ok.hd hc) ⟨_, Heap.get?_push_size _ rfl, rfl, rfl⟩ (p'.push _) hne hn fun h' tk acc hk hi => ?_
  have I3 : Inv X pins σ H1 { s1 with heap := h', toks := tk } := I2.turned (t' := tk) (fun b o hb e => hk b o hb e) f0 f1 f3 f4 f5
  refine ⟨.ref h'.objs.size, upd H1 h'.objs.size (.tup xs.reverse), I3.laid (t' := tk) (fun c o e => Heap.get?_push_of_some _ e) (Nat.le_refl _) (show ObjOk X.prog X.w _ _ _ (.tup xs.reverse) from ⟨by rw [List.length_reverse]; exact hz, acc.toList, _root_.RT.vals_rev rv hi, ?_⟩), rfl, q _ (I3.hok.fresh (Nat.le_refl _))⟩
  rw [Array.toArray_toList]
  exact IsTup.new _ _
section
variable {cm : Nat → Addr} {W : WX} {As : List Sl} {K : PySem.W.Frag} {α : Type} {R : Rel α} {ta : TE}
theorem ev_tuprevT {m : Rs (List α)} (ha : EvM cm W ta As (RT R) m) : EvM cm W (tTupRevT K ta) As (RT R) (m.bind fun x => .ok x.reverse) := fun B0 H0 σ B H s Q q qe qn => by
  refine ha B0 H0 σ B H s _ (fun a ea v B1 H1 x1 r1 => ?_) (fun e he => qe e (by rw [he]; rfl)) (Rs.bind_ne qn)
  subst ea
  obtain ⟨p, vs, rfl, hp, pr, hz⟩ := r1
  exact ⟨p, vs, rfl, .inl (.inl (x1.s _ _ hp)), fun l hl => q _ rfl _ _ _ (x1.trans (Ext.new x1.s hl)) ⟨l, _, rfl, upd_same, pairedUp (pairedRev pr) fun _ _ z => R.up (same_upd (x1.s.free hl)) z, by rw [List.length_reverse]; exact hz⟩⟩
end
end Gd

namespace Gd
open PySem
/-! ### plain lemmas about what defs come to -/
section
variable {α β γ S ρ : Type}
theorem gd_t {c : Prop} [Decidable c] {m : Rs α} (h : c) : Rs.gd c m = m := Rs.gd_pos h
theorem modR_ok {x y : Int} (h : 0 < y) : modR x y = .ok (x % y) := Rs.gd_pos h
theorem divR_ok {x y : Int} (h : 0 < y ∧ y < 340282366920938463463374607431768211456) : divR x y = .ok (x / y) := Rs.gd_pos h
theorem mulR_ok {x y : Int} (h : x.natAbs < 18446744073709551616 ∨ y.natAbs < 18446744073709551616) : mulR x y = .ok (x * y) := Rs.gd_pos h
theorem mulR_l {x y : Int} (h : -1000000000000000000 ≤ x ∧ x ≤ 1000000000000000000) : mulR x y = .ok (x * y) := mulR_ok (.inl (by omega))
theorem mulR_r {x y : Int} (h : -1000000000000000000 ≤ y ∧ y ≤ 1000000000000000000) : mulR x y = .ok (x * y) := mulR_ok (.inr (by omega))
/-- the item at a place -/
def gi [Inhabited α] (xs : List α) (i : Int) : α := xs[i.toNat]?.getD default
theorem pyIx_gi [Inhabited α] {xs : List α} {i : Int} (h0 : 0 ≤ i) (h1 : i < xs.length) : pyIx xs i = .ok (gi xs i) := by
  have hj : i.toNat < xs.length := by omega
  have e : xs[i.toNat]? = some xs[i.toNat] := List.getElem?_eq_getElem hj
  rw [pyIx_nat (j := i.toNat) (by omega) e]
  unfold gi
  rw [e]
  rfl
theorem gi_get [Inhabited α] {xs : List α} {i : Int} {a : α} (h : xs[i.toNat]? = some a) : gi xs i = a := by
  unfold gi
  rw [h]
  rfl
theorem gi_mem [Inhabited α] {xs : List α} {i : Int} (h0 : 0 ≤ i) (h1 : i < xs.length) : gi xs i ∈ xs := by
  have hj : i.toNat < xs.length := by omega
  rw [gi_get (List.getElem?_eq_getElem hj)]
  exact List.getElem_mem hj
theorem gi_nat [Inhabited α] {xs : List α} {j : Nat} {a : α} (h : xs[j]? = some a) : gi xs (j : Int) = a := gi_get (by rw [Int.toNat_natCast]; exact h)
theorem gi_map [Inhabited α] [Inhabited β] {xs : List α} {f : α → β} {i : Int} (h0 : 0 ≤ i) (h1 : i < xs.length) : gi (xs.map f) i = f (gi xs i) := by
  have hj : i.toNat < xs.length := by omega
  refine gi_get ?_
  rw [List.getElem?_map, List.getElem?_eq_getElem hj]
  show some _ = some _
  rw [gi_get (List.getElem?_eq_getElem hj)]
theorem pyIx_neg1 [Inhabited α] {xs : List α} (h : xs ≠ []) : pyIx xs (-1) = .ok (gi xs ((xs.length : Int) - 1)) := by
  have hp : 0 < xs.length := List.length_pos_iff.mpr h
  have e : L2.ixN xs.length (-1) = some (xs.length - 1) := by
    unfold L2.ixN
    rw [if_neg (by omega), if_pos (by omega)]
    congr 1
    omega
  rw [pyIx_eq, e]
  show Rs.op xs[xs.length - 1]? = _
  have hj : xs.length - 1 < xs.length := by omega
  rw [List.getElem?_eq_getElem hj]
  unfold gi
  rw [show ((xs.length : Int) - 1).toNat = xs.length - 1 by omega, List.getElem?_eq_getElem hj]
  rfl
/-! ranges -/
theorem mem_rng {lo hi x : Int} : x ∈ rng lo hi ↔ lo ≤ x ∧ x < hi := by
  unfold rng
  rw [List.mem_map]
  constructor
  · rintro ⟨i, hi', rfl⟩
    have := List.mem_range.mp hi'
    omega
  · intro ⟨h1, h2⟩
    exact ⟨(x - lo).toNat, List.mem_range.mpr (by omega), by omega⟩
theorem rng_nil {lo hi : Int} (h : hi ≤ lo) : rng lo hi = [] := by
  unfold rng
  rw [show (hi - lo).toNat = 0 by omega]
  rfl
theorem rng_cons {lo hi : Int} (h : lo < hi) : rng lo hi = lo :: rng (lo + 1) hi := by
  unfold rng
  rw [show (hi - lo).toNat = (hi - (lo + 1)).toNat + 1 by omega, List.range_succ_eq_map, List.map_cons, List.map_map]
  congr 1
  · simp
  · apply List.map_congr_left
    intro a _
    show lo + ((a + 1 : Nat) : Int) = lo + 1 + (a : Int)
    omega
theorem rng_snoc {lo hi : Int} (h : lo ≤ hi) : rng lo (hi + 1) = rng lo hi ++ [hi] := by
  unfold rng
  rw [show (hi + 1 - lo).toNat = (hi - lo).toNat + 1 by omega, List.range_succ, List.map_append]
  congr 1
  show [lo + (((hi - lo).toNat : Nat) : Int)] = [hi]
  congr 1
  omega
theorem gi_rng {lo hi i : Int} (h0 : 0 ≤ i) (h1 : i < hi - lo) : gi (rng lo hi) i = lo + i := by
  refine gi_get ?_
  rw [rng_get (by omega)]
  congr 1
  omega
theorem rngR_small {lo hi : Int} (h1 : -1000000 ≤ lo) (h2 : lo ≤ 1000000) (h3 : -1000000 ≤ hi) (h4 : hi ≤ 1000000) : rngR lo hi = .ok (rng lo hi) := rngR_ok (by omega)
theorem gi_rmap [Inhabited α] {f : Int → α} {n i : Int} (h0 : 0 ≤ i) (h1 : i < n) : gi ((rng 0 n).map f) i = f i := by
  rw [gi_map h0 (by rw [rng_len]; omega), gi_rng h0 (by omega)]
  congr 1
  omega
theorem rmap_len {f : Int → α} {n : Int} : ((rng 0 n).map f).length = n.toNat := by rw [List.length_map, rng_len]; simp
/-! loops -/
theorem foldR_app {f : S → α → Rs S} : ∀ {xs ys : List α} {s : S}, Rs.foldR f s (xs ++ ys) = (Rs.foldR f s xs).bind fun s' => Rs.foldR f s' ys
  | [], ys, s => rfl
  | x :: xs, ys, s => by
    show (f s x).bind _ = Rs.bind ((f s x).bind _) _
    rw [Rs.bind_assoc]
    cases h : f s x with
    | ok a =>
      show Rs.foldR f a (xs ++ ys) = _
      exact foldR_app
    | ex e => rfl
    | no => rfl
/-- a loop with a word of the turn -/
theorem foldR_inv {f : S → α → Rs S} {g : S → α → S} {xs : List α} (I : Nat → S → Prop) {s : S} (h0 : I 0 s) (hs : ∀ i x s, xs[i]? = some x → I i s → f s x = .ok (g s x) ∧ I (i + 1) (g s x)) :
    Rs.foldR f s xs = .ok (xs.foldl g s) ∧ I xs.length (xs.foldl g s) := by
  induction xs generalizing s I with
  | nil => exact ⟨rfl, h0⟩
  | cons x xs ih =>
    obtain ⟨e, h1⟩ := hs 0 x s rfl h0
    have := ih (fun i => I (i + 1)) h1 fun i y s' hy hi => hs (i + 1) y s' (by simpa using hy) hi
    show (f s x).bind _ = _ ∧ _
    rw [e]
    exact this
theorem foldR_ok {f : S → α → Rs S} {g : S → α → S} {xs : List α} (I : S → Prop) {s : S} (h0 : I s) (hs : ∀ x, x ∈ xs → ∀ s, I s → f s x = .ok (g s x) ∧ I (g s x)) :
    Rs.foldR f s xs = .ok (xs.foldl g s) ∧ I (xs.foldl g s) :=
  foldR_inv (fun _ => I) h0 fun i x s hx hi => hs x (List.mem_of_getElem? hx) s hi
/-- a loop whose end is told by the word alone -/
theorem foldR_ex {f : S → α → Rs S} {xs : List α} (I : Nat → S → Prop) {s : S} (h0 : I 0 s) (hs : ∀ i x s, xs[i]? = some x → I i s → ∃ s', f s x = .ok s' ∧ I (i + 1) s') :
    ∃ s', Rs.foldR f s xs = .ok s' ∧ I xs.length s' := by
  induction xs generalizing s I with
  | nil => exact ⟨s, rfl, h0⟩
  | cons x xs ih =>
    obtain ⟨s1, e, h1⟩ := hs 0 x s rfl h0
    obtain ⟨s2, e2, h2⟩ := ih (fun i => I (i + 1)) h1 fun i y s' hy hi => hs (i + 1) y s' (by simpa using hy) hi
    refine ⟨s2, ?_, h2⟩
    show (f s x).bind _ = _
    rw [e]
    exact e2
theorem foldR_rng {f : S → Int → Rs S} {n : Int} (I : Int → S → Prop) {s : S} (h0 : I 0 s) (hs : ∀ i s, 0 ≤ i → i < n → I i s → ∃ s', f s i = .ok s' ∧ I (i + 1) s') :
    ∃ s', Rs.foldR f s (rng 0 n) = .ok s' ∧ (0 ≤ n → I n s') ∧ (n ≤ 0 → s' = s) := by
  obtain ⟨s', e, h⟩ := foldR_ex (f := f) (xs := rng 0 n) (fun i s => I (i : Int) s) h0 fun i x s hx hi => by
    have hl := (List.getElem?_eq_some_iff.mp hx).1
    rw [rng_len] at hl
    rw [rng_get hl] at hx
    cases hx
    obtain ⟨s', e, h⟩ := hs (i : Int) s (by omega) (by omega) hi
    refine ⟨s', ?_, ?_⟩
    · rw [show (0 : Int) + (i : Int) = (i : Int) by omega]
      exact e
    · show I ((i + 1 : Nat) : Int) s'
      rw [show ((i + 1 : Nat) : Int) = (i : Int) + 1 by omega]
      exact h
  refine ⟨s', e, fun hn => ?_, fun hn => ?_⟩
  · rw [rng_len, show (((n - 0).toNat : Nat) : Int) = n by omega] at h
    exact h
  · rw [rng_nil hn] at e
    cases e
    rfl
/-- a for that searches, and finds nothing -/
theorem forF_go {f : S → α → Rs (Fl S ρ)} {xs : List α} {s : S} (h : ∀ x, x ∈ xs → f s x = .ok (.nx s)) : Rs.forF f s xs = .ok (.nx s) := by
  induction xs with
  | nil => rfl
  | cons x xs ih =>
    show (f s x).bind _ = _
    rw [h x List.mem_cons_self]
    exact ih fun y hy => h y (List.mem_cons_of_mem _ hy)
@[simp] theorem thn_nx {τ : Type} (s : S) (g : ρ → τ) (k : S → Rs τ) : Rs.thn (.ok (.nx s)) g k = k s := rfl
@[simp] theorem thn_rt {τ : Type} (r : ρ) (g : ρ → τ) (k : S → Rs τ) : Rs.thn (.ok (.rt r)) g k = .ok (g r) := rfl
@[simp] theorem thn_bk {τ : Type} (s : S) (g : ρ → τ) (k : S → Rs τ) : Rs.thn (.ok (.bk s)) g k = k s := rfl
/-- a while, by a word and a measure -/
theorem whR_inv {c : S → Rs Bool} {f : S → Rs S} (I : S → Prop) (μ : S → Nat) (hs : ∀ s, I s → ∃ b, c s = .ok b ∧ (b = true → ∃ s', f s = .ok s' ∧ I s' ∧ μ s' < μ s)) : ∀ {s : S}, I s → ∃ s', Rs.whR c f s = .ok s' ∧ I s' ∧ c s' = .ok false := by
  have go : ∀ n s, μ s ≤ n → I s → ∃ s', Rs.whR c f s = .ok s' ∧ I s' ∧ c s' = .ok false := by
    intro n
    induction n with
    | zero =>
      intro s hm hi
      obtain ⟨b, eb, hb⟩ := hs s hi
      cases b with
      | false => exact ⟨s, by rw [whR_step, eb]; rfl, hi, eb⟩
      | true =>
        obtain ⟨s', _, _, h⟩ := hb rfl
        omega
    | succ n ih =>
      intro s hm hi
      obtain ⟨b, eb, hb⟩ := hs s hi
      cases b with
      | false => exact ⟨s, by rw [whR_step, eb]; rfl, hi, eb⟩
      | true =>
        obtain ⟨s', e, h1, h2⟩ := hb rfl
        obtain ⟨s2, e2, h3, h4⟩ := ih s' (by omega) h1
        refine ⟨s2, ?_, h3, h4⟩
        rw [whR_step, eb]
        rw [Rs.bind_ok, if_pos rfl, e]
        exact e2
  intro s hi
  exact go (μ s) s (Nat.le_refl _) hi
theorem mapR_ok' {f : α → Rs β} {g : α → β} {xs : List α} (h : ∀ x, x ∈ xs → f x = .ok (g x)) : Rs.mapR f xs = .ok (xs.map g) := mapR_ok h
/-- each item comes to something -/
theorem mapR_ex {f : α → Rs β} (P : α → β → Prop) : ∀ {xs : List α}, (∀ x, x ∈ xs → ∃ y, f x = .ok y ∧ P x y) → ∃ ys, Rs.mapR f xs = .ok ys ∧ ys.length = xs.length ∧ ∀ (i : Nat) (x : α) (y : β), xs[i]? = some x → ys[i]? = some y → P x y
  | [], _ => ⟨[], rfl, rfl, fun i x y h => by simp at h⟩
  | x :: xs, h => by
    obtain ⟨y, e, p⟩ := h x List.mem_cons_self
    obtain ⟨ys, e2, hl, hp⟩ := mapR_ex P fun z hz => h z (List.mem_cons_of_mem _ hz)
    refine ⟨y :: ys, ?_, by rw [List.length_cons, List.length_cons, hl], fun i a b ha hb => ?_⟩
    · show (f x).noEx.bind _ = _
      rw [e]
      show (Rs.mapR f xs).bind _ = _
      rw [e2]
      rfl
    · cases i with
      | zero =>
        cases ha
        cases hb
        exact p
      | succ i => exact hp i a b (by simpa using ha) (by simpa using hb)
/-- what a value that is there is -/
def Rs.val [Inhabited α] (m : Rs α) : α := match m with
  | .ok a => a
  | _ => default
theorem val_ok [Inhabited α] {m : Rs α} {a : α} (h : m = .ok a) : m.val = a := by rw [h]; rfl
theorem ok_val [Inhabited α] {m : Rs α} (h : ∃ a, m = .ok a) : m = .ok m.val := by
  obtain ⟨a, rfl⟩ := h
  rfl
end
end Gd
namespace Gd
section
variable {α β γ S ρ τ : Type}
/-- a for over a range, then the rest -/
theorem forB {f : S → Int → Rs S} {k : S → Rs τ} {n : Int} {s : S} {P : Rs τ → Prop} (I : Int → S → Prop) (hn : 0 ≤ n) (h0 : I 0 s) (hs : ∀ i s, 0 ≤ i → i < n → I i s → ∃ s', f s i = .ok s' ∧ I (i + 1) s') (hk : ∀ s', I n s' → P (k s')) :
    P ((Rs.foldR f s (rng 0 n)).bind k) := by
  obtain ⟨s', e, h, _⟩ := foldR_rng (f := f) (n := n) I h0 hs
  rw [e]
  exact hk s' (h hn)
/-- a for over a list, then the rest -/
theorem forL {f : S → α → Rs S} {k : S → Rs τ} {xs : List α} {s : S} {P : Rs τ → Prop} (I : Nat → S → Prop) (h0 : I 0 s) (hs : ∀ (i : Nat) x s, xs[i]? = some x → I i s → ∃ s', f s x = .ok s' ∧ I (i + 1) s') (hk : ∀ s', I xs.length s' → P (k s')) :
    P ((Rs.foldR f s xs).bind k) := by
  obtain ⟨s', e, h⟩ := foldR_ex (f := f) (xs := xs) I h0 hs
  rw [e]
  exact hk s' h
/-- a for that searches and finds nothing, then the rest -/
theorem forN {f : S → α → Rs (Fl S ρ)} {g : ρ → τ} {k : S → Rs τ} {xs : List α} {s : S} {P : Rs τ → Prop} (hs : ∀ x, x ∈ xs → f s x = .ok (.nx s)) (hk : P (k s)) : P (Rs.thn (Rs.forF f s xs) g k) := by
  rw [forF_go hs]
  exact hk
/-- a while, then the rest -/
theorem whB {c : S → Rs Bool} {f : S → Rs S} {k : S → Rs τ} {s : S} {P : Rs τ → Prop} (I : S → Prop) (μ : S → Nat) (h0 : I s) (hs : ∀ s, I s → ∃ b, c s = .ok b ∧ (b = true → ∃ s', f s = .ok s' ∧ I s' ∧ μ s' < μ s)) (hk : ∀ s', I s' → c s' = .ok false → P (k s')) :
    P ((Rs.whR c f s).bind k) := by
  obtain ⟨s', e, h, hc⟩ := whR_inv I μ hs h0
  rw [e]
  exact hk s' h hc
end
end Gd
namespace Gd
section
variable {α : Type}
/-- the first place of an item -/
def ixo [DecidableEq α] (xs : List α) (x : α) : Nat := xs.idxOf x
theorem ixo_lt [DecidableEq α] {xs : List α} {x : α} (h : x ∈ xs) : ixo xs x < xs.length := List.idxOf_lt_length_of_mem h
theorem ixo_get [DecidableEq α] {xs : List α} {x : α} (h : x ∈ xs) : xs[ixo xs x]? = some x := by
  rw [List.getElem?_eq_getElem (ixo_lt h)]
  exact congrArg some (List.getElem_idxOf (ixo_lt h))
theorem gi_ixo [Inhabited α] [DecidableEq α] {xs : List α} {x : α} (h : x ∈ xs) : gi xs (ixo xs x : Int) = x := gi_nat (ixo_get h)
theorem indexR_ok [DecidableEq α] {xs : List α} {x : α} (h : x ∈ xs) : indexR xs x = .ok (ixo xs x : Int) := Rs.gd_pos h
theorem ixo_app [DecidableEq α] {xs ys : List α} {x : α} (h : x ∈ xs) : ixo (xs ++ ys) x = ixo xs x := by
  unfold ixo
  rw [List.idxOf_append, if_pos h]
theorem ixo_new [DecidableEq α] {xs : List α} {x : α} (h : x ∉ xs) : ixo (xs ++ [x]) x = xs.length := by
  unfold ixo
  rw [List.idxOf_append, if_neg h]
  simp
theorem inL_t [DecidableEq α] {x : α} {xs : List α} (h : x ∈ xs) : inL x xs = true := decide_eq_true h
theorem inL_f [DecidableEq α] {x : α} {xs : List α} (h : x ∉ xs) : inL x xs = false := decide_eq_false h
theorem gi_app_l [Inhabited α] {xs ys : List α} {i : Int} (h0 : 0 ≤ i) (h1 : i < xs.length) : gi (xs ++ ys) i = gi xs i := by
  unfold gi
  rw [List.getElem?_append_left (by omega)]
theorem gi_app_last [Inhabited α] {xs : List α} {x : α} : gi (xs ++ [x]) (xs.length : Int) = x := by
  unfold gi
  rw [Int.toNat_natCast, List.getElem?_append_right (Nat.le_refl _), Nat.sub_self]
  rfl
theorem gi_cons [Inhabited α] {x : α} {xs : List α} {i : Int} (h0 : 0 ≤ i) : gi (x :: xs) (1 + i) = gi xs i := by
  unfold gi
  rw [show (1 + i).toNat = i.toNat + 1 by omega, List.getElem?_cons_succ]
theorem nodup_sub_len [DecidableEq α] : ∀ {l m : List α}, l.Nodup → (∀ x, x ∈ l → x ∈ m) → l.length ≤ m.length
  | [], m, _, _ => Nat.zero_le _
  | x :: l, m, hn, hs => by
    obtain ⟨h1, h2⟩ := List.nodup_cons.mp hn
    have hx : x ∈ m := hs x List.mem_cons_self
    have ih := nodup_sub_len (l := l) (m := m.erase x) h2 fun y hy => (List.mem_erase_of_ne (fun e => h1 (by rw [← e]; exact hy))).mpr (hs y (List.mem_cons_of_mem _ hy))
    rw [List.length_erase_of_mem hx] at ih
    have : 0 < m.length := List.length_pos_of_mem hx
    rw [List.length_cons]
    omega
/-- dicts -/
theorem dget_put {κ : Type} [DecidableEq κ] (d : List (κ × α)) (k j : κ) (a : α) : dget (dput d k a) j = if j = k then some a else dget d j := by
  unfold dput
  split
  · rename_i hk
    have : ∀ d : List (κ × α), (d.any fun kv => decide (kv.1 = k)) = true ∨ j ≠ k → dget (d.map fun kv => if kv.1 = k then (kv.1, a) else kv) j = if j = k then some a else dget d j := by
      intro d
      induction d with
      | nil =>
        intro h
        rcases h with h | h
        · simp at h
        · rw [if_neg h]; rfl
      | cons p d ih =>
        intro h
        unfold dget
        rw [List.map_cons, List.find?_cons, List.find?_cons]
        by_cases hp : p.1 = k
        · simp only [if_pos hp]
          by_cases hj : j = k
          · subst hj
            simp [hp]
          · have e : ¬ p.1 = j := fun z => hj (z.symm.trans hp)
            simp only [decide_eq_false e, if_neg hj]
            have := ih (.inr hj)
            unfold dget at this
            rw [if_neg hj] at this
            exact this
        · simp only [if_neg hp]
          by_cases hj : p.1 = j
          · have hjk : ¬ j = k := fun z => hp (hj.trans z)
            simp [hj, hjk]
          · simp only [decide_eq_false hj]
            refine ih ?_
            rcases h with h | h
            · rw [List.any_cons, decide_eq_false hp, Bool.false_or] at h
              exact .inl h
            · exact .inr h
    exact this d (.inl hk)
  · rename_i hk
    unfold dget
    rw [List.find?_append]
    by_cases hj : j = k
    · subst hj
      rw [if_pos rfl]
      have : d.find? (fun kv => decide (kv.1 = j)) = none := by
        rw [List.find?_eq_none]
        intro x hx hq
        exact hk (List.any_eq_true.mpr ⟨x, hx, hq⟩)
      rw [this]
      simp
    · rw [if_neg hj]
      have e : ¬ k = j := fun z => hj z.symm
      cases h : d.find? (fun kv => decide (kv.1 = j)) with
      | some x => simp
      | none => simp [e]
theorem dput_len_new {κ : Type} [DecidableEq κ] {d : List (κ × α)} {k : κ} {a : α} (h : dget d k = none) : dput d k a = d ++ [(k, a)] := by
  unfold dput
  rw [if_neg]
  intro hq
  obtain ⟨x, hx, hk⟩ := List.any_eq_true.mp hq
  unfold dget at h
  have := List.find?_eq_none.mp (Option.map_eq_none_iff.mp h) x hx
  exact this hk
end
end Gd

namespace Gd
open PySem PySem.Spec PyProof.Rows L2
def topS (i : Nat) : Stmt := PySem.Challenge.pw_guesswide_k66_less_times_back.main.body.getD i (.Pass ⟨0, 0, 0, 0⟩)
def exSub (k e : Nat) : Bool := match k, e with
  | 1, 2 => true
  | 1, 3 => true
  | 1, _ => true
  | 2, 2 => true
  | 2, 3 => false
  | 2, _ => false
  | 3, 2 => false
  | 3, 3 => true
  | 3, _ => false
  | _, _ => false
structure Txt (K : PySem.W.Frag) (mg : Str → Option Value) (cm ad : Nat → Addr) (fdn : Nat → FuncData) : Prop where
  F_is_word : Fun K "is_word" "is_word" (topS 5) (ad 5) (fdn 5)
  g_is_word : mg "is_word" = some (.ref (ad 5))
  b_is_word : Binds K (fdn 5) ["letters", "word"] []
  F_scaled : Fun K "scaled" "scaled" (topS 7) (ad 7) (fdn 7)
  g_scaled : mg "scaled" = some (.ref (ad 7))
  b_scaled : Binds K (fdn 7) ["p", "factor", "row"] []
  F_added : Fun K "added" "added" (topS 8) (ad 8) (fdn 8)
  g_added : mg "added" = some (.ref (ad 8))
  b_added : Binds K (fdn 8) ["p", "row", "other"] []
  F_product : Fun K "product" "product" (topS 9) (ad 9) (fdn 9)
  g_product : mg "product" = some (.ref (ad 9))
  b_product : Binds K (fdn 9) ["p", "row", "other"] []
  F_made_of : Fun K "made_of" "made_of" (topS 11) (ad 11) (fdn 11)
  g_made_of : mg "made_of" = some (.ref (ad 11))
  b_made_of : Binds K (fdn 11) ["p", "rows", "parts", "size"] []
  F_row_behind : Fun K "row_behind" "row_behind" (topS 14) (ad 14) (fdn 14)
  g_row_behind : mg "row_behind" = some (.ref (ad 14))
  b_row_behind : Binds K (fdn 14) ["house", "word"] []
  F_worth : Fun K "worth" "worth" (topS 15) (ad 15) (fdn 15)
  g_worth : mg "worth" = some (.ref (ad 15))
  b_worth : Binds K (fdn 15) ["house", "word"] []
  F_ask_like : Fun K "ask_like" "ask_like" (topS 16) (ad 16) (fdn 16)
  g_ask_like : mg "ask_like" = some (.ref (ad 16))
  b_ask_like : Binds K (fdn 16) ["house", "other"] []
  F_joined_sums : Fun K "joined_sums" "joined_sums" (topS 17) (ad 17) (fdn 17)
  g_joined_sums : mg "joined_sums" = some (.ref (ad 17))
  b_joined_sums : Binds K (fdn 17) ["house", "other"] []
  F_sums_less : Fun K "sums_less" "sums_less" (topS 18) (ad 18) (fdn 18)
  g_sums_less : mg "sums_less" = some (.ref (ad 18))
  b_sums_less : Binds K (fdn 18) ["house", "other"] []
  F_crossed_row : Fun K "crossed_row" "crossed_row" (topS 19) (ad 19) (fdn 19)
  g_crossed_row : mg "crossed_row" = some (.ref (ad 19))
  b_crossed_row : Binds K (fdn 19) ["p", "row", "other"] []
  F_sums_times : Fun K "sums_times" "sums_times" (topS 20) (ad 20) (fdn 20)
  g_sums_times : mg "sums_times" = some (.ref (ad 20))
  b_sums_times : Binds K (fdn 20) ["house", "other"] []
  F_table_column : Fun K "table_column" "table_column" (topS 21) (ad 21) (fdn 21)
  g_table_column : mg "table_column" = some (.ref (ad 21))
  b_table_column : Binds K (fdn 21) ["table", "at"] []
  F_sums_back : Fun K "sums_back" "sums_back" (topS 22) (ad 22) (fdn 22)
  g_sums_back : mg "sums_back" = some (.ref (ad 22))
  b_sums_back : Binds K (fdn 22) ["house"] []
  F__law_cell : Fun K "_law_cell" "_law_cell" (topS 24) (ad 24) (fdn 24)
  g__law_cell : mg "_law_cell" = some (.ref (ad 24))
  b__law_cell : Binds K (fdn 24) ["script", "k"] []
  F__law_is_prime : Fun K "_law_is_prime" "_law_is_prime" (topS 25) (ad 25) (fdn 25)
  g__law_is_prime : mg "_law_is_prime" = some (.ref (ad 25))
  b__law_is_prime : Binds K (fdn 25) ["number"] []
  F__law_prime : Fun K "_law_prime" "_law_prime" (topS 26) (ad 26) (fdn 26)
  g__law_prime : mg "_law_prime" = some (.ref (ad 26))
  b__law_prime : Binds K (fdn 26) ["cell"] []
  F__law_whole : Fun K "_law_whole" "_law_whole" (topS 27) (ad 27) (fdn 27)
  g__law_whole : mg "_law_whole" = some (.ref (ad 27))
  b__law_whole : Binds K (fdn 27) ["found"] []
  F__law_number : Fun K "_law_number" "_law_number" (topS 28) (ad 28) (fdn 28)
  g__law_number : mg "_law_number" = some (.ref (ad 28))
  b__law_number : Binds K (fdn 28) ["script", "k", "p"] []
  F__law_row : Fun K "_law_row" "_law_row" (topS 29) (ad 29) (fdn 29)
  g__law_row : mg "_law_row" = some (.ref (ad 29))
  b__law_row : Binds K (fdn 29) ["script", "at", "many", "p"] []
  F__law_row_is : Fun K "_law_row_is" "_law_row_is" (topS 30) (ad 30) (fdn 30)
  g__law_row_is : mg "_law_row_is" = some (.ref (ad 30))
  b__law_row_is : Binds K (fdn 30) ["found", "due"] []
  F__law_house : Fun K "_law_house" "_law_house" (topS 31) (ad 31) (fdn 31)
  g__law_house : mg "_law_house" = some (.ref (ad 31))
  b__law_house : Binds K (fdn 31) ["script", "at", "p", "letters", "many"] []
  F__law_step : Fun K "_law_step" "_law_step" (topS 32) (ad 32) (fdn 32)
  g__law_step : mg "_law_step" = some (.ref (ad 32))
  b__law_step : Binds K (fdn 32) ["p", "row", "table"] []
  F__law_times : Fun K "_law_times" "_law_times" (topS 33) (ad 33) (fdn 33)
  g__law_times : mg "_law_times" = some (.ref (ad 33))
  b__law_times : Binds K (fdn 33) ["p", "one", "two"] []
  F__law_behind : Fun K "_law_behind" "_law_behind" (topS 34) (ad 34) (fdn 34)
  g__law_behind : mg "_law_behind" = some (.ref (ad 34))
  b__law_behind : Binds K (fdn 34) ["house", "word"] []
  F__law_word : Fun K "_law_word" "_law_word" (topS 35) (ad 35) (fdn 35)
  g__law_word : mg "_law_word" = some (.ref (ad 35))
  b__law_word : Binds K (fdn 35) ["script", "letters", "most"] []
  F__law_house_is : Fun K "_law_house_is" "_law_house_is" (topS 36) (ad 36) (fdn 36)
  g__law_house_is : mg "_law_house_is" = some (.ref (ad 36))
  b__law_house_is : Binds K (fdn 36) ["found", "due"] []
  F__law_less : Fun K "_law_less" "_law_less" (topS 37) (ad 37) (fdn 37)
  g__law_less : mg "_law_less" = some (.ref (ad 37))
  b__law_less : Binds K (fdn 37) ["one", "two"] []
  F__law_cross : Fun K "_law_cross" "_law_cross" (topS 38) (ad 38) (fdn 38)
  g__law_cross : mg "_law_cross" = some (.ref (ad 38))
  b__law_cross : Binds K (fdn 38) ["p", "one", "two"] []
  F__law_times_of : Fun K "_law_times_of" "_law_times_of" (topS 39) (ad 39) (fdn 39)
  g__law_times_of : mg "_law_times_of" = some (.ref (ad 39))
  b__law_times_of : Binds K (fdn 39) ["one", "two"] []
  F__law_back : Fun K "_law_back" "_law_back" (topS 40) (ad 40) (fdn 40)
  g__law_back : mg "_law_back" = some (.ref (ad 40))
  b__law_back : Binds K (fdn 40) ["house"] []
  F__law_blank : Fun K "_law_blank" "_law_blank" (topS 41) (ad 41) (fdn 41)
  g__law_blank : mg "_law_blank" = some (.ref (ad 41))
  b__law_blank : Binds K (fdn 41) ["p", "many"] []
  F__law_refused : Fun K "_law_refused" "_law_refused" (topS 42) (ad 42) (fdn 42)
  g__law_refused : mg "_law_refused" = some (.ref (ad 42))
  b__law_refused : Binds K (fdn 42) ["deed", "one", "two"] []
  F__law_refused_by_any : Fun K "_law_refused_by_any" "_law_refused_by_any" (topS 43) (ad 43) (fdn 43)
  g__law_refused_by_any : mg "_law_refused_by_any" = some (.ref (ad 43))
  b__law_refused_by_any : Binds K (fdn 43) ["deed", "one", "two"] []
  F__law_edges : Fun K "_law_edges" "_law_edges" (topS 44) (ad 44) (fdn 44)
  g__law_edges : mg "_law_edges" = some (.ref (ad 44))
  b__law_edges : Binds K (fdn 44) ["p", "cell"] []
  F__law_worth : Fun K "_law_worth" "_law_worth" (topS 45) (ad 45) (fdn 45)
  g__law_worth : mg "_law_worth" = some (.ref (ad 45))
  b__law_worth : Binds K (fdn 45) ["house", "word"] []
  F__law_values : Fun K "_law_values" "_law_values" (topS 46) (ad 46) (fdn 46)
  g__law_values : mg "_law_values" = some (.ref (ad 46))
  b__law_values : Binds K (fdn 46) ["one", "two", "word"] []
  F__law_unlike : Fun K "_law_unlike" "_law_unlike" (topS 47) (ad 47) (fdn 47)
  g__law_unlike : mg "_law_unlike" = some (.ref (ad 47))
  b__law_unlike : Binds K (fdn 47) ["deed", "one", "two", "cell"] []
  F_law : Fun K "law" "law" (topS 48) (ad 48) (fdn 48)
  g_law : mg "law" = some (.ref (ad 48))
  b_law : Binds K (fdn 48) ["script"] []
  z_ValueError : mg "ValueError" = none
  z_bool : mg "bool" = none
  z_int : mg "int" = none
  z_isinstance : mg "isinstance" = none
  z_len : mg "len" = none
  z_max : mg "max" = none
  z_min : mg "min" = none
  z_range : mg "range" = none
  z_reversed : mg "reversed" = none
  z_sum : mg "sum" = none
  z_tuple : mg "tuple" = none
  c_WIDEST : ∃ t, mg "WIDEST" = some (.int 16 t)
  gx_AskError : mg "AskError" = some (.ref (cm 1))
  kx_AskError : PySem.W.keepIn K (.ref (cm 1)) = true
  bx_AskError : PySem.W.subIn K (.ref (cm 1)) (.type "BaseException") = some true
  tx_AskError : PySem.W.typeIn K (.ref (cm 1)) = some (.type "type")
  x_AskError : PySem.W.excIn K (cm 1) [.type "ValueError", .type "Exception", .type "BaseException", .type "object"] "ValueError.__new__" = true
  gx_BadHouse : mg "BadHouse" = some (.ref (cm 2))
  kx_BadHouse : PySem.W.keepIn K (.ref (cm 2)) = true
  bx_BadHouse : PySem.W.subIn K (.ref (cm 2)) (.type "BaseException") = some true
  tx_BadHouse : PySem.W.typeIn K (.ref (cm 2)) = some (.type "type")
  x_BadHouse : PySem.W.excIn K (cm 2) [.type "ValueError", .type "Exception", .type "BaseException", .type "object"] "ValueError.__new__" = true
  gx_BadWord : mg "BadWord" = some (.ref (cm 3))
  kx_BadWord : PySem.W.keepIn K (.ref (cm 3)) = true
  bx_BadWord : PySem.W.subIn K (.ref (cm 3)) (.type "BaseException") = some true
  tx_BadWord : PySem.W.typeIn K (.ref (cm 3)) = some (.type "type")
  x_BadWord : PySem.W.excIn K (cm 3) [.type "ValueError", .type "Exception", .type "BaseException", .type "object"] "ValueError.__new__" = true
  em_AskError : ∀ e, PySem.W.exmOne K (.ref (cm e)) (.ref (cm 1)) = some (exSub 1 e)
  ek_AskError : ∀ e, PySem.W.kitOne K (.ref (cm e)) (.ref (cm 1)) = some (exSub 1 e)
  em_BadHouse : ∀ e, PySem.W.exmOne K (.ref (cm e)) (.ref (cm 2)) = some (exSub 2 e)
  ek_BadHouse : ∀ e, PySem.W.kitOne K (.ref (cm e)) (.ref (cm 2)) = some (exSub 2 e)
  em_BadWord : ∀ e, PySem.W.exmOne K (.ref (cm e)) (.ref (cm 3)) = some (exSub 3 e)
  ek_BadWord : ∀ e, PySem.W.kitOne K (.ref (cm e)) (.ref (cm 3)) = some (exSub 3 e)
  ev : ∀ e, PySem.W.kitOne K (.ref (cm e)) (.type "ValueError") = some true
  ec : ∀ e, ExcC K (cm e)
/-! ### is_word -/
abbrev s_is_word : Stmt := topS 5
theorem sc_is_word : FnScope ["letters", "word", "letter"] ["letters", "word"] (defScope s_is_word) := ⟨rfl, rfl, rfl, by decide +kernel, rfl, by decide +kernel, by decide +kernel⟩
noncomputable def m_is_word (letters : Int) (word : (List Int)) : Rs Bool :=
  ((Rs.ok word).bind fun xs => Rs.thn (Rs.forF (fun (s : Unit) letter =>
  ((Rs.or (Rs.b2 (Rs.ok letter) (Rs.ok (0 : Int)) fun x y => .ok (decide (x < y))) (Rs.b2 (Rs.ok letter) (Rs.ok letters) fun x y => .ok (decide (y ≤ x)))).bind fun b => if b = true then (Rs.ok false).bind (fun r => .ok (Fl.rt r)) else
  (Rs.ok (Fl.nx ())))) () xs) (fun r => r) fun s =>
  (Rs.ok true))
noncomputable def f_is_word (letters : Int) (word : (List Int)) : Rs Bool := Rs.cl (m_is_word letters word)
theorem f_is_word_eq (letters : Int) (word : (List Int)) : f_is_word letters word = m_is_word letters word := Rs.cl_eq _
def G_is_word (P : Program) (w : World) (K : PySem.W.Frag) (mg : Str → Option Value) (base : Heap) (cm ad : Nat → Addr) (fdn : Nat → FuncData) : Prop := FnOk P w K mg base (L2.CX P w) 1 (ad 5) (fdn 5) ["letters", "word"] (spT cm (HC RI (Gd.H1 (RT RI))) RB (fun (p : (Int × (List Int))) => f_is_word p.1 p.2))
theorem ok_is_word {P : Program} {w : World} {K : PySem.W.Frag} {mg : Str → Option Value} {base : Heap} {cm ad : Nat → Addr} {fdn : Nat → FuncData} (T : Txt K mg cm ad fdn)  : G_is_word P w K mg base cm ad fdn := by
  refine def_go T.F_is_word sc_is_word (ent_cons ent_one) (fun _ => rfl) (fun cdv A outer s H E hr => ⟨_, (pss_cons (ps_for pass_of rfl (pi_tupK (K := K) rfl (pv 1)) (pg_name (i := 2) sc_is_word.nd rfl (by first | exact .inl rfl | exact .inr rfl)) (pss_cons (ps_if (PW.pt (pw_or (pt_cmpR op_lt (pv 2) pe_int (nomark _)) (pw_or1 (pt_cmpR op_ge (pv 2) (pv 0) (nomark _))))) (pss_cons (ps_ret pe_bl) pss_nil) pss_nil) pss_nil)) (pss_cons (ps_ret pe_bl) pss_nil)), ?_⟩)
  suffices hb : ∀ (letters : Int) (word : (List Int)), Blk cm (fun cls d _ H => E cls d H) _ [.fz RI letters, .fz (RT RI) word, .un] (f_is_word letters word) (CR RB) from fun p => hb p.1 p.2
  intro letters word
  rw [f_is_word_eq]
  unfold m_is_word
  exact (b_forF (S := Unit) (Inv := (fun s => [.fz RI letters, .fz (RT RI) word, .un])) up_r (wi_tup (ev_var (i := 1) rfl)) (eg_name 2) (.k (.k (.u .nil))) (fun s letter => (b_ifF (et_or (et_cmp (ev_b2 oe_lt (ev_var (i := 2) rfl) ev_int)) (et_cmp (ev_b2 oe_ge (ev_var (i := 2) rfl) (ev_var (i := 0) rfl)))) (b_ret ev_bl) (b_nilF (.k (.k (.u .nil)))))) fun s => (b_ret ev_bl))
/-! ### scaled -/
abbrev s_scaled : Stmt := topS 7
theorem sc_scaled : FnScope ["p", "factor", "row", "number"] ["p", "factor", "row"] (defScope s_scaled) := ⟨rfl, rfl, rfl, by decide +kernel, rfl, by decide +kernel, by decide +kernel⟩
noncomputable def m_scaled (p : Int) (factor : Int) (row : (List Int)) : Rs (List Int) :=
  ((Rs.ok row).bind fun xs => Rs.mapR (fun x => (Rs.b2 (Rs.b2 (Rs.ok factor) (Rs.ok x) mulR) (Rs.ok p) modR)) xs)
noncomputable def f_scaled (p : Int) (factor : Int) (row : (List Int)) : Rs (List Int) := Rs.cl (m_scaled p factor row)
theorem f_scaled_eq (p : Int) (factor : Int) (row : (List Int)) : f_scaled p factor row = m_scaled p factor row := Rs.cl_eq _
def G_scaled (P : Program) (w : World) (K : PySem.W.Frag) (mg : Str → Option Value) (base : Heap) (cm ad : Nat → Addr) (fdn : Nat → FuncData) : Prop := FnOk P w K mg base (L2.CX P w) 1 (ad 7) (fdn 7) ["p", "factor", "row"] (spT cm (HC RI (HC RI (Gd.H1 (RT RI)))) (RT RI) (fun (p : (Int × Int × (List Int))) => f_scaled p.1 p.2.1 p.2.2))
theorem ok_scaled {P : Program} {w : World} {K : PySem.W.Frag} {mg : Str → Option Value} {base : Heap} {cm ad : Nat → Addr} {fdn : Nat → FuncData} (T : Txt K mg cm ad fdn)  : G_scaled P w K mg base cm ad fdn := by
  refine def_go T.F_scaled sc_scaled (ent_cons (ent_cons ent_one)) (fun _ => rfl) (fun cdv A outer s H E hr => ⟨_, (pss_cons (ps_ret (pe_callTy (tuple_K (K := K) rfl) (by rfl) T.z_tuple PyProof.Rows.boot_tuple (pa_cons (pe_lc (own := [("number", 3)]) rfl sc_scaled.nd (pi_tupK (K := K) rfl (pv 2)) (blkOk_by (N := ["p", "factor", "row", "number"]) (sc := defScope s_scaled) (by decide +kernel)) (fun _ _ _ _ _ => (pg_name (i := 3) sc_scaled.nd rfl (by first | exact .inl rfl | exact .inr rfl))) (fun _ _ _ _ _ => pts_nil) (fun _ _ _ _ _ => (pe_op op_mod (pe_op op_mul (pv 1) (pv 3)) (pv 0)))) pa_nil))) pss_nil), ?_⟩)
  suffices hb : ∀ (p : Int) (factor : Int) (row : (List Int)), Blk cm (fun cls d _ H => E cls d H) _ [.fz RI p, .fz RI factor, .fz (RT RI) row, .un] (f_scaled p factor row) (CR (RT RI)) from fun p => hb p.1 p.2.1 p.2.2
  intro p factor row
  rw [f_scaled_eq]
  unfold m_scaled
  exact (b_ret (ev_tupl (el_fz (evn_fz (en_map (wi_tup (ev_var (i := 2) rfl)) (eg_name 3) (by decide) fun x => (ev_b2 oe_mod (ev_b2 oe_mul (ev_var (i := 1) rfl) (ev_var (i := 3) rfl)) (ev_var (i := 0) rfl)))))))
/-! ### added -/
abbrev s_added : Stmt := topS 8
theorem sc_added : FnScope ["p", "row", "other", "k"] ["p", "row", "other"] (defScope s_added) := ⟨rfl, rfl, rfl, by decide +kernel, rfl, by decide +kernel, by decide +kernel⟩
noncomputable def m_added (p : Int) (row : (List Int)) (other : (List Int)) : Rs (List Int) :=
  ((((Rs.ok row).bind fun x => .ok (x.length : Int)).bind fun n => rngR 0 n).bind fun xs => Rs.mapR (fun x => (Rs.b2 (Rs.b2 (Rs.b2 (Rs.ok row) (Rs.ok x) pyIx) (Rs.b2 (Rs.ok other) (Rs.ok x) pyIx) fun x y => .ok (x + y)) (Rs.ok p) modR)) xs)
noncomputable def f_added (p : Int) (row : (List Int)) (other : (List Int)) : Rs (List Int) := Rs.cl (m_added p row other)
theorem f_added_eq (p : Int) (row : (List Int)) (other : (List Int)) : f_added p row other = m_added p row other := Rs.cl_eq _
def G_added (P : Program) (w : World) (K : PySem.W.Frag) (mg : Str → Option Value) (base : Heap) (cm ad : Nat → Addr) (fdn : Nat → FuncData) : Prop := FnOk P w K mg base (L2.CX P w) 1 (ad 8) (fdn 8) ["p", "row", "other"] (spT cm (HC RI (HC (RT RI) (Gd.H1 (RT RI)))) (RT RI) (fun (p : (Int × (List Int) × (List Int))) => f_added p.1 p.2.1 p.2.2))
theorem ok_added {P : Program} {w : World} {K : PySem.W.Frag} {mg : Str → Option Value} {base : Heap} {cm ad : Nat → Addr} {fdn : Nat → FuncData} (T : Txt K mg cm ad fdn)  : G_added P w K mg base cm ad fdn := by
  refine def_go T.F_added sc_added (ent_cons (ent_cons ent_one)) (fun _ => rfl) (fun cdv A outer s H E hr => ⟨_, (pss_cons (ps_ret (pe_callTy (tuple_K (K := K) rfl) (by rfl) T.z_tuple PyProof.Rows.boot_tuple (pa_cons (pe_lc (own := [("k", 3)]) rfl sc_added.nd (pi_range1 (by rfl) T.z_range (pa_cons (pe_callB (len_K (K := K) rfl) (by rfl) T.z_len PySem.boot_len (pa_cons (pv 1) pa_nil)) pa_nil)) (blkOk_by (N := ["p", "row", "other", "k"]) (sc := defScope s_added) (by decide +kernel)) (fun _ _ _ _ _ => (pg_name (i := 3) sc_added.nd rfl (by first | exact .inl rfl | exact .inr rfl))) (fun _ _ _ _ _ => pts_nil) (fun _ _ _ _ _ => (pe_op op_mod (pe_op op_add (pe_ix (ix_tupK (K := K) rfl) (pv 1) (pv 3) (fun _ _ => rfl)) (pe_ix (ix_tupK (K := K) rfl) (pv 2) (pv 3) (fun _ _ => rfl))) (pv 0)))) pa_nil))) pss_nil), ?_⟩)
  suffices hb : ∀ (p : Int) (row : (List Int)) (other : (List Int)), Blk cm (fun cls d _ H => E cls d H) _ [.fz RI p, .fz (RT RI) row, .fz (RT RI) other, .un] (f_added p row other) (CR (RT RI)) from fun p => hb p.1 p.2.1 p.2.2
  intro p row other
  rw [f_added_eq]
  unfold m_added
  exact (b_ret (ev_tupl (el_fz (evn_fz (en_map (wi_rng1 (ea_one (ev_lent (ev_var (i := 1) rfl)))) (eg_name 3) (by decide) fun x => (ev_b2 oe_mod (ev_b2 oe_add (ev_b2 oe_ixt (ev_var (i := 1) rfl) (ev_var (i := 3) rfl)) (ev_b2 oe_ixt (ev_var (i := 2) rfl) (ev_var (i := 3) rfl))) (ev_var (i := 0) rfl)))))))
/-! ### product -/
abbrev s_product : Stmt := topS 9
theorem sc_product : FnScope ["p", "row", "other", "k"] ["p", "row", "other"] (defScope s_product) := ⟨rfl, rfl, rfl, by decide +kernel, rfl, by decide +kernel, by decide +kernel⟩
noncomputable def m_product (p : Int) (row : (List Int)) (other : (List Int)) : Rs Int :=
  (Rs.b2 (((((Rs.ok row).bind fun x => .ok (x.length : Int)).bind fun n => rngR 0 n).bind fun xs => Rs.mapR (fun x => (Rs.b2 (Rs.b2 (Rs.ok row) (Rs.ok x) pyIx) (Rs.b2 (Rs.ok other) (Rs.ok x) pyIx) mulR)) xs).bind fun x => .ok x.sum) (Rs.ok p) modR)
noncomputable def f_product (p : Int) (row : (List Int)) (other : (List Int)) : Rs Int := Rs.cl (m_product p row other)
theorem f_product_eq (p : Int) (row : (List Int)) (other : (List Int)) : f_product p row other = m_product p row other := Rs.cl_eq _
def G_product (P : Program) (w : World) (K : PySem.W.Frag) (mg : Str → Option Value) (base : Heap) (cm ad : Nat → Addr) (fdn : Nat → FuncData) : Prop := FnOk P w K mg base (L2.CX P w) 1 (ad 9) (fdn 9) ["p", "row", "other"] (spT cm (HC RI (HC (RT RI) (Gd.H1 (RT RI)))) RI (fun (p : (Int × (List Int) × (List Int))) => f_product p.1 p.2.1 p.2.2))
theorem ok_product {P : Program} {w : World} {K : PySem.W.Frag} {mg : Str → Option Value} {base : Heap} {cm ad : Nat → Addr} {fdn : Nat → FuncData} (T : Txt K mg cm ad fdn)  : G_product P w K mg base cm ad fdn := by
  refine def_go T.F_product sc_product (ent_cons (ent_cons ent_one)) (fun _ => rfl) (fun cdv A outer s H E hr => ⟨_, (pss_cons (ps_ret (pe_op op_mod (pe_callB (sum_K (K := K) rfl rfl) (by rfl) T.z_sum (by decide +kernel) (pa_cons (pe_lc (own := [("k", 3)]) rfl sc_product.nd (pi_range1 (by rfl) T.z_range (pa_cons (pe_callB (len_K (K := K) rfl) (by rfl) T.z_len PySem.boot_len (pa_cons (pv 1) pa_nil)) pa_nil)) (blkOk_by (N := ["p", "row", "other", "k"]) (sc := defScope s_product) (by decide +kernel)) (fun _ _ _ _ _ => (pg_name (i := 3) sc_product.nd rfl (by first | exact .inl rfl | exact .inr rfl))) (fun _ _ _ _ _ => pts_nil) (fun _ _ _ _ _ => (pe_op op_mul (pe_ix (ix_tupK (K := K) rfl) (pv 1) (pv 3) (fun _ _ => rfl)) (pe_ix (ix_tupK (K := K) rfl) (pv 2) (pv 3) (fun _ _ => rfl))))) pa_nil)) (pv 0))) pss_nil), ?_⟩)
  suffices hb : ∀ (p : Int) (row : (List Int)) (other : (List Int)), Blk cm (fun cls d _ H => E cls d H) _ [.fz RI p, .fz (RT RI) row, .fz (RT RI) other, .un] (f_product p row other) (CR RI) from fun p => hb p.1 p.2.1 p.2.2
  intro p row other
  rw [f_product_eq]
  unfold m_product
  exact (b_ret (ev_b2 oe_mod (ev_sum (el_fz (evn_fz (en_map (wi_rng1 (ea_one (ev_lent (ev_var (i := 1) rfl)))) (eg_name 3) (by decide) fun x => (ev_b2 oe_mul (ev_b2 oe_ixt (ev_var (i := 1) rfl) (ev_var (i := 3) rfl)) (ev_b2 oe_ixt (ev_var (i := 2) rfl) (ev_var (i := 3) rfl))))))) (ev_var (i := 0) rfl)))
/-! ### made_of -/
abbrev s_made_of : Stmt := topS 11
theorem sc_made_of : FnScope ["p", "rows", "parts", "size", "told", "k"] ["p", "rows", "parts", "size"] (defScope s_made_of) := ⟨rfl, rfl, rfl, by decide +kernel, rfl, by decide +kernel, by decide +kernel⟩
noncomputable def m_made_of (p : Int) (rows : (List (List Int))) (parts : (List Int)) (size : Int) : Rs (List Int) :=
  ((Rs.b2 (Rs.ok (0 : Int)) (Rs.ok size) repR).bind fun told =>
  ((((Rs.ok rows).bind fun x => .ok (x.length : Int)).bind fun n => rngR 0 n).bind fun xs => (Rs.foldR (fun (s : ((List Int))) k =>
  (((Rs.pr (Rs.ok p) (Rs.pr (Rs.ok s) ((Rs.pr (Rs.ok p) (Rs.pr (Rs.b2 (Rs.ok parts) (Rs.ok k) pyIx) (Rs.b2 (Rs.ok rows) (Rs.ok k) pyIx))).bind (fun p => f_scaled p.1 p.2.1 p.2.2)))).bind (fun p => f_added p.1 p.2.1 p.2.2)).bind fun told1 =>
  (Rs.ok told1))) told xs).bind fun s =>
  (Rs.ok s)))
noncomputable def f_made_of (p : Int) (rows : (List (List Int))) (parts : (List Int)) (size : Int) : Rs (List Int) := Rs.cl (m_made_of p rows parts size)
theorem f_made_of_eq (p : Int) (rows : (List (List Int))) (parts : (List Int)) (size : Int) : f_made_of p rows parts size = m_made_of p rows parts size := Rs.cl_eq _
def G_made_of (P : Program) (w : World) (K : PySem.W.Frag) (mg : Str → Option Value) (base : Heap) (cm ad : Nat → Addr) (fdn : Nat → FuncData) : Prop := FnOk P w K mg base (L2.CX P w) 2 (ad 11) (fdn 11) ["p", "rows", "parts", "size"] (spT cm (HC RI (HC (RT (RT RI)) (HC (RT RI) (Gd.H1 RI)))) (RT RI) (fun (p : (Int × (List (List Int)) × (List Int) × Int)) => f_made_of p.1 p.2.1 p.2.2.1 p.2.2.2))
theorem ok_made_of {P : Program} {w : World} {K : PySem.W.Frag} {mg : Str → Option Value} {base : Heap} {cm ad : Nat → Addr} {fdn : Nat → FuncData} (T : Txt K mg cm ad fdn) (g_added : G_added P w K mg base cm ad fdn) (g_scaled : G_scaled P w K mg base cm ad fdn) : G_made_of P w K mg base cm ad fdn := by
  unfold G_added at g_added
  unfold G_scaled at g_scaled
  refine def_go T.F_made_of sc_made_of (ent_cons (ent_cons (ent_cons ent_one))) (fun _ => rfl) (fun cdv A outer s H E hr => ⟨_, (pss_cons (ps_set (i := 4) sc_made_of.nd rfl (by first | exact .inl rfl | exact .inr rfl) (pe_callTy (tuple_K (K := K) rfl) (by rfl) T.z_tuple PyProof.Rows.boot_tuple (pa_cons (pe_op op_rep (pe_lst (pa_cons pe_int pa_nil)) (pv 3)) pa_nil))) (pss_cons (ps_for pass_of rfl (pi_range1 (by rfl) T.z_range (pa_cons (pe_callB (len_K (K := K) rfl) (by rfl) T.z_len PySem.boot_len (pa_cons (pv 1) pa_nil)) pa_nil)) (pg_name (i := 5) sc_made_of.nd rfl (by first | exact .inl rfl | exact .inr rfl)) (pss_cons (ps_set (i := 4) sc_made_of.nd rfl (by first | exact .inl rfl | exact .inr rfl) (pe_callS g_added (hr.mono (by decide)) (by rfl) T.g_added T.F_added.kp T.b_added (fun σ => passAt tk_of σ) (pa_cons (pv 0) (pa_cons (pv 4) (pa_cons (pe_callS g_scaled (hr.mono (by decide)) (by rfl) T.g_scaled T.F_scaled.kp T.b_scaled (fun σ => passAt tk_of σ) (pa_cons (pv 0) (pa_cons (pe_ix (ix_tupK (K := K) rfl) (pv 2) (pv 5) (fun _ _ => rfl)) (pa_cons (pe_ix (ix_tupK (K := K) rfl) (pv 1) (pv 5) (fun _ _ => rfl)) pa_nil)))) pa_nil))))) pss_nil)) (pss_cons (ps_ret (pv 4)) pss_nil))), ?_⟩)
  suffices hb : ∀ (p : Int) (rows : (List (List Int))) (parts : (List Int)) (size : Int), Blk cm (fun cls d _ H => E cls d H) _ [.fz RI p, .fz (RT (RT RI)) rows, .fz (RT RI) parts, .fz RI size, .un, .un] (f_made_of p rows parts size) (CR (RT RI)) from fun p => hb p.1 p.2.1 p.2.2.1 p.2.2.2
  intro p rows parts size
  rw [f_made_of_eq]
  unfold m_made_of
  exact (b_asg (i := 4) (ev_tupl (el_fz (evn_fz (en_rep ev_int (ev_var (i := 3) rfl))))) fun told => (b_for (S := ((List Int))) (Inv := (fun s => [.fz RI p, .fz (RT (RT RI)) rows, .fz (RT RI) parts, .fz RI size, .fz (RT RI) s, .un])) (wi_rng1 (ea_one (ev_lent (ev_var (i := 1) rfl)))) (eg_name 5) (.k (.k (.k (.k (.k (.u .nil)))))) (fun s k => (b_asg (i := 4) (ev_call (ea_cons (ev_var (i := 0) rfl) (ea_cons (ev_var (i := 4) rfl) (ea_one (ev_call (ea_cons (ev_var (i := 0) rfl) (ea_cons (ev_b2 oe_ixt (ev_var (i := 2) rfl) (ev_var (i := 5) rfl)) (ea_one (ev_b2 oe_ixt (ev_var (i := 1) rfl) (ev_var (i := 5) rfl)))))))))) fun told1 => (b_nil (.k (.k (.k (.k (.k (.u .nil))))))))) fun s => (b_ret (ev_var (i := 4) rfl))))
/-! ### row_behind -/
abbrev s_row_behind : Stmt := topS 14
theorem sc_row_behind : FnScope ["house", "word", "row", "letter"] ["house", "word"] (defScope s_row_behind) := ⟨rfl, rfl, rfl, by decide +kernel, rfl, by decide +kernel, by decide +kernel⟩
noncomputable def m_row_behind (house : (Int × Int × (List Int) × (List (List (List Int))) × (List Int))) (word : (List Int)) : Rs (List Int) :=
  ((Rs.nt ((Rs.pr ((Rs.ok house).bind fun x => .ok (x.2.1)) (Rs.ok word)).bind (fun p => f_is_word p.1 p.2))).bind fun b => if b = true then (Rs.ex 3) else
  (((Rs.ok house).bind fun x => .ok (x.2.2.1)).bind fun row =>
  ((Rs.ok word).bind fun xs => (Rs.foldR (fun (s : ((List Int))) letter =>
  (((Rs.pr ((Rs.ok house).bind fun x => .ok (x.1)) (Rs.pr (Rs.b2 ((Rs.ok house).bind fun x => .ok (x.2.2.2.1)) (Rs.ok letter) pyIx) (Rs.pr (Rs.ok s) ((Rs.ok s).bind fun x => .ok (x.length : Int))))).bind (fun p => f_made_of p.1 p.2.1 p.2.2.1 p.2.2.2)).bind fun row1 =>
  (Rs.ok row1))) row xs).bind fun s =>
  (Rs.ok s))))
noncomputable def f_row_behind (house : (Int × Int × (List Int) × (List (List (List Int))) × (List Int))) (word : (List Int)) : Rs (List Int) := Rs.cl (m_row_behind house word)
theorem f_row_behind_eq (house : (Int × Int × (List Int) × (List (List (List Int))) × (List Int))) (word : (List Int)) : f_row_behind house word = m_row_behind house word := Rs.cl_eq _
def G_row_behind (P : Program) (w : World) (K : PySem.W.Frag) (mg : Str → Option Value) (base : Heap) (cm ad : Nat → Addr) (fdn : Nat → FuncData) : Prop := FnOk P w K mg base (L2.CX P w) 3 (ad 14) (fdn 14) ["house", "word"] (spT cm (HC (RTu (HC RI (HC RI (HC (RT RI) (HC (RT (RT (RT RI))) (Gd.H1 (RT RI))))))) (Gd.H1 (RT RI))) (RT RI) (fun (p : ((Int × Int × (List Int) × (List (List (List Int))) × (List Int)) × (List Int))) => f_row_behind p.1 p.2))
theorem ok_row_behind {P : Program} {w : World} {K : PySem.W.Frag} {mg : Str → Option Value} {base : Heap} {cm ad : Nat → Addr} {fdn : Nat → FuncData} (T : Txt K mg cm ad fdn) (g_is_word : G_is_word P w K mg base cm ad fdn) (g_made_of : G_made_of P w K mg base cm ad fdn) : G_row_behind P w K mg base cm ad fdn := by
  unfold G_is_word at g_is_word
  unfold G_made_of at g_made_of
  refine def_go T.F_row_behind sc_row_behind (ent_cons ent_one) (fun _ => rfl) (fun cdv A outer s H E hr => ⟨_, (pss_cons (ps_if (pt_not (pt_val (pe_callS g_is_word (hr.mono (by decide)) (by rfl) T.g_is_word T.F_is_word.kp T.b_is_word (fun σ => passAt tk_of σ) (pa_cons (pe_ix (ix_tupK (K := K) rfl) (pv 0) pe_int (fun _ _ => rfl)) (pa_cons (pv 1) pa_nil))))) (pss_cons (ps_raise rfl tk_of (pmk_own PySem.F.excBase_ValueError T.x_BadWord T.gx_BadWord T.kx_BadWord (raises_own T.bx_BadWord T.tx_BadWord) (by rfl))) pss_nil) pss_nil) (pss_cons (ps_set (i := 2) sc_row_behind.nd rfl (by first | exact .inl rfl | exact .inr rfl) (pe_ix (ix_tupK (K := K) rfl) (pv 0) pe_int (fun _ _ => rfl))) (pss_cons (ps_for pass_of rfl (pi_tupK (K := K) rfl (pv 1)) (pg_name (i := 3) sc_row_behind.nd rfl (by first | exact .inl rfl | exact .inr rfl)) (pss_cons (ps_set (i := 2) sc_row_behind.nd rfl (by first | exact .inl rfl | exact .inr rfl) (pe_callS g_made_of (hr.mono (by decide)) (by rfl) T.g_made_of T.F_made_of.kp T.b_made_of (fun σ => passAt tk_of σ) (pa_cons (pe_ix (ix_tupK (K := K) rfl) (pv 0) pe_int (fun _ _ => rfl)) (pa_cons (pe_ix (ix_tupK (K := K) rfl) (pe_ix (ix_tupK (K := K) rfl) (pv 0) pe_int (fun _ _ => rfl)) (pv 3) (fun _ _ => rfl)) (pa_cons (pv 2) (pa_cons (pe_callB (len_K (K := K) rfl) (by rfl) T.z_len PySem.boot_len (pa_cons (pv 2) pa_nil)) pa_nil)))))) pss_nil)) (pss_cons (ps_ret (pv 2)) pss_nil)))), ?_⟩)
  suffices hb : ∀ (house : (Int × Int × (List Int) × (List (List (List Int))) × (List Int))) (word : (List Int)), Blk cm (fun cls d _ H => E cls d H) _ [.fz (RTu (HC RI (HC RI (HC (RT RI) (HC (RT (RT (RT RI))) (Gd.H1 (RT RI))))))) house, .fz (RT RI) word, .un, .un] (f_row_behind house word) (CR (RT RI)) from fun p => hb p.1 p.2
  intro house word
  rw [f_row_behind_eq]
  unfold m_row_behind
  exact (b_ifR (et_not (et_val (ev_call (ea_cons (ev_ixc (i := 1) (hsnd (hfst (hfst (hfst hlast)))) rfl (ev_var (i := 0) rfl)) (ea_one (ev_var (i := 1) rfl)))))) (b_raise (e := 3) rfl (fun _ _ _ q => q)) (b_asg (i := 2) (ev_ixc (i := 2) (hsnd (hsnd (hfst (hfst hlast)))) rfl (ev_var (i := 0) rfl)) fun row => (b_for (S := ((List Int))) (Inv := (fun s => [.fz (RTu (HC RI (HC RI (HC (RT RI) (HC (RT (RT (RT RI))) (Gd.H1 (RT RI))))))) house, .fz (RT RI) word, .fz (RT RI) s, .un])) (wi_tup (ev_var (i := 1) rfl)) (eg_name 3) (.k (.k (.k (.u .nil)))) (fun s letter => (b_asg (i := 2) (ev_call (ea_cons (ev_ixc (i := 0) (hfst (hfst (hfst (hfst hlast)))) rfl (ev_var (i := 0) rfl)) (ea_cons (ev_b2 oe_ixt (ev_ixc (i := 3) (hsnd (hsnd (hsnd (hfst hlast)))) rfl (ev_var (i := 0) rfl)) (ev_var (i := 3) rfl)) (ea_cons (ev_var (i := 2) rfl) (ea_one (ev_lent (ev_var (i := 2) rfl))))))) fun row1 => (b_nil (.k (.k (.k (.u .nil))))))) fun s => (b_ret (ev_var (i := 2) rfl)))))
/-! ### worth -/
abbrev s_worth : Stmt := topS 15
theorem sc_worth : FnScope ["house", "word"] ["house", "word"] (defScope s_worth) := ⟨rfl, rfl, rfl, by decide +kernel, rfl, by decide +kernel, by decide +kernel⟩
noncomputable def m_worth (house : (Int × Int × (List Int) × (List (List (List Int))) × (List Int))) (word : (List Int)) : Rs Int :=
  ((Rs.pr ((Rs.ok house).bind fun x => .ok (x.1)) (Rs.pr ((Rs.pr (Rs.ok house) (Rs.ok word)).bind (fun p => f_row_behind p.1 p.2)) ((Rs.ok house).bind fun x => .ok (x.2.2.2.2)))).bind (fun p => f_product p.1 p.2.1 p.2.2))
noncomputable def f_worth (house : (Int × Int × (List Int) × (List (List (List Int))) × (List Int))) (word : (List Int)) : Rs Int := Rs.cl (m_worth house word)
theorem f_worth_eq (house : (Int × Int × (List Int) × (List (List (List Int))) × (List Int))) (word : (List Int)) : f_worth house word = m_worth house word := Rs.cl_eq _
def G_worth (P : Program) (w : World) (K : PySem.W.Frag) (mg : Str → Option Value) (base : Heap) (cm ad : Nat → Addr) (fdn : Nat → FuncData) : Prop := FnOk P w K mg base (L2.CX P w) 4 (ad 15) (fdn 15) ["house", "word"] (spT cm (HC (RTu (HC RI (HC RI (HC (RT RI) (HC (RT (RT (RT RI))) (Gd.H1 (RT RI))))))) (Gd.H1 (RT RI))) RI (fun (p : ((Int × Int × (List Int) × (List (List (List Int))) × (List Int)) × (List Int))) => f_worth p.1 p.2))
theorem ok_worth {P : Program} {w : World} {K : PySem.W.Frag} {mg : Str → Option Value} {base : Heap} {cm ad : Nat → Addr} {fdn : Nat → FuncData} (T : Txt K mg cm ad fdn) (g_product : G_product P w K mg base cm ad fdn) (g_row_behind : G_row_behind P w K mg base cm ad fdn) : G_worth P w K mg base cm ad fdn := by
  unfold G_product at g_product
  unfold G_row_behind at g_row_behind
  refine def_go T.F_worth sc_worth (ent_cons ent_one) (fun _ => rfl) (fun cdv A outer s H E hr => ⟨_, (pss_cons (ps_ret (pe_callS g_product (hr.mono (by decide)) (by rfl) T.g_product T.F_product.kp T.b_product (fun σ => passAt tk_of σ) (pa_cons (pe_ix (ix_tupK (K := K) rfl) (pv 0) pe_int (fun _ _ => rfl)) (pa_cons (pe_callS g_row_behind (hr.mono (by decide)) (by rfl) T.g_row_behind T.F_row_behind.kp T.b_row_behind (fun σ => passAt tk_of σ) (pa_cons (pv 0) (pa_cons (pv 1) pa_nil))) (pa_cons (pe_ix (ix_tupK (K := K) rfl) (pv 0) pe_int (fun _ _ => rfl)) pa_nil))))) pss_nil), ?_⟩)
  suffices hb : ∀ (house : (Int × Int × (List Int) × (List (List (List Int))) × (List Int))) (word : (List Int)), Blk cm (fun cls d _ H => E cls d H) _ [.fz (RTu (HC RI (HC RI (HC (RT RI) (HC (RT (RT (RT RI))) (Gd.H1 (RT RI))))))) house, .fz (RT RI) word] (f_worth house word) (CR RI) from fun p => hb p.1 p.2
  intro house word
  rw [f_worth_eq]
  unfold m_worth
  exact (b_ret (ev_call (ea_cons (ev_ixc (i := 0) (hfst (hfst (hfst (hfst hlast)))) rfl (ev_var (i := 0) rfl)) (ea_cons (ev_call (ea_cons (ev_var (i := 0) rfl) (ea_one (ev_var (i := 1) rfl)))) (ea_one (ev_ixc (i := 4) (hsnd (hsnd (hsnd (hsnd hlast)))) rfl (ev_var (i := 0) rfl)))))))
/-! ### ask_like -/
abbrev s_ask_like : Stmt := topS 16
theorem sc_ask_like : FnScope ["house", "other"] ["house", "other"] (defScope s_ask_like) := ⟨rfl, rfl, rfl, by decide +kernel, rfl, by decide +kernel, by decide +kernel⟩
noncomputable def m_ask_like (house : (Int × Int × (List Int) × (List (List (List Int))) × (List Int))) (other : (Int × Int × (List Int) × (List (List (List Int))) × (List Int))) : Rs Unit :=
  ((Rs.or (Rs.b2 ((Rs.ok house).bind fun x => .ok (x.1)) ((Rs.ok other).bind fun x => .ok (x.1)) fun x y => .ok (!decide (x = y))) (Rs.b2 ((Rs.ok house).bind fun x => .ok (x.2.1)) ((Rs.ok other).bind fun x => .ok (x.2.1)) fun x y => .ok (!decide (x = y)))).bind fun b => (if b = true then (Rs.ex 2) else
  (Rs.ok ())).bind fun s =>
  (Rs.ok ()))
noncomputable def f_ask_like (house : (Int × Int × (List Int) × (List (List (List Int))) × (List Int))) (other : (Int × Int × (List Int) × (List (List (List Int))) × (List Int))) : Rs Unit := Rs.cl (m_ask_like house other)
theorem f_ask_like_eq (house : (Int × Int × (List Int) × (List (List (List Int))) × (List Int))) (other : (Int × Int × (List Int) × (List (List (List Int))) × (List Int))) : f_ask_like house other = m_ask_like house other := Rs.cl_eq _
def G_ask_like (P : Program) (w : World) (K : PySem.W.Frag) (mg : Str → Option Value) (base : Heap) (cm ad : Nat → Addr) (fdn : Nat → FuncData) : Prop := FnOk P w K mg base (L2.CX P w) 1 (ad 16) (fdn 16) ["house", "other"] (spT cm (HC (RTu (HC RI (HC RI (HC (RT RI) (HC (RT (RT (RT RI))) (Gd.H1 (RT RI))))))) (Gd.H1 (RTu (HC RI (HC RI (HC (RT RI) (HC (RT (RT (RT RI))) (Gd.H1 (RT RI))))))))) RN (fun (p : ((Int × Int × (List Int) × (List (List (List Int))) × (List Int)) × (Int × Int × (List Int) × (List (List (List Int))) × (List Int)))) => f_ask_like p.1 p.2))
theorem ok_ask_like {P : Program} {w : World} {K : PySem.W.Frag} {mg : Str → Option Value} {base : Heap} {cm ad : Nat → Addr} {fdn : Nat → FuncData} (T : Txt K mg cm ad fdn)  : G_ask_like P w K mg base cm ad fdn := by
  refine def_goU T.F_ask_like sc_ask_like (ent_cons ent_one) (fun _ => rfl) (fun cdv A outer s H E hr => ⟨_, (pss_cons (ps_if (PW.pt (pw_or (pt_cmpR op_ne (pe_ix (ix_tupK (K := K) rfl) (pv 0) pe_int (fun _ _ => rfl)) (pe_ix (ix_tupK (K := K) rfl) (pv 1) pe_int (fun _ _ => rfl)) (nomark _)) (pw_or1 (pt_cmpR op_ne (pe_ix (ix_tupK (K := K) rfl) (pv 0) pe_int (fun _ _ => rfl)) (pe_ix (ix_tupK (K := K) rfl) (pv 1) pe_int (fun _ _ => rfl)) (nomark _))))) (pss_cons (ps_raise rfl tk_of (pmk_own PySem.F.excBase_ValueError T.x_BadHouse T.gx_BadHouse T.kx_BadHouse (raises_own T.bx_BadHouse T.tx_BadHouse) (by rfl))) pss_nil) pss_nil) pss_nil), ?_⟩)
  suffices hb : ∀ (house : (Int × Int × (List Int) × (List (List (List Int))) × (List Int))) (other : (Int × Int × (List Int) × (List (List (List Int))) × (List Int))), Blk cm (fun cls d _ H => E cls d H) _ [.fz (RTu (HC RI (HC RI (HC (RT RI) (HC (RT (RT (RT RI))) (Gd.H1 (RT RI))))))) house, .fz (RTu (HC RI (HC RI (HC (RT RI) (HC (RT (RT (RT RI))) (Gd.H1 (RT RI))))))) other] (f_ask_like house other) CU from fun p => hb p.1 p.2
  intro house other
  rw [f_ask_like_eq]
  unfold m_ask_like
  exact (b_if (S := Unit) (Post := fun s => [.fz (RTu (HC RI (HC RI (HC (RT RI) (HC (RT (RT (RT RI))) (Gd.H1 (RT RI))))))) house, .fz (RTu (HC RI (HC RI (HC (RT RI) (HC (RT (RT (RT RI))) (Gd.H1 (RT RI))))))) other]) (et_or (et_cmp (ev_b2 oe_neI (ev_ixc (i := 0) (hfst (hfst (hfst (hfst hlast)))) rfl (ev_var (i := 0) rfl)) (ev_ixc (i := 0) (hfst (hfst (hfst (hfst hlast)))) rfl (ev_var (i := 1) rfl)))) (et_cmp (ev_b2 oe_neI (ev_ixc (i := 1) (hsnd (hfst (hfst (hfst hlast)))) rfl (ev_var (i := 0) rfl)) (ev_ixc (i := 1) (hsnd (hfst (hfst (hfst hlast)))) rfl (ev_var (i := 1) rfl))))) (b_raise (e := 2) rfl (fun _ _ _ q => q)) (b_nil (.k (.k .nil))) fun s => b_endU)
/-! ### joined_sums -/
abbrev s_joined_sums : Stmt := topS 17
theorem sc_joined_sums : FnScope ["house", "other", "p", "ahead", "behind", "tables", "letter", "row", "rows", "number", "last"] ["house", "other"] (defScope s_joined_sums) := ⟨rfl, rfl, rfl, by decide +kernel, rfl, by decide +kernel, by decide +kernel⟩
noncomputable def m_joined_sums (house : (Int × Int × (List Int) × (List (List (List Int))) × (List Int))) (other : (Int × Int × (List Int) × (List (List (List Int))) × (List Int))) : Rs (Int × Int × (List Int) × (List (List (List Int))) × (List Int)) :=
  (((Rs.ok house).bind fun x => .ok (x.1)).bind fun p =>
  ((Rs.b2 (Rs.cs (Rs.ok (0 : Int)) (Rs.ok ([] : List Int))) (((Rs.ok house).bind fun x => .ok (x.2.2.1)).bind fun x => .ok (x.length : Int)) repT0R).bind fun ahead =>
  ((Rs.b2 (Rs.cs (Rs.ok (0 : Int)) (Rs.ok ([] : List Int))) (((Rs.ok other).bind fun x => .ok (x.2.2.1)).bind fun x => .ok (x.length : Int)) repT0R).bind fun behind =>
  ((Rs.ok ([] : List (List (List Int)))).bind fun tables =>
  ((((Rs.ok house).bind fun x => .ok (x.2.1)).bind fun n => rngR 0 n).bind fun xs => (Rs.foldR (fun (s : ((List (List (List Int))))) letter =>
  (((Rs.b2 ((Rs.ok house).bind fun x => .ok (x.2.2.2.1)) (Rs.ok letter) pyIx).bind fun xs => Rs.mapR (fun x1 => (Rs.b2 (Rs.ok x1) (Rs.ok behind) catR)) xs).bind fun rows =>
  (((Rs.b2 ((Rs.ok other).bind fun x => .ok (x.2.2.2.1)) (Rs.ok letter) pyIx).bind fun xs => Rs.mapR (fun x2 => (Rs.b2 (Rs.ok ahead) (Rs.ok x2) catR)) xs).bind fun a => (catR rows a).bind fun rows1 =>
  ((Rs.ok rows1).bind fun a => (push s a).bind fun tables1 =>
  (Rs.ok tables1))))) tables xs).bind fun s =>
  ((Rs.b2 ((Rs.ok house).bind fun x => .ok (x.2.2.2.2)) (((Rs.ok other).bind fun x => .ok (x.2.2.2.2)).bind fun xs => Rs.mapR (fun x => (Rs.b2 (Rs.b2 (Rs.ok p) (Rs.ok x) fun x y => .ok (x - y)) (Rs.ok p) modR)) xs) catR).bind fun last =>
  (Rs.pr (Rs.ok p) (Rs.pr ((Rs.ok house).bind fun x => .ok (x.2.1)) (Rs.pr (Rs.b2 ((Rs.ok house).bind fun x => .ok (x.2.2.1)) ((Rs.ok other).bind fun x => .ok (x.2.2.1)) catR) (Rs.pr (Rs.ok s) (Rs.ok last)))))))))))
noncomputable def f_joined_sums (house : (Int × Int × (List Int) × (List (List (List Int))) × (List Int))) (other : (Int × Int × (List Int) × (List (List (List Int))) × (List Int))) : Rs (Int × Int × (List Int) × (List (List (List Int))) × (List Int)) := Rs.cl (m_joined_sums house other)
theorem f_joined_sums_eq (house : (Int × Int × (List Int) × (List (List (List Int))) × (List Int))) (other : (Int × Int × (List Int) × (List (List (List Int))) × (List Int))) : f_joined_sums house other = m_joined_sums house other := Rs.cl_eq _
def G_joined_sums (P : Program) (w : World) (K : PySem.W.Frag) (mg : Str → Option Value) (base : Heap) (cm ad : Nat → Addr) (fdn : Nat → FuncData) : Prop := FnOk P w K mg base (L2.CX P w) 1 (ad 17) (fdn 17) ["house", "other"] (spT cm (HC (RTu (HC RI (HC RI (HC (RT RI) (HC (RT (RT (RT RI))) (Gd.H1 (RT RI))))))) (Gd.H1 (RTu (HC RI (HC RI (HC (RT RI) (HC (RT (RT (RT RI))) (Gd.H1 (RT RI))))))))) (RTu (HC RI (HC RI (HC (RT RI) (HC (RT (RT (RT RI))) (Gd.H1 (RT RI))))))) (fun (p : ((Int × Int × (List Int) × (List (List (List Int))) × (List Int)) × (Int × Int × (List Int) × (List (List (List Int))) × (List Int)))) => f_joined_sums p.1 p.2))
theorem ok_joined_sums {P : Program} {w : World} {K : PySem.W.Frag} {mg : Str → Option Value} {base : Heap} {cm ad : Nat → Addr} {fdn : Nat → FuncData} (T : Txt K mg cm ad fdn)  : G_joined_sums P w K mg base cm ad fdn := by
  refine def_go T.F_joined_sums sc_joined_sums (ent_cons ent_one) (fun _ => rfl) (fun cdv A outer s H E hr => ⟨_, (pss_cons (ps_set (i := 2) sc_joined_sums.nd rfl (by first | exact .inl rfl | exact .inr rfl) (pe_ix (ix_tupK (K := K) rfl) (pv 0) pe_int (fun _ _ => rfl))) (pss_cons (ps_set (i := 3) sc_joined_sums.nd rfl (by first | exact .inl rfl | exact .inr rfl) (pe_op (op_repBK (K := K) rfl) (pe_tup (pa_cons pe_int pa_nil)) (pe_callB (len_K (K := K) rfl) (by rfl) T.z_len PySem.boot_len (pa_cons (pe_ix (ix_tupK (K := K) rfl) (pv 0) pe_int (fun _ _ => rfl)) pa_nil)))) (pss_cons (ps_set (i := 4) sc_joined_sums.nd rfl (by first | exact .inl rfl | exact .inr rfl) (pe_op (op_repBK (K := K) rfl) (pe_tup (pa_cons pe_int pa_nil)) (pe_callB (len_K (K := K) rfl) (by rfl) T.z_len PySem.boot_len (pa_cons (pe_ix (ix_tupK (K := K) rfl) (pv 1) pe_int (fun _ _ => rfl)) pa_nil)))) (pss_cons (ps_set (i := 5) sc_joined_sums.nd rfl (by first | exact .inl rfl | exact .inr rfl) (pe_lst pa_nil)) (pss_cons (ps_for pass_of rfl (pi_range1 (by rfl) T.z_range (pa_cons (pe_ix (ix_tupK (K := K) rfl) (pv 0) pe_int (fun _ _ => rfl)) pa_nil)) (pg_name (i := 6) sc_joined_sums.nd rfl (by first | exact .inl rfl | exact .inr rfl)) (pss_cons (ps_setLc (i := 8) (own := [("row", 7)]) rfl sc_joined_sums.nd rfl rfl (sw_true rfl rfl rfl (by decide +kernel)) (pi_tupK (K := K) rfl (pe_ix (ix_tupK (K := K) rfl) (pe_ix (ix_tupK (K := K) rfl) (pv 0) pe_int (fun _ _ => rfl)) (pv 6) (fun _ _ => rfl))) (blkOk_by (N := ["house", "other", "p", "ahead", "behind", "tables", "letter", "row", "rows", "number", "last"]) (sc := defScope s_joined_sums) (by decide +kernel)) (fun _ _ _ _ _ => (pg_name (i := 7) sc_joined_sums.nd rfl (by first | exact .inl rfl | exact .inr rfl))) (fun _ _ _ _ _ => pts_nil) (fun _ _ _ _ _ => (pe_op (op_catK (K := K) rfl) (pv 7) (pv 4)))) (pss_cons (ps_expr (pe_bm PySem.F.plainAttrs_list PySem.F.slot_list_extend PySem.F.type_list_extend mt_extend (pv 8) (pa_cons (pe_lc (own := [("row", 7)]) rfl sc_joined_sums.nd (pi_tupK (K := K) rfl (pe_ix (ix_tupK (K := K) rfl) (pe_ix (ix_tupK (K := K) rfl) (pv 1) pe_int (fun _ _ => rfl)) (pv 6) (fun _ _ => rfl))) (blkOk_by (N := ["house", "other", "p", "ahead", "behind", "tables", "letter", "row", "rows", "number", "last"]) (sc := defScope s_joined_sums) (by decide +kernel)) (fun _ _ _ _ _ => (pg_name (i := 7) sc_joined_sums.nd rfl (by first | exact .inl rfl | exact .inr rfl))) (fun _ _ _ _ _ => pts_nil) (fun _ _ _ _ _ => (pe_op (op_catK (K := K) rfl) (pv 3) (pv 7)))) pa_nil))) (pss_cons (ps_expr (pe_bm PySem.F.plainAttrs_list PySem.F.slot_list_append PySem.F.type_list_append mt_append (pv 5) (pa_cons (pe_callTy (tuple_K (K := K) rfl) (by rfl) T.z_tuple PyProof.Rows.boot_tuple (pa_cons (pv 8) pa_nil)) pa_nil))) pss_nil)))) (pss_cons (ps_set (i := 10) sc_joined_sums.nd rfl (by first | exact .inl rfl | exact .inr rfl) (pe_op (op_catK (K := K) rfl) (pe_ix (ix_tupK (K := K) rfl) (pv 0) pe_int (fun _ _ => rfl)) (pe_callTy (tuple_K (K := K) rfl) (by rfl) T.z_tuple PyProof.Rows.boot_tuple (pa_cons (pe_lc (own := [("number", 9)]) rfl sc_joined_sums.nd (pi_tupK (K := K) rfl (pe_ix (ix_tupK (K := K) rfl) (pv 1) pe_int (fun _ _ => rfl))) (blkOk_by (N := ["house", "other", "p", "ahead", "behind", "tables", "letter", "row", "rows", "number", "last"]) (sc := defScope s_joined_sums) (by decide +kernel)) (fun _ _ _ _ _ => (pg_name (i := 9) sc_joined_sums.nd rfl (by first | exact .inl rfl | exact .inr rfl))) (fun _ _ _ _ _ => pts_nil) (fun _ _ _ _ _ => (pe_op op_mod (pe_op op_sub (pv 2) (pv 9)) (pv 2)))) pa_nil)))) (pss_cons (ps_ret (pe_tup (pa_cons (pv 2) (pa_cons (pe_ix (ix_tupK (K := K) rfl) (pv 0) pe_int (fun _ _ => rfl)) (pa_cons (pe_op (op_catK (K := K) rfl) (pe_ix (ix_tupK (K := K) rfl) (pv 0) pe_int (fun _ _ => rfl)) (pe_ix (ix_tupK (K := K) rfl) (pv 1) pe_int (fun _ _ => rfl))) (pa_cons (pe_callTy (tuple_K (K := K) rfl) (by rfl) T.z_tuple PyProof.Rows.boot_tuple (pa_cons (pv 5) pa_nil)) (pa_cons (pv 10) pa_nil))))))) pss_nil))))))), ?_⟩)
  suffices hb : ∀ (house : (Int × Int × (List Int) × (List (List (List Int))) × (List Int))) (other : (Int × Int × (List Int) × (List (List (List Int))) × (List Int))), Blk cm (fun cls d _ H => E cls d H) _ [.fz (RTu (HC RI (HC RI (HC (RT RI) (HC (RT (RT (RT RI))) (Gd.H1 (RT RI))))))) house, .fz (RTu (HC RI (HC RI (HC (RT RI) (HC (RT (RT (RT RI))) (Gd.H1 (RT RI))))))) other, .un, .un, .un, .un, .un, .un, .un, .un, .un] (f_joined_sums house other) (CR (RTu (HC RI (HC RI (HC (RT RI) (HC (RT (RT (RT RI))) (Gd.H1 (RT RI)))))))) from fun p => hb p.1 p.2
  intro house other
  rw [f_joined_sums_eq]
  unfold m_joined_sums
  exact (b_asg (i := 2) (ev_ixc (i := 0) (hfst (hfst (hfst (hfst hlast)))) rfl (ev_var (i := 0) rfl)) fun p => (b_asg (i := 3) (ev_b2 oe_repT0 (ev_tupL (ea_consL ev_int ea_nilL) (le1000 (cs_len nil_len) (by decide))) (ev_lent (ev_ixc (i := 2) (hsnd (hsnd (hfst (hfst hlast)))) rfl (ev_var (i := 0) rfl)))) fun ahead => (b_asg (i := 4) (ev_b2 oe_repT0 (ev_tupL (ea_consL ev_int ea_nilL) (le1000 (cs_len nil_len) (by decide))) (ev_lent (ev_ixc (i := 2) (hsnd (hsnd (hfst (hfst hlast)))) rfl (ev_var (i := 1) rfl)))) fun behind => (b_new (i := 5) (en_lst ea_nilL (le1000 nil_len (by decide))) (by show 5 < 11; decide) fun tables => (b_for (S := ((List (List (List Int))))) (Inv := (fun s => [.fz (RTu (HC RI (HC RI (HC (RT RI) (HC (RT (RT (RT RI))) (Gd.H1 (RT RI))))))) house, .fz (RTu (HC RI (HC RI (HC (RT RI) (HC (RT (RT (RT RI))) (Gd.H1 (RT RI))))))) other, .fz RI p, .fz (RT RI) ahead, .fz (RT RI) behind, .ow (OL (RT (RT RI))) s, .un, .un, .un, .un, .un])) (wi_rng1 (ea_one (ev_ixc (i := 1) (hsnd (hfst (hfst (hfst hlast)))) rfl (ev_var (i := 0) rfl)))) (eg_name 6) (.k (.k (.k (.k (.k (.k (.u (.u (.u (.u (.u .nil))))))))))) (fun s letter => (b_new (i := 8) (en_map (wi_tup (ev_b2 oe_ixt (ev_ixc (i := 3) (hsnd (hsnd (hsnd (hfst hlast)))) rfl (ev_var (i := 0) rfl)) (ev_var (i := 6) rfl))) (eg_name 7) (by decide) fun x1 => (ev_b2 oe_catT (ev_var (i := 7) rfl) (ev_var (i := 4) rfl))) (by show 8 < 11; decide) fun rows => (b_extend (i := 8) rfl (el_fz (evn_fz (en_map (wi_tup (ev_b2 oe_ixt (ev_ixc (i := 3) (hsnd (hsnd (hsnd (hfst hlast)))) rfl (ev_var (i := 1) rfl)) (ev_var (i := 6) rfl))) (eg_name 7) (by decide) fun x2 => (ev_b2 oe_catT (ev_var (i := 3) rfl) (ev_var (i := 7) rfl))))) fun rows1 => (b_app (i := 5) rfl (ev_tupl (el_ow (i := 8) rfl)) fun tables1 => (b_nil (.k (.k (.k (.k (.k (.k (.u (.u (.u (.u (.u .nil)))))))))))))))) fun s => (b_asg (i := 10) (ev_b2 oe_catT (ev_ixc (i := 4) (hsnd (hsnd (hsnd (hsnd hlast)))) rfl (ev_var (i := 0) rfl)) (ev_tupl (el_fz (evn_fz (en_map (wi_tup (ev_ixc (i := 4) (hsnd (hsnd (hsnd (hsnd hlast)))) rfl (ev_var (i := 1) rfl))) (eg_name 9) (by decide) fun x => (ev_b2 oe_mod (ev_b2 oe_sub (ev_var (i := 2) rfl) (ev_var (i := 9) rfl)) (ev_var (i := 2) rfl))))))) fun last => (b_ret (ev_tup (hl5_le) (ea_cons (ev_var (i := 2) rfl) (ea_cons (ev_ixc (i := 1) (hsnd (hfst (hfst (hfst hlast)))) rfl (ev_var (i := 0) rfl)) (ea_cons (ev_b2 oe_catT (ev_ixc (i := 2) (hsnd (hsnd (hfst (hfst hlast)))) rfl (ev_var (i := 0) rfl)) (ev_ixc (i := 2) (hsnd (hsnd (hfst (hfst hlast)))) rfl (ev_var (i := 1) rfl))) (ea_cons (ev_tupl (el_ow (i := 5) rfl)) (ea_one (ev_var (i := 10) rfl))))))))))))))
/-! ### sums_less -/
abbrev s_sums_less : Stmt := topS 18
theorem sc_sums_less : FnScope ["house", "other"] ["house", "other"] (defScope s_sums_less) := ⟨rfl, rfl, rfl, by decide +kernel, rfl, by decide +kernel, by decide +kernel⟩
noncomputable def m_sums_less (house : (Int × Int × (List Int) × (List (List (List Int))) × (List Int))) (other : (Int × Int × (List Int) × (List (List (List Int))) × (List Int))) : Rs (Int × Int × (List Int) × (List (List (List Int))) × (List Int)) :=
  (((Rs.pr (Rs.ok house) (Rs.ok other)).bind (fun p => f_ask_like p.1 p.2)).bind fun _ =>
  ((Rs.b2 (Rs.b2 (((Rs.ok house).bind fun x => .ok (x.2.2.1)).bind fun x => .ok (x.length : Int)) (((Rs.ok other).bind fun x => .ok (x.2.2.1)).bind fun x => .ok (x.length : Int)) fun x y => .ok (x + y)) (Rs.ok (16 : Int)) fun x y => .ok (decide (y < x))).bind fun b => if b = true then (Rs.ex 2) else
  ((Rs.pr (Rs.ok house) (Rs.ok other)).bind (fun p => f_joined_sums p.1 p.2))))
noncomputable def f_sums_less (house : (Int × Int × (List Int) × (List (List (List Int))) × (List Int))) (other : (Int × Int × (List Int) × (List (List (List Int))) × (List Int))) : Rs (Int × Int × (List Int) × (List (List (List Int))) × (List Int)) := Rs.cl (m_sums_less house other)
theorem f_sums_less_eq (house : (Int × Int × (List Int) × (List (List (List Int))) × (List Int))) (other : (Int × Int × (List Int) × (List (List (List Int))) × (List Int))) : f_sums_less house other = m_sums_less house other := Rs.cl_eq _
def G_sums_less (P : Program) (w : World) (K : PySem.W.Frag) (mg : Str → Option Value) (base : Heap) (cm ad : Nat → Addr) (fdn : Nat → FuncData) : Prop := FnOk P w K mg base (L2.CX P w) 2 (ad 18) (fdn 18) ["house", "other"] (spT cm (HC (RTu (HC RI (HC RI (HC (RT RI) (HC (RT (RT (RT RI))) (Gd.H1 (RT RI))))))) (Gd.H1 (RTu (HC RI (HC RI (HC (RT RI) (HC (RT (RT (RT RI))) (Gd.H1 (RT RI))))))))) (RTu (HC RI (HC RI (HC (RT RI) (HC (RT (RT (RT RI))) (Gd.H1 (RT RI))))))) (fun (p : ((Int × Int × (List Int) × (List (List (List Int))) × (List Int)) × (Int × Int × (List Int) × (List (List (List Int))) × (List Int)))) => f_sums_less p.1 p.2))
theorem ok_sums_less {P : Program} {w : World} {K : PySem.W.Frag} {mg : Str → Option Value} {base : Heap} {cm ad : Nat → Addr} {fdn : Nat → FuncData} (T : Txt K mg cm ad fdn) (g_ask_like : G_ask_like P w K mg base cm ad fdn) (g_joined_sums : G_joined_sums P w K mg base cm ad fdn) : G_sums_less P w K mg base cm ad fdn := by
  unfold G_ask_like at g_ask_like
  unfold G_joined_sums at g_joined_sums
  refine def_go T.F_sums_less sc_sums_less (ent_cons ent_one) (fun _ => rfl) (fun cdv A outer s H E hr => ⟨_, (pss_cons (ps_expr (pe_callS g_ask_like (hr.mono (by decide)) (by rfl) T.g_ask_like T.F_ask_like.kp T.b_ask_like (fun σ => passAt tk_of σ) (pa_cons (pv 0) (pa_cons (pv 1) pa_nil)))) (pss_cons (ps_if (pt_cmpR op_gt (pe_op op_add (pe_callB (len_K (K := K) rfl) (by rfl) T.z_len PySem.boot_len (pa_cons (pe_ix (ix_tupK (K := K) rfl) (pv 0) pe_int (fun _ _ => rfl)) pa_nil)) (pe_callB (len_K (K := K) rfl) (by rfl) T.z_len PySem.boot_len (pa_cons (pe_ix (ix_tupK (K := K) rfl) (pv 1) pe_int (fun _ _ => rfl)) pa_nil))) (pe_const (by rfl) T.c_WIDEST) (nomark _)) (pss_cons (ps_raise rfl tk_of (pmk_own PySem.F.excBase_ValueError T.x_BadHouse T.gx_BadHouse T.kx_BadHouse (raises_own T.bx_BadHouse T.tx_BadHouse) (by rfl))) pss_nil) pss_nil) (pss_cons (ps_ret (pe_callS g_joined_sums (hr.mono (by decide)) (by rfl) T.g_joined_sums T.F_joined_sums.kp T.b_joined_sums (fun σ => passAt tk_of σ) (pa_cons (pv 0) (pa_cons (pv 1) pa_nil)))) pss_nil))), ?_⟩)
  suffices hb : ∀ (house : (Int × Int × (List Int) × (List (List (List Int))) × (List Int))) (other : (Int × Int × (List Int) × (List (List (List Int))) × (List Int))), Blk cm (fun cls d _ H => E cls d H) _ [.fz (RTu (HC RI (HC RI (HC (RT RI) (HC (RT (RT (RT RI))) (Gd.H1 (RT RI))))))) house, .fz (RTu (HC RI (HC RI (HC (RT RI) (HC (RT (RT (RT RI))) (Gd.H1 (RT RI))))))) other] (f_sums_less house other) (CR (RTu (HC RI (HC RI (HC (RT RI) (HC (RT (RT (RT RI))) (Gd.H1 (RT RI)))))))) from fun p => hb p.1 p.2
  intro house other
  rw [f_sums_less_eq]
  unfold m_sums_less
  exact (b_drop (ev_call (ea_cons (ev_var (i := 0) rfl) (ea_one (ev_var (i := 1) rfl)))) fun _ => (b_ifR (et_cmp (ev_b2 oe_gt (ev_b2 oe_add (ev_lent (ev_ixc (i := 2) (hsnd (hsnd (hfst (hfst hlast)))) rfl (ev_var (i := 0) rfl))) (ev_lent (ev_ixc (i := 2) (hsnd (hsnd (hfst (hfst hlast)))) rfl (ev_var (i := 1) rfl)))) ev_int)) (b_raise (e := 2) rfl (fun _ _ _ q => q)) (b_ret (ev_call (ea_cons (ev_var (i := 0) rfl) (ea_one (ev_var (i := 1) rfl)))))))
/-! ### crossed_row -/
abbrev s_crossed_row : Stmt := topS 19
theorem sc_crossed_row : FnScope ["p", "row", "other", "told", "number", "factor"] ["p", "row", "other"] (defScope s_crossed_row) := ⟨rfl, rfl, rfl, by decide +kernel, rfl, by decide +kernel, by decide +kernel⟩
noncomputable def m_crossed_row (p : Int) (row : (List Int)) (other : (List Int)) : Rs (List Int) :=
  ((Rs.ok ([] : List Int)).bind fun told =>
  ((Rs.ok row).bind fun xs => (Rs.foldR (fun (s : ((List Int))) number =>
  (((Rs.ok other).bind fun xs => Rs.mapR (fun x => (Rs.b2 (Rs.b2 (Rs.ok number) (Rs.ok x) mulR) (Rs.ok p) modR)) xs).bind fun a => (catR s a).bind fun told1 =>
  (Rs.ok told1))) told xs).bind fun s =>
  (Rs.ok s)))
noncomputable def f_crossed_row (p : Int) (row : (List Int)) (other : (List Int)) : Rs (List Int) := Rs.cl (m_crossed_row p row other)
theorem f_crossed_row_eq (p : Int) (row : (List Int)) (other : (List Int)) : f_crossed_row p row other = m_crossed_row p row other := Rs.cl_eq _
def G_crossed_row (P : Program) (w : World) (K : PySem.W.Frag) (mg : Str → Option Value) (base : Heap) (cm ad : Nat → Addr) (fdn : Nat → FuncData) : Prop := FnOk P w K mg base (L2.CX P w) 1 (ad 19) (fdn 19) ["p", "row", "other"] (spT cm (HC RI (HC (RT RI) (Gd.H1 (RT RI)))) (RT RI) (fun (p : (Int × (List Int) × (List Int))) => f_crossed_row p.1 p.2.1 p.2.2))
theorem ok_crossed_row {P : Program} {w : World} {K : PySem.W.Frag} {mg : Str → Option Value} {base : Heap} {cm ad : Nat → Addr} {fdn : Nat → FuncData} (T : Txt K mg cm ad fdn)  : G_crossed_row P w K mg base cm ad fdn := by
  refine def_go T.F_crossed_row sc_crossed_row (ent_cons (ent_cons ent_one)) (fun _ => rfl) (fun cdv A outer s H E hr => ⟨_, (pss_cons (ps_set (i := 3) sc_crossed_row.nd rfl (by first | exact .inl rfl | exact .inr rfl) (pe_lst pa_nil)) (pss_cons (ps_for pass_of rfl (pi_tupK (K := K) rfl (pv 1)) (pg_name (i := 4) sc_crossed_row.nd rfl (by first | exact .inl rfl | exact .inr rfl)) (pss_cons (ps_expr (pe_bm PySem.F.plainAttrs_list PySem.F.slot_list_extend PySem.F.type_list_extend mt_extend (pv 3) (pa_cons (pe_lc (own := [("factor", 5)]) rfl sc_crossed_row.nd (pi_tupK (K := K) rfl (pv 2)) (blkOk_by (N := ["p", "row", "other", "told", "number", "factor"]) (sc := defScope s_crossed_row) (by decide +kernel)) (fun _ _ _ _ _ => (pg_name (i := 5) sc_crossed_row.nd rfl (by first | exact .inl rfl | exact .inr rfl))) (fun _ _ _ _ _ => pts_nil) (fun _ _ _ _ _ => (pe_op op_mod (pe_op op_mul (pv 4) (pv 5)) (pv 0)))) pa_nil))) pss_nil)) (pss_cons (ps_ret (pe_callTy (tuple_K (K := K) rfl) (by rfl) T.z_tuple PyProof.Rows.boot_tuple (pa_cons (pv 3) pa_nil))) pss_nil))), ?_⟩)
  suffices hb : ∀ (p : Int) (row : (List Int)) (other : (List Int)), Blk cm (fun cls d _ H => E cls d H) _ [.fz RI p, .fz (RT RI) row, .fz (RT RI) other, .un, .un, .un] (f_crossed_row p row other) (CR (RT RI)) from fun p => hb p.1 p.2.1 p.2.2
  intro p row other
  rw [f_crossed_row_eq]
  unfold m_crossed_row
  exact (b_new (i := 3) (en_lst ea_nilL (le1000 nil_len (by decide))) (by show 3 < 6; decide) fun told => (b_for (S := ((List Int))) (Inv := (fun s => [.fz RI p, .fz (RT RI) row, .fz (RT RI) other, .ow (OL RI) s, .un, .un])) (wi_tup (ev_var (i := 1) rfl)) (eg_name 4) (.k (.k (.k (.k (.u (.u .nil)))))) (fun s number => (b_extend (i := 3) rfl (el_fz (evn_fz (en_map (wi_tup (ev_var (i := 2) rfl)) (eg_name 5) (by decide) fun x => (ev_b2 oe_mod (ev_b2 oe_mul (ev_var (i := 4) rfl) (ev_var (i := 5) rfl)) (ev_var (i := 0) rfl))))) fun told1 => (b_nil (.k (.k (.k (.k (.u (.u .nil))))))))) fun s => (b_ret (ev_tupl (el_ow (i := 3) rfl)))))
/-! ### sums_times -/
abbrev s_sums_times : Stmt := topS 20
theorem sc_sums_times : FnScope ["house", "other", "p", "tables", "letter", "rows", "row", "beside", "first"] ["house", "other"] (defScope s_sums_times) := ⟨rfl, rfl, rfl, by decide +kernel, rfl, by decide +kernel, by decide +kernel⟩
noncomputable def m_sums_times (house : (Int × Int × (List Int) × (List (List (List Int))) × (List Int))) (other : (Int × Int × (List Int) × (List (List (List Int))) × (List Int))) : Rs (Int × Int × (List Int) × (List (List (List Int))) × (List Int)) :=
  (((Rs.pr (Rs.ok house) (Rs.ok other)).bind (fun p => f_ask_like p.1 p.2)).bind fun _ =>
  ((Rs.b2 (Rs.b2 (((Rs.ok house).bind fun x => .ok (x.2.2.1)).bind fun x => .ok (x.length : Int)) (((Rs.ok other).bind fun x => .ok (x.2.2.1)).bind fun x => .ok (x.length : Int)) mulR) (Rs.ok (16 : Int)) fun x y => .ok (decide (y < x))).bind fun b => if b = true then (Rs.ex 2) else
  (((Rs.ok house).bind fun x => .ok (x.1)).bind fun p =>
  ((Rs.ok ([] : List (List (List Int)))).bind fun tables =>
  ((((Rs.ok house).bind fun x => .ok (x.2.1)).bind fun n => rngR 0 n).bind fun xs => (Rs.foldR (fun (s : ((List (List (List Int))))) letter =>
  ((Rs.ok ([] : List (List Int))).bind fun rows =>
  ((Rs.b2 ((Rs.ok house).bind fun x => .ok (x.2.2.2.1)) (Rs.ok letter) pyIx).bind fun xs => (Rs.foldR (fun (s1 : ((List (List Int)))) row =>
  (((Rs.b2 ((Rs.ok other).bind fun x => .ok (x.2.2.2.1)) (Rs.ok letter) pyIx).bind fun xs => Rs.mapR (fun x => ((Rs.pr (Rs.ok p) (Rs.pr (Rs.ok row) (Rs.ok x))).bind fun p => ((fun p => f_crossed_row p.1 p.2.1 p.2.2) p).noEx)) xs).bind fun a => (catR s1 a).bind fun rows1 =>
  (Rs.ok rows1))) rows xs).bind fun s1 =>
  ((Rs.ok s1).bind fun a => (push s a).bind fun tables1 =>
  (Rs.ok tables1))))) tables xs).bind fun s =>
  (((Rs.pr (Rs.ok p) (Rs.pr ((Rs.ok house).bind fun x => .ok (x.2.2.1)) ((Rs.ok other).bind fun x => .ok (x.2.2.1)))).bind (fun p => f_crossed_row p.1 p.2.1 p.2.2)).bind fun first =>
  (Rs.pr (Rs.ok p) (Rs.pr ((Rs.ok house).bind fun x => .ok (x.2.1)) (Rs.pr (Rs.ok first) (Rs.pr (Rs.ok s) ((Rs.pr (Rs.ok p) (Rs.pr ((Rs.ok house).bind fun x => .ok (x.2.2.2.2)) ((Rs.ok other).bind fun x => .ok (x.2.2.2.2)))).bind (fun p => f_crossed_row p.1 p.2.1 p.2.2))))))))))))
noncomputable def f_sums_times (house : (Int × Int × (List Int) × (List (List (List Int))) × (List Int))) (other : (Int × Int × (List Int) × (List (List (List Int))) × (List Int))) : Rs (Int × Int × (List Int) × (List (List (List Int))) × (List Int)) := Rs.cl (m_sums_times house other)
theorem f_sums_times_eq (house : (Int × Int × (List Int) × (List (List (List Int))) × (List Int))) (other : (Int × Int × (List Int) × (List (List (List Int))) × (List Int))) : f_sums_times house other = m_sums_times house other := Rs.cl_eq _
def G_sums_times (P : Program) (w : World) (K : PySem.W.Frag) (mg : Str → Option Value) (base : Heap) (cm ad : Nat → Addr) (fdn : Nat → FuncData) : Prop := FnOk P w K mg base (L2.CX P w) 2 (ad 20) (fdn 20) ["house", "other"] (spT cm (HC (RTu (HC RI (HC RI (HC (RT RI) (HC (RT (RT (RT RI))) (Gd.H1 (RT RI))))))) (Gd.H1 (RTu (HC RI (HC RI (HC (RT RI) (HC (RT (RT (RT RI))) (Gd.H1 (RT RI))))))))) (RTu (HC RI (HC RI (HC (RT RI) (HC (RT (RT (RT RI))) (Gd.H1 (RT RI))))))) (fun (p : ((Int × Int × (List Int) × (List (List (List Int))) × (List Int)) × (Int × Int × (List Int) × (List (List (List Int))) × (List Int)))) => f_sums_times p.1 p.2))
theorem ok_sums_times {P : Program} {w : World} {K : PySem.W.Frag} {mg : Str → Option Value} {base : Heap} {cm ad : Nat → Addr} {fdn : Nat → FuncData} (T : Txt K mg cm ad fdn) (g_ask_like : G_ask_like P w K mg base cm ad fdn) (g_crossed_row : G_crossed_row P w K mg base cm ad fdn) : G_sums_times P w K mg base cm ad fdn := by
  unfold G_ask_like at g_ask_like
  unfold G_crossed_row at g_crossed_row
  refine def_go T.F_sums_times sc_sums_times (ent_cons ent_one) (fun _ => rfl) (fun cdv A outer s H E hr => ⟨_, (pss_cons (ps_expr (pe_callS g_ask_like (hr.mono (by decide)) (by rfl) T.g_ask_like T.F_ask_like.kp T.b_ask_like (fun σ => passAt tk_of σ) (pa_cons (pv 0) (pa_cons (pv 1) pa_nil)))) (pss_cons (ps_if (pt_cmpR op_gt (pe_op op_mul (pe_callB (len_K (K := K) rfl) (by rfl) T.z_len PySem.boot_len (pa_cons (pe_ix (ix_tupK (K := K) rfl) (pv 0) pe_int (fun _ _ => rfl)) pa_nil)) (pe_callB (len_K (K := K) rfl) (by rfl) T.z_len PySem.boot_len (pa_cons (pe_ix (ix_tupK (K := K) rfl) (pv 1) pe_int (fun _ _ => rfl)) pa_nil))) (pe_const (by rfl) T.c_WIDEST) (nomark _)) (pss_cons (ps_raise rfl tk_of (pmk_own PySem.F.excBase_ValueError T.x_BadHouse T.gx_BadHouse T.kx_BadHouse (raises_own T.bx_BadHouse T.tx_BadHouse) (by rfl))) pss_nil) pss_nil) (pss_cons (ps_set (i := 2) sc_sums_times.nd rfl (by first | exact .inl rfl | exact .inr rfl) (pe_ix (ix_tupK (K := K) rfl) (pv 0) pe_int (fun _ _ => rfl))) (pss_cons (ps_set (i := 3) sc_sums_times.nd rfl (by first | exact .inl rfl | exact .inr rfl) (pe_lst pa_nil)) (pss_cons (ps_for pass_of rfl (pi_range1 (by rfl) T.z_range (pa_cons (pe_ix (ix_tupK (K := K) rfl) (pv 0) pe_int (fun _ _ => rfl)) pa_nil)) (pg_name (i := 4) sc_sums_times.nd rfl (by first | exact .inl rfl | exact .inr rfl)) (pss_cons (ps_set (i := 5) sc_sums_times.nd rfl (by first | exact .inl rfl | exact .inr rfl) (pe_lst pa_nil)) (pss_cons (ps_for pass_of rfl (pi_tupK (K := K) rfl (pe_ix (ix_tupK (K := K) rfl) (pe_ix (ix_tupK (K := K) rfl) (pv 0) pe_int (fun _ _ => rfl)) (pv 4) (fun _ _ => rfl))) (pg_name (i := 6) sc_sums_times.nd rfl (by first | exact .inl rfl | exact .inr rfl)) (pss_cons (ps_expr (pe_bm PySem.F.plainAttrs_list PySem.F.slot_list_extend PySem.F.type_list_extend mt_extend (pv 5) (pa_cons (pe_lc (own := [("beside", 7)]) rfl sc_sums_times.nd (pi_tupK (K := K) rfl (pe_ix (ix_tupK (K := K) rfl) (pe_ix (ix_tupK (K := K) rfl) (pv 1) pe_int (fun _ _ => rfl)) (pv 4) (fun _ _ => rfl))) (blkOk_by (N := ["house", "other", "p", "tables", "letter", "rows", "row", "beside", "first"]) (sc := defScope s_sums_times) (by decide +kernel)) (fun _ _ _ _ _ => (pg_name (i := 7) sc_sums_times.nd rfl (by first | exact .inl rfl | exact .inr rfl))) (fun _ _ _ _ _ => pts_nil) (fun _ _ _ _ _ => (pe_call g_crossed_row (hr.mono (by decide)) (by rfl) T.g_crossed_row T.F_crossed_row.kp T.b_crossed_row .nil passL (pa_cons (pv 2) (pa_cons (pv 6) (pa_cons (pv 7) pa_nil)))))) pa_nil))) pss_nil)) (pss_cons (ps_expr (pe_bm PySem.F.plainAttrs_list PySem.F.slot_list_append PySem.F.type_list_append mt_append (pv 3) (pa_cons (pe_callTy (tuple_K (K := K) rfl) (by rfl) T.z_tuple PyProof.Rows.boot_tuple (pa_cons (pv 5) pa_nil)) pa_nil))) pss_nil)))) (pss_cons (ps_set (i := 8) sc_sums_times.nd rfl (by first | exact .inl rfl | exact .inr rfl) (pe_callS g_crossed_row (hr.mono (by decide)) (by rfl) T.g_crossed_row T.F_crossed_row.kp T.b_crossed_row (fun σ => passAt tk_of σ) (pa_cons (pv 2) (pa_cons (pe_ix (ix_tupK (K := K) rfl) (pv 0) pe_int (fun _ _ => rfl)) (pa_cons (pe_ix (ix_tupK (K := K) rfl) (pv 1) pe_int (fun _ _ => rfl)) pa_nil))))) (pss_cons (ps_ret (pe_tup (pa_cons (pv 2) (pa_cons (pe_ix (ix_tupK (K := K) rfl) (pv 0) pe_int (fun _ _ => rfl)) (pa_cons (pv 8) (pa_cons (pe_callTy (tuple_K (K := K) rfl) (by rfl) T.z_tuple PyProof.Rows.boot_tuple (pa_cons (pv 3) pa_nil)) (pa_cons (pe_callS g_crossed_row (hr.mono (by decide)) (by rfl) T.g_crossed_row T.F_crossed_row.kp T.b_crossed_row (fun σ => passAt tk_of σ) (pa_cons (pv 2) (pa_cons (pe_ix (ix_tupK (K := K) rfl) (pv 0) pe_int (fun _ _ => rfl)) (pa_cons (pe_ix (ix_tupK (K := K) rfl) (pv 1) pe_int (fun _ _ => rfl)) pa_nil)))) pa_nil))))))) pss_nil))))))), ?_⟩)
  suffices hb : ∀ (house : (Int × Int × (List Int) × (List (List (List Int))) × (List Int))) (other : (Int × Int × (List Int) × (List (List (List Int))) × (List Int))), Blk cm (fun cls d _ H => E cls d H) _ [.fz (RTu (HC RI (HC RI (HC (RT RI) (HC (RT (RT (RT RI))) (Gd.H1 (RT RI))))))) house, .fz (RTu (HC RI (HC RI (HC (RT RI) (HC (RT (RT (RT RI))) (Gd.H1 (RT RI))))))) other, .un, .un, .un, .un, .un, .un, .un] (f_sums_times house other) (CR (RTu (HC RI (HC RI (HC (RT RI) (HC (RT (RT (RT RI))) (Gd.H1 (RT RI)))))))) from fun p => hb p.1 p.2
  intro house other
  rw [f_sums_times_eq]
  unfold m_sums_times
  exact (b_drop (ev_call (ea_cons (ev_var (i := 0) rfl) (ea_one (ev_var (i := 1) rfl)))) fun _ => (b_ifR (et_cmp (ev_b2 oe_gt (ev_b2 oe_mul (ev_lent (ev_ixc (i := 2) (hsnd (hsnd (hfst (hfst hlast)))) rfl (ev_var (i := 0) rfl))) (ev_lent (ev_ixc (i := 2) (hsnd (hsnd (hfst (hfst hlast)))) rfl (ev_var (i := 1) rfl)))) ev_int)) (b_raise (e := 2) rfl (fun _ _ _ q => q)) (b_asg (i := 2) (ev_ixc (i := 0) (hfst (hfst (hfst (hfst hlast)))) rfl (ev_var (i := 0) rfl)) fun p => (b_new (i := 3) (en_lst ea_nilL (le1000 nil_len (by decide))) (by show 3 < 9; decide) fun tables => (b_for (S := ((List (List (List Int))))) (Inv := (fun s => [.fz (RTu (HC RI (HC RI (HC (RT RI) (HC (RT (RT (RT RI))) (Gd.H1 (RT RI))))))) house, .fz (RTu (HC RI (HC RI (HC (RT RI) (HC (RT (RT (RT RI))) (Gd.H1 (RT RI))))))) other, .fz RI p, .ow (OL (RT (RT RI))) s, .un, .un, .un, .un, .un])) (wi_rng1 (ea_one (ev_ixc (i := 1) (hsnd (hfst (hfst (hfst hlast)))) rfl (ev_var (i := 0) rfl)))) (eg_name 4) (.k (.k (.k (.k (.u (.u (.u (.u (.u .nil))))))))) (fun s letter => (b_new (i := 5) (en_lst ea_nilL (le1000 nil_len (by decide))) (by show 5 < 9; decide) fun rows => (b_for (S := ((List (List Int)))) (Inv := (fun s1 => [.fz (RTu (HC RI (HC RI (HC (RT RI) (HC (RT (RT (RT RI))) (Gd.H1 (RT RI))))))) house, .fz (RTu (HC RI (HC RI (HC (RT RI) (HC (RT (RT (RT RI))) (Gd.H1 (RT RI))))))) other, .fz RI p, .ow (OL (RT (RT RI))) s, .fz RI letter, .ow (OL (RT RI)) s1, .un, .un, .un])) (wi_tup (ev_b2 oe_ixt (ev_ixc (i := 3) (hsnd (hsnd (hsnd (hfst hlast)))) rfl (ev_var (i := 0) rfl)) (ev_var (i := 4) rfl))) (eg_name 6) (.k (.k (.k (.k (.k (.k (.u (.u (.u .nil))))))))) (fun s1 row => (b_extend (i := 5) rfl (el_fz (evn_fz (en_map (wi_tup (ev_b2 oe_ixt (ev_ixc (i := 3) (hsnd (hsnd (hsnd (hfst hlast)))) rfl (ev_var (i := 1) rfl)) (ev_var (i := 4) rfl))) (eg_name 7) (by decide) fun x => (ev_call0 (ea_cons (ev_var (i := 2) rfl) (ea_cons (ev_var (i := 6) rfl) (ea_one (ev_var (i := 7) rfl)))))))) fun rows1 => (b_nil (.k (.k (.k (.k (.k (.k (.u (.u (.u .nil)))))))))))) fun s1 => (b_app (i := 3) rfl (ev_tupl (el_ow (i := 5) rfl)) fun tables1 => (b_nil (.k (.k (.k (.k (.u (.u (.u (.u (.u .nil)))))))))))))) fun s => (b_asg (i := 8) (ev_call (ea_cons (ev_var (i := 2) rfl) (ea_cons (ev_ixc (i := 2) (hsnd (hsnd (hfst (hfst hlast)))) rfl (ev_var (i := 0) rfl)) (ea_one (ev_ixc (i := 2) (hsnd (hsnd (hfst (hfst hlast)))) rfl (ev_var (i := 1) rfl)))))) fun first => (b_ret (ev_tup (hl5_le) (ea_cons (ev_var (i := 2) rfl) (ea_cons (ev_ixc (i := 1) (hsnd (hfst (hfst (hfst hlast)))) rfl (ev_var (i := 0) rfl)) (ea_cons (ev_var (i := 8) rfl) (ea_cons (ev_tupl (el_ow (i := 3) rfl)) (ea_one (ev_call (ea_cons (ev_var (i := 2) rfl) (ea_cons (ev_ixc (i := 4) (hsnd (hsnd (hsnd (hsnd hlast)))) rfl (ev_var (i := 0) rfl)) (ea_one (ev_ixc (i := 4) (hsnd (hsnd (hsnd (hsnd hlast)))) rfl (ev_var (i := 1) rfl)))))))))))))))))))
/-! ### table_column -/
abbrev s_table_column : Stmt := topS 21
theorem sc_table_column : FnScope ["table", "at", "row"] ["table", "at"] (defScope s_table_column) := ⟨rfl, rfl, rfl, by decide +kernel, rfl, by decide +kernel, by decide +kernel⟩
noncomputable def m_table_column (table : (List (List Int))) (at_ : Int) : Rs (List Int) :=
  ((Rs.ok table).bind fun xs => Rs.mapR (fun x => (Rs.b2 (Rs.ok x) (Rs.ok at_) pyIx)) xs)
noncomputable def f_table_column (table : (List (List Int))) (at_ : Int) : Rs (List Int) := Rs.cl (m_table_column table at_)
theorem f_table_column_eq (table : (List (List Int))) (at_ : Int) : f_table_column table at_ = m_table_column table at_ := Rs.cl_eq _
def G_table_column (P : Program) (w : World) (K : PySem.W.Frag) (mg : Str → Option Value) (base : Heap) (cm ad : Nat → Addr) (fdn : Nat → FuncData) : Prop := FnOk P w K mg base (L2.CX P w) 1 (ad 21) (fdn 21) ["table", "at"] (spT cm (HC (RT (RT RI)) (Gd.H1 RI)) (RT RI) (fun (p : ((List (List Int)) × Int)) => f_table_column p.1 p.2))
theorem ok_table_column {P : Program} {w : World} {K : PySem.W.Frag} {mg : Str → Option Value} {base : Heap} {cm ad : Nat → Addr} {fdn : Nat → FuncData} (T : Txt K mg cm ad fdn)  : G_table_column P w K mg base cm ad fdn := by
  refine def_go T.F_table_column sc_table_column (ent_cons ent_one) (fun _ => rfl) (fun cdv A outer s H E hr => ⟨_, (pss_cons (ps_ret (pe_callTy (tuple_K (K := K) rfl) (by rfl) T.z_tuple PyProof.Rows.boot_tuple (pa_cons (pe_lc (own := [("row", 2)]) rfl sc_table_column.nd (pi_tupK (K := K) rfl (pv 0)) (blkOk_by (N := ["table", "at", "row"]) (sc := defScope s_table_column) (by decide +kernel)) (fun _ _ _ _ _ => (pg_name (i := 2) sc_table_column.nd rfl (by first | exact .inl rfl | exact .inr rfl))) (fun _ _ _ _ _ => pts_nil) (fun _ _ _ _ _ => (pe_ix (ix_tupK (K := K) rfl) (pv 2) (pv 1) (fun _ _ => rfl)))) pa_nil))) pss_nil), ?_⟩)
  suffices hb : ∀ (table : (List (List Int))) (at_ : Int), Blk cm (fun cls d _ H => E cls d H) _ [.fz (RT (RT RI)) table, .fz RI at_, .un] (f_table_column table at_) (CR (RT RI)) from fun p => hb p.1 p.2
  intro table at_
  rw [f_table_column_eq]
  unfold m_table_column
  exact (b_ret (ev_tupl (el_fz (evn_fz (en_map (wi_tup (ev_var (i := 0) rfl)) (eg_name 2) (by decide) fun x => (ev_b2 oe_ixt (ev_var (i := 2) rfl) (ev_var (i := 1) rfl)))))))
/-! ### sums_back -/
abbrev s_sums_back : Stmt := topS 22
theorem sc_sums_back : FnScope ["house", "tables", "table", "at"] ["house"] (defScope s_sums_back) := ⟨rfl, rfl, rfl, by decide +kernel, rfl, by decide +kernel, by decide +kernel⟩
noncomputable def m_sums_back (house : (Int × Int × (List Int) × (List (List (List Int))) × (List Int))) : Rs (Int × Int × (List Int) × (List (List (List Int))) × (List Int)) :=
  ((Rs.ok ([] : List (List (List Int)))).bind fun tables =>
  (((Rs.ok house).bind fun x => .ok (x.2.2.2.1)).bind fun xs => (Rs.foldR (fun (s : ((List (List (List Int))))) table =>
  (((((Rs.ok table).bind fun x => .ok (x.length : Int)).bind fun n => rngR 0 n).bind fun xs => Rs.mapR (fun x => ((Rs.pr (Rs.ok table) (Rs.ok x)).bind fun p => ((fun p => f_table_column p.1 p.2) p).noEx)) xs).bind fun a => (push s a).bind fun tables1 =>
  (Rs.ok tables1))) tables xs).bind fun s =>
  (Rs.pr ((Rs.ok house).bind fun x => .ok (x.1)) (Rs.pr ((Rs.ok house).bind fun x => .ok (x.2.1)) (Rs.pr ((Rs.ok house).bind fun x => .ok (x.2.2.2.2)) (Rs.pr (Rs.ok s) ((Rs.ok house).bind fun x => .ok (x.2.2.1))))))))
noncomputable def f_sums_back (house : (Int × Int × (List Int) × (List (List (List Int))) × (List Int))) : Rs (Int × Int × (List Int) × (List (List (List Int))) × (List Int)) := Rs.cl (m_sums_back house)
theorem f_sums_back_eq (house : (Int × Int × (List Int) × (List (List (List Int))) × (List Int))) : f_sums_back house = m_sums_back house := Rs.cl_eq _
def G_sums_back (P : Program) (w : World) (K : PySem.W.Frag) (mg : Str → Option Value) (base : Heap) (cm ad : Nat → Addr) (fdn : Nat → FuncData) : Prop := FnOk P w K mg base (L2.CX P w) 2 (ad 22) (fdn 22) ["house"] (spT cm (Gd.H1 (RTu (HC RI (HC RI (HC (RT RI) (HC (RT (RT (RT RI))) (Gd.H1 (RT RI)))))))) (RTu (HC RI (HC RI (HC (RT RI) (HC (RT (RT (RT RI))) (Gd.H1 (RT RI))))))) (fun (p : ((Int × Int × (List Int) × (List (List (List Int))) × (List Int)))) => f_sums_back p))
theorem ok_sums_back {P : Program} {w : World} {K : PySem.W.Frag} {mg : Str → Option Value} {base : Heap} {cm ad : Nat → Addr} {fdn : Nat → FuncData} (T : Txt K mg cm ad fdn) (g_table_column : G_table_column P w K mg base cm ad fdn) : G_sums_back P w K mg base cm ad fdn := by
  unfold G_table_column at g_table_column
  refine def_go T.F_sums_back sc_sums_back ent_one (fun _ => rfl) (fun cdv A outer s H E hr => ⟨_, (pss_cons (ps_set (i := 1) sc_sums_back.nd rfl (by first | exact .inl rfl | exact .inr rfl) (pe_lst pa_nil)) (pss_cons (ps_for pass_of rfl (pi_tupK (K := K) rfl (pe_ix (ix_tupK (K := K) rfl) (pv 0) pe_int (fun _ _ => rfl))) (pg_name (i := 2) sc_sums_back.nd rfl (by first | exact .inl rfl | exact .inr rfl)) (pss_cons (ps_expr (pe_bm PySem.F.plainAttrs_list PySem.F.slot_list_append PySem.F.type_list_append mt_append (pv 1) (pa_cons (pe_callTy (tuple_K (K := K) rfl) (by rfl) T.z_tuple PyProof.Rows.boot_tuple (pa_cons (pe_lc (own := [("at", 3)]) rfl sc_sums_back.nd (pi_range1 (by rfl) T.z_range (pa_cons (pe_callB (len_K (K := K) rfl) (by rfl) T.z_len PySem.boot_len (pa_cons (pv 2) pa_nil)) pa_nil)) (blkOk_by (N := ["house", "tables", "table", "at"]) (sc := defScope s_sums_back) (by decide +kernel)) (fun _ _ _ _ _ => (pg_name (i := 3) sc_sums_back.nd rfl (by first | exact .inl rfl | exact .inr rfl))) (fun _ _ _ _ _ => pts_nil) (fun _ _ _ _ _ => (pe_call g_table_column (hr.mono (by decide)) (by rfl) T.g_table_column T.F_table_column.kp T.b_table_column .nil passL (pa_cons (pv 2) (pa_cons (pv 3) pa_nil))))) pa_nil)) pa_nil))) pss_nil)) (pss_cons (ps_ret (pe_tup (pa_cons (pe_ix (ix_tupK (K := K) rfl) (pv 0) pe_int (fun _ _ => rfl)) (pa_cons (pe_ix (ix_tupK (K := K) rfl) (pv 0) pe_int (fun _ _ => rfl)) (pa_cons (pe_ix (ix_tupK (K := K) rfl) (pv 0) pe_int (fun _ _ => rfl)) (pa_cons (pe_callTy (tuple_K (K := K) rfl) (by rfl) T.z_tuple PyProof.Rows.boot_tuple (pa_cons (pv 1) pa_nil)) (pa_cons (pe_ix (ix_tupK (K := K) rfl) (pv 0) pe_int (fun _ _ => rfl)) pa_nil))))))) pss_nil))), ?_⟩)
  suffices hb : ∀ (house : (Int × Int × (List Int) × (List (List (List Int))) × (List Int))), Blk cm (fun cls d _ H => E cls d H) _ [.fz (RTu (HC RI (HC RI (HC (RT RI) (HC (RT (RT (RT RI))) (Gd.H1 (RT RI))))))) house, .un, .un, .un] (f_sums_back house) (CR (RTu (HC RI (HC RI (HC (RT RI) (HC (RT (RT (RT RI))) (Gd.H1 (RT RI)))))))) from fun p => hb p
  intro house
  rw [f_sums_back_eq]
  unfold m_sums_back
  exact (b_new (i := 1) (en_lst ea_nilL (le1000 nil_len (by decide))) (by show 1 < 4; decide) fun tables => (b_for (S := ((List (List (List Int))))) (Inv := (fun s => [.fz (RTu (HC RI (HC RI (HC (RT RI) (HC (RT (RT (RT RI))) (Gd.H1 (RT RI))))))) house, .ow (OL (RT (RT RI))) s, .un, .un])) (wi_tup (ev_ixc (i := 3) (hsnd (hsnd (hsnd (hfst hlast)))) rfl (ev_var (i := 0) rfl))) (eg_name 2) (.k (.k (.u (.u .nil)))) (fun s table => (b_app (i := 1) rfl (ev_tupl (el_fz (evn_fz (en_map (wi_rng1 (ea_one (ev_lent (ev_var (i := 2) rfl)))) (eg_name 3) (by decide) fun x => (ev_call0 (ea_cons (ev_var (i := 2) rfl) (ea_one (ev_var (i := 3) rfl)))))))) fun tables1 => (b_nil (.k (.k (.u (.u .nil))))))) fun s => (b_ret (ev_tup (hl5_le) (ea_cons (ev_ixc (i := 0) (hfst (hfst (hfst (hfst hlast)))) rfl (ev_var (i := 0) rfl)) (ea_cons (ev_ixc (i := 1) (hsnd (hfst (hfst (hfst hlast)))) rfl (ev_var (i := 0) rfl)) (ea_cons (ev_ixc (i := 4) (hsnd (hsnd (hsnd (hsnd hlast)))) rfl (ev_var (i := 0) rfl)) (ea_cons (ev_tupl (el_ow (i := 1) rfl)) (ea_one (ev_ixc (i := 2) (hsnd (hsnd (hfst (hfst hlast)))) rfl (ev_var (i := 0) rfl)))))))))))
/-! ### _law_cell -/
abbrev s__law_cell : Stmt := topS 24
theorem sc__law_cell : FnScope ["script", "k"] ["script", "k"] (defScope s__law_cell) := ⟨rfl, rfl, rfl, by decide +kernel, rfl, by decide +kernel, by decide +kernel⟩
noncomputable def m__law_cell (script : (List Int)) (k : Int) : Rs Int :=
  ((Rs.b2 (Rs.ok k) ((Rs.ok script).bind fun x => .ok (x.length : Int)) fun x y => .ok (decide (x < y))).bind fun b => if b = true then (Rs.b2 (Rs.ok script) (Rs.ok k) pyIx) else
  (Rs.ok (0 : Int)))
noncomputable def f__law_cell (script : (List Int)) (k : Int) : Rs Int := Rs.cl (m__law_cell script k)
theorem f__law_cell_eq (script : (List Int)) (k : Int) : f__law_cell script k = m__law_cell script k := Rs.cl_eq _
def G__law_cell (P : Program) (w : World) (K : PySem.W.Frag) (mg : Str → Option Value) (base : Heap) (cm ad : Nat → Addr) (fdn : Nat → FuncData) : Prop := FnOk P w K mg base (L2.CX P w) 1 (ad 24) (fdn 24) ["script", "k"] (spT cm (HC (RSc K) (Gd.H1 RI)) RI (fun (p : ((List Int) × Int)) => f__law_cell p.1 p.2))
theorem ok__law_cell {P : Program} {w : World} {K : PySem.W.Frag} {mg : Str → Option Value} {base : Heap} {cm ad : Nat → Addr} {fdn : Nat → FuncData} (T : Txt K mg cm ad fdn)  : G__law_cell P w K mg base cm ad fdn := by
  refine def_go T.F__law_cell sc__law_cell (ent_cons ent_one) (fun _ => rfl) (fun cdv A outer s H E hr => ⟨_, (pss_cons (ps_if (pt_cmpR op_lt (pv 1) (pe_callB (len_K (K := K) rfl) (by rfl) T.z_len PySem.boot_len (pa_cons (pv 0) pa_nil)) (nomark _)) (pss_cons (ps_ret (pe_ix (ix_listK (K := K) rfl) (pv 0) (pv 1) (fun _ _ => rfl))) pss_nil) pss_nil) (pss_cons (ps_ret pe_int) pss_nil)), ?_⟩)
  suffices hb : ∀ (script : (List Int)) (k : Int), Blk cm (fun cls d _ H => E cls d H) _ [.fz (RSc K) script, .fz RI k] (f__law_cell script k) (CR RI) from fun p => hb p.1 p.2
  intro script k
  rw [f__law_cell_eq]
  unfold m__law_cell
  exact (b_ifR (et_cmp (ev_b2 oe_lt (ev_var (i := 1) rfl) (ev_lens (ev_var (i := 0) rfl)))) (b_ret (ev_b2 oe_ixs (ev_var (i := 0) rfl) (ev_var (i := 1) rfl))) (b_ret ev_int))
/-! ### _law_is_prime -/
abbrev s__law_is_prime : Stmt := topS 25
theorem sc__law_is_prime : FnScope ["number", "part"] ["number"] (defScope s__law_is_prime) := ⟨rfl, rfl, rfl, by decide +kernel, rfl, by decide +kernel, by decide +kernel⟩
noncomputable def m__law_is_prime (number : Int) : Rs Bool :=
  (((Rs.pr (Rs.ok (2 : Int)) (Rs.ok number)).bind fun n => rngR n.1 n.2).bind fun xs => Rs.thn (Rs.forF (fun (s : Unit) part =>
  ((Rs.b2 (Rs.b2 (Rs.ok part) (Rs.ok part) mulR) (Rs.ok number) fun x y => .ok (decide (y < x))).bind fun b => if b = true then (Rs.ok true).bind (fun r => .ok (Fl.rt r)) else
  ((Rs.b2 (Rs.b2 (Rs.ok number) (Rs.ok part) modR) (Rs.ok (0 : Int)) fun x y => .ok (decide (x = y))).bind fun b => if b = true then (Rs.ok false).bind (fun r => .ok (Fl.rt r)) else
  (Rs.ok (Fl.nx ()))))) () xs) (fun r => r) fun s =>
  (Rs.ok true))
noncomputable def f__law_is_prime (number : Int) : Rs Bool := Rs.cl (m__law_is_prime number)
theorem f__law_is_prime_eq (number : Int) : f__law_is_prime number = m__law_is_prime number := Rs.cl_eq _
def G__law_is_prime (P : Program) (w : World) (K : PySem.W.Frag) (mg : Str → Option Value) (base : Heap) (cm ad : Nat → Addr) (fdn : Nat → FuncData) : Prop := FnOk P w K mg base (L2.CX P w) 1 (ad 25) (fdn 25) ["number"] (spT cm (Gd.H1 RI) RB (fun (p : (Int)) => f__law_is_prime p))
theorem ok__law_is_prime {P : Program} {w : World} {K : PySem.W.Frag} {mg : Str → Option Value} {base : Heap} {cm ad : Nat → Addr} {fdn : Nat → FuncData} (T : Txt K mg cm ad fdn)  : G__law_is_prime P w K mg base cm ad fdn := by
  refine def_go T.F__law_is_prime sc__law_is_prime ent_one (fun _ => rfl) (fun cdv A outer s H E hr => ⟨_, (pss_cons (ps_for pass_of rfl (pi_range2 (by rfl) T.z_range (pa_cons pe_int (pa_cons (pv 0) pa_nil))) (pg_name (i := 1) sc__law_is_prime.nd rfl (by first | exact .inl rfl | exact .inr rfl)) (pss_cons (ps_if (pt_cmpR op_gt (pe_op op_mul (pv 1) (pv 1)) (pv 0) (nomark _)) (pss_cons (ps_ret pe_bl) pss_nil) pss_nil) (pss_cons (ps_if (pt_cmpR op_eq (pe_op op_mod (pv 0) (pv 1)) pe_int (nomark _)) (pss_cons (ps_ret pe_bl) pss_nil) pss_nil) pss_nil))) (pss_cons (ps_ret pe_bl) pss_nil)), ?_⟩)
  suffices hb : ∀ (number : Int), Blk cm (fun cls d _ H => E cls d H) _ [.fz RI number, .un] (f__law_is_prime number) (CR RB) from fun p => hb p
  intro number
  rw [f__law_is_prime_eq]
  unfold m__law_is_prime
  exact (b_forF (S := Unit) (Inv := (fun s => [.fz RI number, .un])) up_r (wi_rng2 (ea_cons ev_int (ea_one (ev_var (i := 0) rfl)))) (eg_name 1) (.k (.u .nil)) (fun s part => (b_ifF (et_cmp (ev_b2 oe_gt (ev_b2 oe_mul (ev_var (i := 1) rfl) (ev_var (i := 1) rfl)) (ev_var (i := 0) rfl))) (b_ret ev_bl) (b_ifF (et_cmp (ev_b2 oe_eqI (ev_b2 oe_mod (ev_var (i := 0) rfl) (ev_var (i := 1) rfl)) ev_int)) (b_ret ev_bl) (b_nilF (.k (.u .nil)))))) fun s => (b_ret ev_bl))
/-! ### _law_prime -/
abbrev s__law_prime : Stmt := topS 26
theorem sc__law_prime : FnScope ["cell", "some", "number"] ["cell"] (defScope s__law_prime) := ⟨rfl, rfl, rfl, by decide +kernel, rfl, by decide +kernel, by decide +kernel⟩
noncomputable def m__law_prime (cell : Int) : Rs Int :=
  ((Rs.cs (Rs.ok (2 : Int)) (Rs.cs (Rs.ok (3 : Int)) (Rs.cs (Rs.ok (5 : Int)) (Rs.cs (Rs.ok (7 : Int)) (Rs.cs (Rs.ok (65537 : Int)) (Rs.cs (Rs.ok (998244353 : Int)) (Rs.cs (Rs.ok (2147483647 : Int)) (Rs.cs (Rs.ok (180143985094819841 : Int)) (Rs.ok ([] : List Int)))))))))).bind fun some_ =>
  ((Rs.b2 ((Rs.ok cell).bind fun x => .ok (x % 4)) (Rs.ok (3 : Int)) fun x y => .ok (decide (x < y))).bind fun b => if b = true then (Rs.b2 (Rs.ok some_) (((Rs.ok cell).bind fun x => .ok (x / 4)).bind fun x => .ok (x % 8)) pyIx) else
  ((Rs.b2 (Rs.ok (2 : Int)) (((Rs.ok cell).bind fun x => .ok (x / 4)).bind fun x => .ok (x % 200)) fun x y => .ok (x + y)).bind fun number =>
  ((Rs.whR (fun (s : (Int)) => (Rs.nt ((Rs.ok s).bind (fun p => f__law_is_prime p)))) (fun (s : (Int)) =>
  ((Rs.b2 (Rs.ok s) (Rs.ok (1 : Int)) fun x y => .ok (x + y)).bind fun number1 =>
  (Rs.ok number1))) number).bind fun s =>
  (Rs.ok s)))))
noncomputable def f__law_prime (cell : Int) : Rs Int := Rs.cl (m__law_prime cell)
theorem f__law_prime_eq (cell : Int) : f__law_prime cell = m__law_prime cell := Rs.cl_eq _
def G__law_prime (P : Program) (w : World) (K : PySem.W.Frag) (mg : Str → Option Value) (base : Heap) (cm ad : Nat → Addr) (fdn : Nat → FuncData) : Prop := FnOk P w K mg base (L2.CX P w) 2 (ad 26) (fdn 26) ["cell"] (spT cm (Gd.H1 RI) RI (fun (p : (Int)) => f__law_prime p))
theorem ok__law_prime {P : Program} {w : World} {K : PySem.W.Frag} {mg : Str → Option Value} {base : Heap} {cm ad : Nat → Addr} {fdn : Nat → FuncData} (T : Txt K mg cm ad fdn) (g__law_is_prime : G__law_is_prime P w K mg base cm ad fdn) : G__law_prime P w K mg base cm ad fdn := by
  unfold G__law_is_prime at g__law_is_prime
  refine def_go T.F__law_prime sc__law_prime ent_one (fun _ => rfl) (fun cdv A outer s H E hr => ⟨_, (pss_cons (ps_set (i := 1) sc__law_prime.nd rfl (by first | exact .inl rfl | exact .inr rfl) (pe_lst (pa_cons pe_int (pa_cons pe_int (pa_cons pe_int (pa_cons pe_int (pa_cons pe_int (pa_cons pe_int (pa_cons pe_int (pa_cons pe_int pa_nil)))))))))) (pss_cons (ps_if (pt_cmpR op_lt (pe_op op_mod (pv 0) pe_int) pe_int (nomark _)) (pss_cons (ps_ret (pe_ix (ix_listK (K := K) rfl) (pv 1) (pe_op op_mod (pe_op op_fdivW (pv 0) pe_int) pe_int) (fun _ _ => rfl))) pss_nil) pss_nil) (pss_cons (ps_set (i := 2) sc__law_prime.nd rfl (by first | exact .inl rfl | exact .inr rfl) (pe_op op_add pe_int (pe_op op_mod (pe_op op_fdivW (pv 0) pe_int) pe_int))) (pss_cons (ps_while pass_of (pt_not (pt_val (pe_callS g__law_is_prime (hr.mono (by decide)) (by rfl) T.g__law_is_prime T.F__law_is_prime.kp T.b__law_is_prime (fun σ => passAt tk_of σ) (pa_cons (pv 2) pa_nil)))) (pss_cons (ps_set (i := 2) sc__law_prime.nd rfl (by first | exact .inl rfl | exact .inr rfl) (pe_op op_add (pv 2) pe_int)) pss_nil)) (pss_cons (ps_ret (pv 2)) pss_nil))))), ?_⟩)
  suffices hb : ∀ (cell : Int), Blk cm (fun cls d _ H => E cls d H) _ [.fz RI cell, .un, .un] (f__law_prime cell) (CR RI) from fun p => hb p
  intro cell
  rw [f__law_prime_eq]
  unfold m__law_prime
  exact (b_asg (i := 1) (evn_fz (en_lst (ea_consL ev_int (ea_consL ev_int (ea_consL ev_int (ea_consL ev_int (ea_consL ev_int (ea_consL ev_int (ea_consL ev_int (ea_consL ev_int ea_nilL)))))))) (le1000 (cs_len (cs_len (cs_len (cs_len (cs_len (cs_len (cs_len (cs_len nil_len)))))))) (by decide)))) fun some_ => (b_ifR (et_cmp (ev_b2 oe_lt (ev_modc (by decide) (ev_var (i := 0) rfl)) ev_int)) (b_ret (ev_ixl2 (el_fz (ev_var (i := 1) rfl)) (ev_modc (by decide) (ev_divc (by decide) (ev_var (i := 0) rfl))))) (b_asg (i := 2) (ev_b2 oe_add ev_int (ev_modc (by decide) (ev_divc (by decide) (ev_var (i := 0) rfl)))) fun number => (b_while (S := (Int)) (Inv := (fun s => [.fz RI cell, .fz (RL RI) some_, .fz RI s])) (.k (.k (.k .nil))) (fun s => (et_not (et_val (ev_call (ea_one (ev_var (i := 2) rfl)))))) (fun s => (b_asg (i := 2) (ev_b2 oe_add (ev_var (i := 2) rfl) ev_int) fun number1 => (b_nil (.k (.k (.k .nil)))))) fun s => (b_ret (ev_var (i := 2) rfl))))))
/-! ### _law_whole -/
abbrev s__law_whole : Stmt := topS 27
theorem sc__law_whole : FnScope ["found"] ["found"] (defScope s__law_whole) := ⟨rfl, rfl, rfl, by decide +kernel, rfl, by decide +kernel, by decide +kernel⟩
noncomputable def m__law_whole (found : Int) : Rs Bool :=
  (Rs.an ((Rs.ok found).bind fun _ => .ok true) (Rs.nt ((Rs.ok found).bind fun _ => .ok false)))
noncomputable def f__law_whole (found : Int) : Rs Bool := Rs.cl (m__law_whole found)
theorem f__law_whole_eq (found : Int) : f__law_whole found = m__law_whole found := Rs.cl_eq _
def G__law_whole (P : Program) (w : World) (K : PySem.W.Frag) (mg : Str → Option Value) (base : Heap) (cm ad : Nat → Addr) (fdn : Nat → FuncData) : Prop := FnOk P w K mg base (L2.CX P w) 1 (ad 27) (fdn 27) ["found"] (spT cm (Gd.H1 RI) RB (fun (p : (Int)) => f__law_whole p))
theorem ok__law_whole {P : Program} {w : World} {K : PySem.W.Frag} {mg : Str → Option Value} {base : Heap} {cm ad : Nat → Addr} {fdn : Nat → FuncData} (T : Txt K mg cm ad fdn)  : G__law_whole P w K mg base cm ad fdn := by
  refine def_go T.F__law_whole sc__law_whole ent_one (fun _ => rfl) (fun cdv A outer s H E hr => ⟨_, (pss_cons (ps_ret (pe_and (pe_callB (isi_K (K := K) rfl) (by rfl) T.z_isinstance (by decide +kernel) (pa_cons (pv 0) (pa_cons (pe_bltn (v := .ty "int") (by rfl) T.z_int PyProof.Rows.boot_int rfl) pa_nil))) (pe_one (pe_not (pe_callB (isi_K (K := K) rfl) (by rfl) T.z_isinstance (by decide +kernel) (pa_cons (pv 0) (pa_cons (pe_bltn (v := .ty "bool") (by rfl) T.z_bool PyProof.Rows.boot_bool rfl) pa_nil))))))) pss_nil), ?_⟩)
  suffices hb : ∀ (found : Int), Blk cm (fun cls d _ H => E cls d H) _ [.fz RI found] (f__law_whole found) (CR RB) from fun p => hb p
  intro found
  rw [f__law_whole_eq]
  unfold m__law_whole
  exact (b_ret (ev_andV (ev_isi (b := true) tyI (by decide +kernel) (ev_var (i := 0) rfl)) (ev_notV (ev_isi (b := false) tyI (by decide +kernel) (ev_var (i := 0) rfl)))))
/-! ### _law_number -/
abbrev s__law_number : Stmt := topS 28
theorem sc__law_number : FnScope ["script", "k", "p", "many"] ["script", "k", "p"] (defScope s__law_number) := ⟨rfl, rfl, rfl, by decide +kernel, rfl, by decide +kernel, by decide +kernel⟩
noncomputable def m__law_number (script : (List Int)) (k : Int) (p : Int) : Rs Int :=
  ((Rs.b2 (Rs.ok k) ((Rs.ok script).bind fun x => .ok (x.length : Int)) fun x y => .ok (decide (x < y))).bind fun b => if b = true then (Rs.b2 (Rs.b2 (Rs.ok script) (Rs.ok k) pyIx) (Rs.ok p) modR) else
  (((Rs.pr (Rs.ok (1 : Int)) ((Rs.ok script).bind fun x => .ok (x.length : Int))).bind fun p => .ok (if p.2 > p.1 then p.2 else p.1)).bind fun many =>
  (Rs.b2 ((Rs.b2 (Rs.b2 ((((Rs.pr (Rs.ok script) (Rs.b2 (Rs.ok k) (Rs.ok many) modR)).bind (fun p => f__law_cell p.1 p.2)).bind fun x => .ok (x % 2147483647)).bind fun x => .ok (x * 48271)) ((Rs.b2 (Rs.ok k) (Rs.ok k) mulR).bind fun x => .ok (x * 31)) fun x y => .ok (x + y)) ((Rs.ok k).bind fun x => .ok (7 * x)) fun x y => .ok (x + y)).bind fun x => .ok (x % 2147483647)) (Rs.ok p) modR)))
noncomputable def f__law_number (script : (List Int)) (k : Int) (p : Int) : Rs Int := Rs.cl (m__law_number script k p)
theorem f__law_number_eq (script : (List Int)) (k : Int) (p : Int) : f__law_number script k p = m__law_number script k p := Rs.cl_eq _
def G__law_number (P : Program) (w : World) (K : PySem.W.Frag) (mg : Str → Option Value) (base : Heap) (cm ad : Nat → Addr) (fdn : Nat → FuncData) : Prop := FnOk P w K mg base (L2.CX P w) 2 (ad 28) (fdn 28) ["script", "k", "p"] (spT cm (HC (RSc K) (HC RI (Gd.H1 RI))) RI (fun (p : ((List Int) × Int × Int)) => f__law_number p.1 p.2.1 p.2.2))
theorem ok__law_number {P : Program} {w : World} {K : PySem.W.Frag} {mg : Str → Option Value} {base : Heap} {cm ad : Nat → Addr} {fdn : Nat → FuncData} (T : Txt K mg cm ad fdn) (g__law_cell : G__law_cell P w K mg base cm ad fdn) : G__law_number P w K mg base cm ad fdn := by
  unfold G__law_cell at g__law_cell
  refine def_go T.F__law_number sc__law_number (ent_cons (ent_cons ent_one)) (fun _ => rfl) (fun cdv A outer s H E hr => ⟨_, (pss_cons (ps_if (pt_cmpR op_lt (pv 1) (pe_callB (len_K (K := K) rfl) (by rfl) T.z_len PySem.boot_len (pa_cons (pv 0) pa_nil)) (nomark _)) (pss_cons (ps_ret (pe_op op_mod (pe_ix (ix_listK (K := K) rfl) (pv 0) (pv 1) (fun _ _ => rfl)) (pv 2))) pss_nil) pss_nil) (pss_cons (ps_set (i := 3) sc__law_number.nd rfl (by first | exact .inl rfl | exact .inr rfl) (pe_callB (call_max2 rfl) (by rfl) T.z_max (by decide +kernel) (pa_cons pe_int (pa_cons (pe_callB (len_K (K := K) rfl) (by rfl) T.z_len PySem.boot_len (pa_cons (pv 0) pa_nil)) pa_nil)))) (pss_cons (ps_ret (pe_op op_mod (pe_op op_mod (pe_op op_add (pe_op op_add (pe_op op_mul (pe_op op_mod (pe_callS g__law_cell (hr.mono (by decide)) (by rfl) T.g__law_cell T.F__law_cell.kp T.b__law_cell (fun σ => passAt tk_of σ) (pa_cons (pv 0) (pa_cons (pe_op op_mod (pv 1) (pv 3)) pa_nil))) pe_int) pe_int) (pe_op op_mul (pe_op op_mul (pv 1) (pv 1)) pe_int)) (pe_op op_mul pe_int (pv 1))) pe_int) (pv 2))) pss_nil))), ?_⟩)
  suffices hb : ∀ (script : (List Int)) (k : Int) (p : Int), Blk cm (fun cls d _ H => E cls d H) _ [.fz (RSc K) script, .fz RI k, .fz RI p, .un] (f__law_number script k p) (CR RI) from fun p => hb p.1 p.2.1 p.2.2
  intro script k p
  rw [f__law_number_eq]
  unfold m__law_number
  exact (b_ifR (et_cmp (ev_b2 oe_lt (ev_var (i := 1) rfl) (ev_lens (ev_var (i := 0) rfl)))) (b_ret (ev_b2 oe_mod (ev_b2 oe_ixs (ev_var (i := 0) rfl) (ev_var (i := 1) rfl)) (ev_var (i := 2) rfl))) (b_asg (i := 3) (ev_cb ce_max2 (ea_cons ev_int (ea_one (ev_lens (ev_var (i := 0) rfl))))) fun many => (b_ret (ev_b2 oe_mod (ev_modc (by decide) (ev_b2 oe_add (ev_b2 oe_add (ev_mulc (by decide) (ev_modc (by decide) (ev_call (ea_cons (ev_var (i := 0) rfl) (ea_one (ev_b2 oe_mod (ev_var (i := 1) rfl) (ev_var (i := 3) rfl))))))) (ev_mulc (by decide) (ev_b2 oe_mul (ev_var (i := 1) rfl) (ev_var (i := 1) rfl)))) (ev_cmul (by decide) (ev_var (i := 1) rfl)))) (ev_var (i := 2) rfl)))))
/-! ### _law_row -/
abbrev s__law_row : Stmt := topS 29
theorem sc__law_row : FnScope ["script", "at", "many", "p", "k"] ["script", "at", "many", "p"] (defScope s__law_row) := ⟨rfl, rfl, rfl, by decide +kernel, rfl, by decide +kernel, by decide +kernel⟩
noncomputable def m__law_row (script : (List Int)) (at_ : Int) (many : Int) (p : Int) : Rs (List Int) :=
  (((Rs.ok many).bind fun n => rngR 0 n).bind fun xs => Rs.mapR (fun x => ((Rs.pr (Rs.ok script) (Rs.pr (Rs.b2 (Rs.ok at_) (Rs.ok x) fun x y => .ok (x + y)) (Rs.ok p))).bind fun p => ((fun p => f__law_number p.1 p.2.1 p.2.2) p).noEx)) xs)
noncomputable def f__law_row (script : (List Int)) (at_ : Int) (many : Int) (p : Int) : Rs (List Int) := Rs.cl (m__law_row script at_ many p)
theorem f__law_row_eq (script : (List Int)) (at_ : Int) (many : Int) (p : Int) : f__law_row script at_ many p = m__law_row script at_ many p := Rs.cl_eq _
def G__law_row (P : Program) (w : World) (K : PySem.W.Frag) (mg : Str → Option Value) (base : Heap) (cm ad : Nat → Addr) (fdn : Nat → FuncData) : Prop := FnOk P w K mg base (L2.CX P w) 3 (ad 29) (fdn 29) ["script", "at", "many", "p"] (spT cm (HC (RSc K) (HC RI (HC RI (Gd.H1 RI)))) (RT RI) (fun (p : ((List Int) × Int × Int × Int)) => f__law_row p.1 p.2.1 p.2.2.1 p.2.2.2))
theorem ok__law_row {P : Program} {w : World} {K : PySem.W.Frag} {mg : Str → Option Value} {base : Heap} {cm ad : Nat → Addr} {fdn : Nat → FuncData} (T : Txt K mg cm ad fdn) (g__law_number : G__law_number P w K mg base cm ad fdn) : G__law_row P w K mg base cm ad fdn := by
  unfold G__law_number at g__law_number
  refine def_go T.F__law_row sc__law_row (ent_cons (ent_cons (ent_cons ent_one))) (fun _ => rfl) (fun cdv A outer s H E hr => ⟨_, (pss_cons (ps_ret (pe_callTy (tuple_K (K := K) rfl) (by rfl) T.z_tuple PyProof.Rows.boot_tuple (pa_cons (pe_lc (own := [("k", 4)]) rfl sc__law_row.nd (pi_range1 (by rfl) T.z_range (pa_cons (pv 2) pa_nil)) (blkOk_by (N := ["script", "at", "many", "p", "k"]) (sc := defScope s__law_row) (by decide +kernel)) (fun _ _ _ _ _ => (pg_name (i := 4) sc__law_row.nd rfl (by first | exact .inl rfl | exact .inr rfl))) (fun _ _ _ _ _ => pts_nil) (fun _ _ _ _ _ => (pe_call g__law_number (hr.mono (by decide)) (by rfl) T.g__law_number T.F__law_number.kp T.b__law_number .nil passL (pa_cons (pv 0) (pa_cons (pe_op op_add (pv 1) (pv 4)) (pa_cons (pv 3) pa_nil)))))) pa_nil))) pss_nil), ?_⟩)
  suffices hb : ∀ (script : (List Int)) (at_ : Int) (many : Int) (p : Int), Blk cm (fun cls d _ H => E cls d H) _ [.fz (RSc K) script, .fz RI at_, .fz RI many, .fz RI p, .un] (f__law_row script at_ many p) (CR (RT RI)) from fun p => hb p.1 p.2.1 p.2.2.1 p.2.2.2
  intro script at_ many p
  rw [f__law_row_eq]
  unfold m__law_row
  exact (b_ret (ev_tupl (el_fz (evn_fz (en_map (wi_rng1 (ea_one (ev_var (i := 2) rfl))) (eg_name 4) (by decide) fun x => (ev_call0 (ea_cons (ev_var (i := 0) rfl) (ea_cons (ev_b2 oe_add (ev_var (i := 1) rfl) (ev_var (i := 4) rfl)) (ea_one (ev_var (i := 3) rfl))))))))))
/-! ### _law_row_is -/
abbrev s__law_row_is : Stmt := topS 30
theorem sc__law_row_is : FnScope ["found", "due", "k"] ["found", "due"] (defScope s__law_row_is) := ⟨rfl, rfl, rfl, by decide +kernel, rfl, by decide +kernel, by decide +kernel⟩
noncomputable def m__law_row_is (found : (List Int)) (due : (List Int)) : Rs Bool :=
  ((Rs.or (Rs.nt ((Rs.ok found).bind fun _ => .ok true)) (Rs.b2 ((Rs.ok found).bind fun x => .ok (x.length : Int)) ((Rs.ok due).bind fun x => .ok (x.length : Int)) fun x y => .ok (!decide (x = y)))).bind fun b => if b = true then (Rs.ok false) else
  ((((Rs.ok due).bind fun x => .ok (x.length : Int)).bind fun n => rngR 0 n).bind fun xs => Rs.thn (Rs.forF (fun (s : Unit) k =>
  ((Rs.or (Rs.nt ((Rs.b2 (Rs.ok found) (Rs.ok k) pyIx).bind (fun p => f__law_whole p))) (Rs.b2 (Rs.b2 (Rs.ok found) (Rs.ok k) pyIx) (Rs.b2 (Rs.ok due) (Rs.ok k) pyIx) fun x y => .ok (!decide (x = y)))).bind fun b => if b = true then (Rs.ok false).bind (fun r => .ok (Fl.rt r)) else
  (Rs.ok (Fl.nx ())))) () xs) (fun r => r) fun s =>
  (Rs.ok true)))
noncomputable def f__law_row_is (found : (List Int)) (due : (List Int)) : Rs Bool := Rs.cl (m__law_row_is found due)
theorem f__law_row_is_eq (found : (List Int)) (due : (List Int)) : f__law_row_is found due = m__law_row_is found due := Rs.cl_eq _
def G__law_row_is (P : Program) (w : World) (K : PySem.W.Frag) (mg : Str → Option Value) (base : Heap) (cm ad : Nat → Addr) (fdn : Nat → FuncData) : Prop := FnOk P w K mg base (L2.CX P w) 2 (ad 30) (fdn 30) ["found", "due"] (spT cm (HC (RT RI) (Gd.H1 (RT RI))) RB (fun (p : ((List Int) × (List Int))) => f__law_row_is p.1 p.2))
theorem ok__law_row_is {P : Program} {w : World} {K : PySem.W.Frag} {mg : Str → Option Value} {base : Heap} {cm ad : Nat → Addr} {fdn : Nat → FuncData} (T : Txt K mg cm ad fdn) (g__law_whole : G__law_whole P w K mg base cm ad fdn) : G__law_row_is P w K mg base cm ad fdn := by
  unfold G__law_whole at g__law_whole
  refine def_go T.F__law_row_is sc__law_row_is (ent_cons ent_one) (fun _ => rfl) (fun cdv A outer s H E hr => ⟨_, (pss_cons (ps_if (PW.pt (pw_or (pt_not (pt_val (pe_callB (isi_K (K := K) rfl) (by rfl) T.z_isinstance (by decide +kernel) (pa_cons (pv 0) (pa_cons (pe_bltn (v := .ty "tuple") (by rfl) T.z_tuple PyProof.Rows.boot_tuple rfl) pa_nil))))) (pw_or1 (pt_cmpR op_ne (pe_callB (len_K (K := K) rfl) (by rfl) T.z_len PySem.boot_len (pa_cons (pv 0) pa_nil)) (pe_callB (len_K (K := K) rfl) (by rfl) T.z_len PySem.boot_len (pa_cons (pv 1) pa_nil)) (nomark _))))) (pss_cons (ps_ret pe_bl) pss_nil) pss_nil) (pss_cons (ps_for pass_of rfl (pi_range1 (by rfl) T.z_range (pa_cons (pe_callB (len_K (K := K) rfl) (by rfl) T.z_len PySem.boot_len (pa_cons (pv 1) pa_nil)) pa_nil)) (pg_name (i := 2) sc__law_row_is.nd rfl (by first | exact .inl rfl | exact .inr rfl)) (pss_cons (ps_if (PW.pt (pw_or (pt_not (pt_val (pe_callS g__law_whole (hr.mono (by decide)) (by rfl) T.g__law_whole T.F__law_whole.kp T.b__law_whole (fun σ => passAt tk_of σ) (pa_cons (pe_ix (ix_tupK (K := K) rfl) (pv 0) (pv 2) (fun _ _ => rfl)) pa_nil)))) (pw_or1 (pt_cmpR op_ne (pe_ix (ix_tupK (K := K) rfl) (pv 0) (pv 2) (fun _ _ => rfl)) (pe_ix (ix_tupK (K := K) rfl) (pv 1) (pv 2) (fun _ _ => rfl)) (nomark _))))) (pss_cons (ps_ret pe_bl) pss_nil) pss_nil) pss_nil)) (pss_cons (ps_ret pe_bl) pss_nil))), ?_⟩)
  suffices hb : ∀ (found : (List Int)) (due : (List Int)), Blk cm (fun cls d _ H => E cls d H) _ [.fz (RT RI) found, .fz (RT RI) due, .un] (f__law_row_is found due) (CR RB) from fun p => hb p.1 p.2
  intro found due
  rw [f__law_row_is_eq]
  unfold m__law_row_is
  exact (b_ifR (et_or (et_not (et_val (ev_isi (b := true) tyT (by decide +kernel) (ev_var (i := 0) rfl)))) (et_cmp (ev_b2 oe_neI (ev_lent (ev_var (i := 0) rfl)) (ev_lent (ev_var (i := 1) rfl))))) (b_ret ev_bl) (b_forF (S := Unit) (Inv := (fun s => [.fz (RT RI) found, .fz (RT RI) due, .un])) up_r (wi_rng1 (ea_one (ev_lent (ev_var (i := 1) rfl)))) (eg_name 2) (.k (.k (.u .nil))) (fun s k => (b_ifF (et_or (et_not (et_val (ev_call (ea_one (ev_b2 oe_ixt (ev_var (i := 0) rfl) (ev_var (i := 2) rfl)))))) (et_cmp (ev_b2 oe_neI (ev_b2 oe_ixt (ev_var (i := 0) rfl) (ev_var (i := 2) rfl)) (ev_b2 oe_ixt (ev_var (i := 1) rfl) (ev_var (i := 2) rfl))))) (b_ret ev_bl) (b_nilF (.k (.k (.u .nil)))))) fun s => (b_ret ev_bl)))
/-! ### _law_house -/
abbrev s__law_house : Stmt := topS 31
theorem sc__law_house : FnScope ["script", "at", "p", "letters", "many", "tables", "letter", "base", "k", "first"] ["script", "at", "p", "letters", "many"] (defScope s__law_house) := ⟨rfl, rfl, rfl, by decide +kernel, rfl, by decide +kernel, by decide +kernel⟩
noncomputable def m__law_house (script : (List Int)) (at_ : Int) (p : Int) (letters : Int) (many : Int) : Rs (Int × Int × (List Int) × (List (List (List Int))) × (List Int)) :=
  ((Rs.ok ([] : List (List (List Int)))).bind fun tables =>
  (((Rs.ok letters).bind fun n => rngR 0 n).bind fun xs => (Rs.foldR (fun (s : ((List (List (List Int))))) letter =>
  ((Rs.b2 (Rs.b2 (Rs.ok at_) ((Rs.ok many).bind fun x => .ok (2 * x)) fun x y => .ok (x + y)) (Rs.b2 (Rs.b2 (Rs.ok letter) (Rs.ok many) mulR) (Rs.ok many) mulR) fun x y => .ok (x + y)).bind fun base =>
  ((((Rs.ok many).bind fun n => rngR 0 n).bind fun xs => Rs.mapR (fun x => ((Rs.pr (Rs.ok script) (Rs.pr (Rs.b2 (Rs.ok base) (Rs.b2 (Rs.ok many) (Rs.ok x) mulR) fun x y => .ok (x + y)) (Rs.pr (Rs.ok many) (Rs.ok p)))).bind fun p => ((fun p => f__law_row p.1 p.2.1 p.2.2.1 p.2.2.2) p).noEx)) xs).bind fun a => (push s a).bind fun tables1 =>
  (Rs.ok tables1)))) tables xs).bind fun s =>
  (((Rs.pr (Rs.ok script) (Rs.pr (Rs.ok at_) (Rs.pr (Rs.ok many) (Rs.ok p)))).bind (fun p => f__law_row p.1 p.2.1 p.2.2.1 p.2.2.2)).bind fun first =>
  (Rs.pr (Rs.ok p) (Rs.pr (Rs.ok letters) (Rs.pr (Rs.ok first) (Rs.pr (Rs.ok s) ((Rs.pr (Rs.ok script) (Rs.pr (Rs.b2 (Rs.ok at_) (Rs.ok many) fun x y => .ok (x + y)) (Rs.pr (Rs.ok many) (Rs.ok p)))).bind (fun p => f__law_row p.1 p.2.1 p.2.2.1 p.2.2.2)))))))))
noncomputable def f__law_house (script : (List Int)) (at_ : Int) (p : Int) (letters : Int) (many : Int) : Rs (Int × Int × (List Int) × (List (List (List Int))) × (List Int)) := Rs.cl (m__law_house script at_ p letters many)
theorem f__law_house_eq (script : (List Int)) (at_ : Int) (p : Int) (letters : Int) (many : Int) : f__law_house script at_ p letters many = m__law_house script at_ p letters many := Rs.cl_eq _
def G__law_house (P : Program) (w : World) (K : PySem.W.Frag) (mg : Str → Option Value) (base : Heap) (cm ad : Nat → Addr) (fdn : Nat → FuncData) : Prop := FnOk P w K mg base (L2.CX P w) 4 (ad 31) (fdn 31) ["script", "at", "p", "letters", "many"] (spT cm (HC (RSc K) (HC RI (HC RI (HC RI (Gd.H1 RI))))) (RTu (HC RI (HC RI (HC (RT RI) (HC (RT (RT (RT RI))) (Gd.H1 (RT RI))))))) (fun (p : ((List Int) × Int × Int × Int × Int)) => f__law_house p.1 p.2.1 p.2.2.1 p.2.2.2.1 p.2.2.2.2))
theorem ok__law_house {P : Program} {w : World} {K : PySem.W.Frag} {mg : Str → Option Value} {base : Heap} {cm ad : Nat → Addr} {fdn : Nat → FuncData} (T : Txt K mg cm ad fdn) (g__law_row : G__law_row P w K mg base cm ad fdn) : G__law_house P w K mg base cm ad fdn := by
  unfold G__law_row at g__law_row
  refine def_go T.F__law_house sc__law_house (ent_cons (ent_cons (ent_cons (ent_cons ent_one)))) (fun _ => rfl) (fun cdv A outer s H E hr => ⟨_, (pss_cons (ps_set (i := 5) sc__law_house.nd rfl (by first | exact .inl rfl | exact .inr rfl) (pe_lst pa_nil)) (pss_cons (ps_for pass_of rfl (pi_range1 (by rfl) T.z_range (pa_cons (pv 3) pa_nil)) (pg_name (i := 6) sc__law_house.nd rfl (by first | exact .inl rfl | exact .inr rfl)) (pss_cons (ps_set (i := 7) sc__law_house.nd rfl (by first | exact .inl rfl | exact .inr rfl) (pe_op op_add (pe_op op_add (pv 1) (pe_op op_mul pe_int (pv 4))) (pe_op op_mul (pe_op op_mul (pv 6) (pv 4)) (pv 4)))) (pss_cons (ps_expr (pe_bm PySem.F.plainAttrs_list PySem.F.slot_list_append PySem.F.type_list_append mt_append (pv 5) (pa_cons (pe_callTy (tuple_K (K := K) rfl) (by rfl) T.z_tuple PyProof.Rows.boot_tuple (pa_cons (pe_lc (own := [("k", 8)]) rfl sc__law_house.nd (pi_range1 (by rfl) T.z_range (pa_cons (pv 4) pa_nil)) (blkOk_by (N := ["script", "at", "p", "letters", "many", "tables", "letter", "base", "k", "first"]) (sc := defScope s__law_house) (by decide +kernel)) (fun _ _ _ _ _ => (pg_name (i := 8) sc__law_house.nd rfl (by first | exact .inl rfl | exact .inr rfl))) (fun _ _ _ _ _ => pts_nil) (fun _ _ _ _ _ => (pe_call g__law_row (hr.mono (by decide)) (by rfl) T.g__law_row T.F__law_row.kp T.b__law_row .nil passL (pa_cons (pv 0) (pa_cons (pe_op op_add (pv 7) (pe_op op_mul (pv 4) (pv 8))) (pa_cons (pv 4) (pa_cons (pv 2) pa_nil))))))) pa_nil)) pa_nil))) pss_nil))) (pss_cons (ps_set (i := 9) sc__law_house.nd rfl (by first | exact .inl rfl | exact .inr rfl) (pe_callS g__law_row (hr.mono (by decide)) (by rfl) T.g__law_row T.F__law_row.kp T.b__law_row (fun σ => passAt tk_of σ) (pa_cons (pv 0) (pa_cons (pv 1) (pa_cons (pv 4) (pa_cons (pv 2) pa_nil)))))) (pss_cons (ps_ret (pe_tup (pa_cons (pv 2) (pa_cons (pv 3) (pa_cons (pv 9) (pa_cons (pe_callTy (tuple_K (K := K) rfl) (by rfl) T.z_tuple PyProof.Rows.boot_tuple (pa_cons (pv 5) pa_nil)) (pa_cons (pe_callS g__law_row (hr.mono (by decide)) (by rfl) T.g__law_row T.F__law_row.kp T.b__law_row (fun σ => passAt tk_of σ) (pa_cons (pv 0) (pa_cons (pe_op op_add (pv 1) (pv 4)) (pa_cons (pv 4) (pa_cons (pv 2) pa_nil))))) pa_nil))))))) pss_nil)))), ?_⟩)
  suffices hb : ∀ (script : (List Int)) (at_ : Int) (p : Int) (letters : Int) (many : Int), Blk cm (fun cls d _ H => E cls d H) _ [.fz (RSc K) script, .fz RI at_, .fz RI p, .fz RI letters, .fz RI many, .un, .un, .un, .un, .un] (f__law_house script at_ p letters many) (CR (RTu (HC RI (HC RI (HC (RT RI) (HC (RT (RT (RT RI))) (Gd.H1 (RT RI)))))))) from fun p => hb p.1 p.2.1 p.2.2.1 p.2.2.2.1 p.2.2.2.2
  intro script at_ p letters many
  rw [f__law_house_eq]
  unfold m__law_house
  exact (b_new (i := 5) (en_lst ea_nilL (le1000 nil_len (by decide))) (by show 5 < 10; decide) fun tables => (b_for (S := ((List (List (List Int))))) (Inv := (fun s => [.fz (RSc K) script, .fz RI at_, .fz RI p, .fz RI letters, .fz RI many, .ow (OL (RT (RT RI))) s, .un, .un, .un, .un])) (wi_rng1 (ea_one (ev_var (i := 3) rfl))) (eg_name 6) (.k (.k (.k (.k (.k (.k (.u (.u (.u (.u .nil)))))))))) (fun s letter => (b_asg (i := 7) (ev_b2 oe_add (ev_b2 oe_add (ev_var (i := 1) rfl) (ev_cmul (by decide) (ev_var (i := 4) rfl))) (ev_b2 oe_mul (ev_b2 oe_mul (ev_var (i := 6) rfl) (ev_var (i := 4) rfl)) (ev_var (i := 4) rfl))) fun base => (b_app (i := 5) rfl (ev_tupl (el_fz (evn_fz (en_map (wi_rng1 (ea_one (ev_var (i := 4) rfl))) (eg_name 8) (by decide) fun x => (ev_call0 (ea_cons (ev_var (i := 0) rfl) (ea_cons (ev_b2 oe_add (ev_var (i := 7) rfl) (ev_b2 oe_mul (ev_var (i := 4) rfl) (ev_var (i := 8) rfl))) (ea_cons (ev_var (i := 4) rfl) (ea_one (ev_var (i := 2) rfl)))))))))) fun tables1 => (b_nil (.k (.k (.k (.k (.k (.k (.u (.u (.u (.u .nil)))))))))))))) fun s => (b_asg (i := 9) (ev_call (ea_cons (ev_var (i := 0) rfl) (ea_cons (ev_var (i := 1) rfl) (ea_cons (ev_var (i := 4) rfl) (ea_one (ev_var (i := 2) rfl)))))) fun first => (b_ret (ev_tup (hl5_le) (ea_cons (ev_var (i := 2) rfl) (ea_cons (ev_var (i := 3) rfl) (ea_cons (ev_var (i := 9) rfl) (ea_cons (ev_tupl (el_ow (i := 5) rfl)) (ea_one (ev_call (ea_cons (ev_var (i := 0) rfl) (ea_cons (ev_b2 oe_add (ev_var (i := 1) rfl) (ev_var (i := 4) rfl)) (ea_cons (ev_var (i := 4) rfl) (ea_one (ev_var (i := 2) rfl))))))))))))))))
/-! ### _law_step -/
abbrev s__law_step : Stmt := topS 32
theorem sc__law_step : FnScope ["p", "row", "table", "told", "c", "k"] ["p", "row", "table"] (defScope s__law_step) := ⟨rfl, rfl, rfl, by decide +kernel, rfl, by decide +kernel, by decide +kernel⟩
noncomputable def m__law_step (p : Int) (row : (List Int)) (table : (List (List Int))) : Rs (List Int) :=
  ((Rs.ok ([] : List Int)).bind fun told =>
  ((((Rs.ok row).bind fun x => .ok (x.length : Int)).bind fun n => rngR 0 n).bind fun xs => (Rs.foldR (fun (s : ((List Int))) c =>
  ((Rs.b2 (((((Rs.ok row).bind fun x => .ok (x.length : Int)).bind fun n => rngR 0 n).bind fun xs => Rs.mapR (fun x => (Rs.b2 (Rs.b2 (Rs.ok row) (Rs.ok x) pyIx) (Rs.b2 (Rs.b2 (Rs.ok table) (Rs.ok x) pyIx) (Rs.ok c) pyIx) mulR)) xs).bind fun x => .ok x.sum) (Rs.ok p) modR).bind fun a => (push s a).bind fun told1 =>
  (Rs.ok told1))) told xs).bind fun s =>
  (Rs.ok s)))
noncomputable def f__law_step (p : Int) (row : (List Int)) (table : (List (List Int))) : Rs (List Int) := Rs.cl (m__law_step p row table)
theorem f__law_step_eq (p : Int) (row : (List Int)) (table : (List (List Int))) : f__law_step p row table = m__law_step p row table := Rs.cl_eq _
def G__law_step (P : Program) (w : World) (K : PySem.W.Frag) (mg : Str → Option Value) (base : Heap) (cm ad : Nat → Addr) (fdn : Nat → FuncData) : Prop := FnOk P w K mg base (L2.CX P w) 1 (ad 32) (fdn 32) ["p", "row", "table"] (spT cm (HC RI (HC (RT RI) (Gd.H1 (RT (RT RI))))) (RT RI) (fun (p : (Int × (List Int) × (List (List Int)))) => f__law_step p.1 p.2.1 p.2.2))
theorem ok__law_step {P : Program} {w : World} {K : PySem.W.Frag} {mg : Str → Option Value} {base : Heap} {cm ad : Nat → Addr} {fdn : Nat → FuncData} (T : Txt K mg cm ad fdn)  : G__law_step P w K mg base cm ad fdn := by
  refine def_go T.F__law_step sc__law_step (ent_cons (ent_cons ent_one)) (fun _ => rfl) (fun cdv A outer s H E hr => ⟨_, (pss_cons (ps_set (i := 3) sc__law_step.nd rfl (by first | exact .inl rfl | exact .inr rfl) (pe_lst pa_nil)) (pss_cons (ps_for pass_of rfl (pi_range1 (by rfl) T.z_range (pa_cons (pe_callB (len_K (K := K) rfl) (by rfl) T.z_len PySem.boot_len (pa_cons (pv 1) pa_nil)) pa_nil)) (pg_name (i := 4) sc__law_step.nd rfl (by first | exact .inl rfl | exact .inr rfl)) (pss_cons (ps_expr (pe_bm PySem.F.plainAttrs_list PySem.F.slot_list_append PySem.F.type_list_append mt_append (pv 3) (pa_cons (pe_op op_mod (pe_callB (sum_K (K := K) rfl rfl) (by rfl) T.z_sum (by decide +kernel) (pa_cons (pe_lc (own := [("k", 5)]) rfl sc__law_step.nd (pi_range1 (by rfl) T.z_range (pa_cons (pe_callB (len_K (K := K) rfl) (by rfl) T.z_len PySem.boot_len (pa_cons (pv 1) pa_nil)) pa_nil)) (blkOk_by (N := ["p", "row", "table", "told", "c", "k"]) (sc := defScope s__law_step) (by decide +kernel)) (fun _ _ _ _ _ => (pg_name (i := 5) sc__law_step.nd rfl (by first | exact .inl rfl | exact .inr rfl))) (fun _ _ _ _ _ => pts_nil) (fun _ _ _ _ _ => (pe_op op_mul (pe_ix (ix_tupK (K := K) rfl) (pv 1) (pv 5) (fun _ _ => rfl)) (pe_ix (ix_tupK (K := K) rfl) (pe_ix (ix_tupK (K := K) rfl) (pv 2) (pv 5) (fun _ _ => rfl)) (pv 4) (fun _ _ => rfl))))) pa_nil)) (pv 0)) pa_nil))) pss_nil)) (pss_cons (ps_ret (pe_callTy (tuple_K (K := K) rfl) (by rfl) T.z_tuple PyProof.Rows.boot_tuple (pa_cons (pv 3) pa_nil))) pss_nil))), ?_⟩)
  suffices hb : ∀ (p : Int) (row : (List Int)) (table : (List (List Int))), Blk cm (fun cls d _ H => E cls d H) _ [.fz RI p, .fz (RT RI) row, .fz (RT (RT RI)) table, .un, .un, .un] (f__law_step p row table) (CR (RT RI)) from fun p => hb p.1 p.2.1 p.2.2
  intro p row table
  rw [f__law_step_eq]
  unfold m__law_step
  exact (b_new (i := 3) (en_lst ea_nilL (le1000 nil_len (by decide))) (by show 3 < 6; decide) fun told => (b_for (S := ((List Int))) (Inv := (fun s => [.fz RI p, .fz (RT RI) row, .fz (RT (RT RI)) table, .ow (OL RI) s, .un, .un])) (wi_rng1 (ea_one (ev_lent (ev_var (i := 1) rfl)))) (eg_name 4) (.k (.k (.k (.k (.u (.u .nil)))))) (fun s c => (b_app (i := 3) rfl (ev_b2 oe_mod (ev_sum (el_fz (evn_fz (en_map (wi_rng1 (ea_one (ev_lent (ev_var (i := 1) rfl)))) (eg_name 5) (by decide) fun x => (ev_b2 oe_mul (ev_b2 oe_ixt (ev_var (i := 1) rfl) (ev_var (i := 5) rfl)) (ev_b2 oe_ixt (ev_b2 oe_ixt (ev_var (i := 2) rfl) (ev_var (i := 5) rfl)) (ev_var (i := 4) rfl))))))) (ev_var (i := 0) rfl)) fun told1 => (b_nil (.k (.k (.k (.k (.u (.u .nil))))))))) fun s => (b_ret (ev_tupl (el_ow (i := 3) rfl)))))
/-! ### _law_times -/
abbrev s__law_times : Stmt := topS 33
theorem sc__law_times : FnScope ["p", "one", "two", "k"] ["p", "one", "two"] (defScope s__law_times) := ⟨rfl, rfl, rfl, by decide +kernel, rfl, by decide +kernel, by decide +kernel⟩
noncomputable def m__law_times (p : Int) (one : (List Int)) (two : (List Int)) : Rs Int :=
  (Rs.b2 (((((Rs.ok one).bind fun x => .ok (x.length : Int)).bind fun n => rngR 0 n).bind fun xs => Rs.mapR (fun x => (Rs.b2 (Rs.b2 (Rs.ok one) (Rs.ok x) pyIx) (Rs.b2 (Rs.ok two) (Rs.ok x) pyIx) mulR)) xs).bind fun x => .ok x.sum) (Rs.ok p) modR)
noncomputable def f__law_times (p : Int) (one : (List Int)) (two : (List Int)) : Rs Int := Rs.cl (m__law_times p one two)
theorem f__law_times_eq (p : Int) (one : (List Int)) (two : (List Int)) : f__law_times p one two = m__law_times p one two := Rs.cl_eq _
def G__law_times (P : Program) (w : World) (K : PySem.W.Frag) (mg : Str → Option Value) (base : Heap) (cm ad : Nat → Addr) (fdn : Nat → FuncData) : Prop := FnOk P w K mg base (L2.CX P w) 1 (ad 33) (fdn 33) ["p", "one", "two"] (spT cm (HC RI (HC (RT RI) (Gd.H1 (RT RI)))) RI (fun (p : (Int × (List Int) × (List Int))) => f__law_times p.1 p.2.1 p.2.2))
theorem ok__law_times {P : Program} {w : World} {K : PySem.W.Frag} {mg : Str → Option Value} {base : Heap} {cm ad : Nat → Addr} {fdn : Nat → FuncData} (T : Txt K mg cm ad fdn)  : G__law_times P w K mg base cm ad fdn := by
  refine def_go T.F__law_times sc__law_times (ent_cons (ent_cons ent_one)) (fun _ => rfl) (fun cdv A outer s H E hr => ⟨_, (pss_cons (ps_ret (pe_op op_mod (pe_callB (sum_K (K := K) rfl rfl) (by rfl) T.z_sum (by decide +kernel) (pa_cons (pe_lc (own := [("k", 3)]) rfl sc__law_times.nd (pi_range1 (by rfl) T.z_range (pa_cons (pe_callB (len_K (K := K) rfl) (by rfl) T.z_len PySem.boot_len (pa_cons (pv 1) pa_nil)) pa_nil)) (blkOk_by (N := ["p", "one", "two", "k"]) (sc := defScope s__law_times) (by decide +kernel)) (fun _ _ _ _ _ => (pg_name (i := 3) sc__law_times.nd rfl (by first | exact .inl rfl | exact .inr rfl))) (fun _ _ _ _ _ => pts_nil) (fun _ _ _ _ _ => (pe_op op_mul (pe_ix (ix_tupK (K := K) rfl) (pv 1) (pv 3) (fun _ _ => rfl)) (pe_ix (ix_tupK (K := K) rfl) (pv 2) (pv 3) (fun _ _ => rfl))))) pa_nil)) (pv 0))) pss_nil), ?_⟩)
  suffices hb : ∀ (p : Int) (one : (List Int)) (two : (List Int)), Blk cm (fun cls d _ H => E cls d H) _ [.fz RI p, .fz (RT RI) one, .fz (RT RI) two, .un] (f__law_times p one two) (CR RI) from fun p => hb p.1 p.2.1 p.2.2
  intro p one two
  rw [f__law_times_eq]
  unfold m__law_times
  exact (b_ret (ev_b2 oe_mod (ev_sum (el_fz (evn_fz (en_map (wi_rng1 (ea_one (ev_lent (ev_var (i := 1) rfl)))) (eg_name 3) (by decide) fun x => (ev_b2 oe_mul (ev_b2 oe_ixt (ev_var (i := 1) rfl) (ev_var (i := 3) rfl)) (ev_b2 oe_ixt (ev_var (i := 2) rfl) (ev_var (i := 3) rfl))))))) (ev_var (i := 0) rfl)))
/-! ### _law_behind -/
abbrev s__law_behind : Stmt := topS 34
theorem sc__law_behind : FnScope ["house", "word", "row", "letter"] ["house", "word"] (defScope s__law_behind) := ⟨rfl, rfl, rfl, by decide +kernel, rfl, by decide +kernel, by decide +kernel⟩
noncomputable def m__law_behind (house : (Int × Int × (List Int) × (List (List (List Int))) × (List Int))) (word : (List Int)) : Rs (List Int) :=
  (((Rs.ok house).bind fun x => .ok (x.2.2.1)).bind fun row =>
  ((Rs.ok word).bind fun xs => (Rs.foldR (fun (s : ((List Int))) letter =>
  (((Rs.pr ((Rs.ok house).bind fun x => .ok (x.1)) (Rs.pr (Rs.ok s) (Rs.b2 ((Rs.ok house).bind fun x => .ok (x.2.2.2.1)) (Rs.ok letter) pyIx))).bind (fun p => f__law_step p.1 p.2.1 p.2.2)).bind fun row1 =>
  (Rs.ok row1))) row xs).bind fun s =>
  (Rs.ok s)))
noncomputable def f__law_behind (house : (Int × Int × (List Int) × (List (List (List Int))) × (List Int))) (word : (List Int)) : Rs (List Int) := Rs.cl (m__law_behind house word)
theorem f__law_behind_eq (house : (Int × Int × (List Int) × (List (List (List Int))) × (List Int))) (word : (List Int)) : f__law_behind house word = m__law_behind house word := Rs.cl_eq _
def G__law_behind (P : Program) (w : World) (K : PySem.W.Frag) (mg : Str → Option Value) (base : Heap) (cm ad : Nat → Addr) (fdn : Nat → FuncData) : Prop := FnOk P w K mg base (L2.CX P w) 2 (ad 34) (fdn 34) ["house", "word"] (spT cm (HC (RTu (HC RI (HC RI (HC (RT RI) (HC (RT (RT (RT RI))) (Gd.H1 (RT RI))))))) (Gd.H1 (RT RI))) (RT RI) (fun (p : ((Int × Int × (List Int) × (List (List (List Int))) × (List Int)) × (List Int))) => f__law_behind p.1 p.2))
theorem ok__law_behind {P : Program} {w : World} {K : PySem.W.Frag} {mg : Str → Option Value} {base : Heap} {cm ad : Nat → Addr} {fdn : Nat → FuncData} (T : Txt K mg cm ad fdn) (g__law_step : G__law_step P w K mg base cm ad fdn) : G__law_behind P w K mg base cm ad fdn := by
  unfold G__law_step at g__law_step
  refine def_go T.F__law_behind sc__law_behind (ent_cons ent_one) (fun _ => rfl) (fun cdv A outer s H E hr => ⟨_, (pss_cons (ps_set (i := 2) sc__law_behind.nd rfl (by first | exact .inl rfl | exact .inr rfl) (pe_ix (ix_tupK (K := K) rfl) (pv 0) pe_int (fun _ _ => rfl))) (pss_cons (ps_for pass_of rfl (pi_tupK (K := K) rfl (pv 1)) (pg_name (i := 3) sc__law_behind.nd rfl (by first | exact .inl rfl | exact .inr rfl)) (pss_cons (ps_set (i := 2) sc__law_behind.nd rfl (by first | exact .inl rfl | exact .inr rfl) (pe_callS g__law_step (hr.mono (by decide)) (by rfl) T.g__law_step T.F__law_step.kp T.b__law_step (fun σ => passAt tk_of σ) (pa_cons (pe_ix (ix_tupK (K := K) rfl) (pv 0) pe_int (fun _ _ => rfl)) (pa_cons (pv 2) (pa_cons (pe_ix (ix_tupK (K := K) rfl) (pe_ix (ix_tupK (K := K) rfl) (pv 0) pe_int (fun _ _ => rfl)) (pv 3) (fun _ _ => rfl)) pa_nil))))) pss_nil)) (pss_cons (ps_ret (pv 2)) pss_nil))), ?_⟩)
  suffices hb : ∀ (house : (Int × Int × (List Int) × (List (List (List Int))) × (List Int))) (word : (List Int)), Blk cm (fun cls d _ H => E cls d H) _ [.fz (RTu (HC RI (HC RI (HC (RT RI) (HC (RT (RT (RT RI))) (Gd.H1 (RT RI))))))) house, .fz (RT RI) word, .un, .un] (f__law_behind house word) (CR (RT RI)) from fun p => hb p.1 p.2
  intro house word
  rw [f__law_behind_eq]
  unfold m__law_behind
  exact (b_asg (i := 2) (ev_ixc (i := 2) (hsnd (hsnd (hfst (hfst hlast)))) rfl (ev_var (i := 0) rfl)) fun row => (b_for (S := ((List Int))) (Inv := (fun s => [.fz (RTu (HC RI (HC RI (HC (RT RI) (HC (RT (RT (RT RI))) (Gd.H1 (RT RI))))))) house, .fz (RT RI) word, .fz (RT RI) s, .un])) (wi_tup (ev_var (i := 1) rfl)) (eg_name 3) (.k (.k (.k (.u .nil)))) (fun s letter => (b_asg (i := 2) (ev_call (ea_cons (ev_ixc (i := 0) (hfst (hfst (hfst (hfst hlast)))) rfl (ev_var (i := 0) rfl)) (ea_cons (ev_var (i := 2) rfl) (ea_one (ev_b2 oe_ixt (ev_ixc (i := 3) (hsnd (hsnd (hsnd (hfst hlast)))) rfl (ev_var (i := 0) rfl)) (ev_var (i := 3) rfl)))))) fun row1 => (b_nil (.k (.k (.k (.u .nil))))))) fun s => (b_ret (ev_var (i := 2) rfl))))
/-! ### _law_word -/
abbrev s__law_word : Stmt := topS 35
theorem sc__law_word : FnScope ["script", "letters", "most", "many", "k"] ["script", "letters", "most"] (defScope s__law_word) := ⟨rfl, rfl, rfl, by decide +kernel, rfl, by decide +kernel, by decide +kernel⟩
noncomputable def m__law_word (script : (List Int)) (letters : Int) (most : Int) : Rs (List Int) :=
  (((Rs.pr (Rs.ok most) ((Rs.ok script).bind fun x => .ok (x.length : Int))).bind fun p => .ok (if p.2 < p.1 then p.2 else p.1)).bind fun many =>
  (((Rs.ok many).bind fun n => rngR 0 n).bind fun xs => Rs.mapR (fun x => (Rs.b2 (Rs.b2 ((Rs.b2 (Rs.ok script) (Rs.ok x) pyIx).bind fun x => .ok (x / 3)) (Rs.ok x) fun x y => .ok (x + y)) (Rs.ok letters) modR)) xs))
noncomputable def f__law_word (script : (List Int)) (letters : Int) (most : Int) : Rs (List Int) := Rs.cl (m__law_word script letters most)
theorem f__law_word_eq (script : (List Int)) (letters : Int) (most : Int) : f__law_word script letters most = m__law_word script letters most := Rs.cl_eq _
def G__law_word (P : Program) (w : World) (K : PySem.W.Frag) (mg : Str → Option Value) (base : Heap) (cm ad : Nat → Addr) (fdn : Nat → FuncData) : Prop := FnOk P w K mg base (L2.CX P w) 1 (ad 35) (fdn 35) ["script", "letters", "most"] (spT cm (HC (RSc K) (HC RI (Gd.H1 RI))) (RT RI) (fun (p : ((List Int) × Int × Int)) => f__law_word p.1 p.2.1 p.2.2))
theorem ok__law_word {P : Program} {w : World} {K : PySem.W.Frag} {mg : Str → Option Value} {base : Heap} {cm ad : Nat → Addr} {fdn : Nat → FuncData} (T : Txt K mg cm ad fdn)  : G__law_word P w K mg base cm ad fdn := by
  refine def_go T.F__law_word sc__law_word (ent_cons (ent_cons ent_one)) (fun _ => rfl) (fun cdv A outer s H E hr => ⟨_, (pss_cons (ps_set (i := 3) sc__law_word.nd rfl (by first | exact .inl rfl | exact .inr rfl) (pe_callB (call_min2 rfl) (by rfl) T.z_min (by decide +kernel) (pa_cons (pv 2) (pa_cons (pe_callB (len_K (K := K) rfl) (by rfl) T.z_len PySem.boot_len (pa_cons (pv 0) pa_nil)) pa_nil)))) (pss_cons (ps_ret (pe_callTy (tuple_K (K := K) rfl) (by rfl) T.z_tuple PyProof.Rows.boot_tuple (pa_cons (pe_lc (own := [("k", 4)]) rfl sc__law_word.nd (pi_range1 (by rfl) T.z_range (pa_cons (pv 3) pa_nil)) (blkOk_by (N := ["script", "letters", "most", "many", "k"]) (sc := defScope s__law_word) (by decide +kernel)) (fun _ _ _ _ _ => (pg_name (i := 4) sc__law_word.nd rfl (by first | exact .inl rfl | exact .inr rfl))) (fun _ _ _ _ _ => pts_nil) (fun _ _ _ _ _ => (pe_op op_mod (pe_op op_add (pe_op op_fdivW (pe_ix (ix_listK (K := K) rfl) (pv 0) (pv 4) (fun _ _ => rfl)) pe_int) (pv 4)) (pv 1)))) pa_nil))) pss_nil)), ?_⟩)
  suffices hb : ∀ (script : (List Int)) (letters : Int) (most : Int), Blk cm (fun cls d _ H => E cls d H) _ [.fz (RSc K) script, .fz RI letters, .fz RI most, .un, .un] (f__law_word script letters most) (CR (RT RI)) from fun p => hb p.1 p.2.1 p.2.2
  intro script letters most
  rw [f__law_word_eq]
  unfold m__law_word
  exact (b_asg (i := 3) (ev_cb ce_min2 (ea_cons (ev_var (i := 2) rfl) (ea_one (ev_lens (ev_var (i := 0) rfl))))) fun many => (b_ret (ev_tupl (el_fz (evn_fz (en_map (wi_rng1 (ea_one (ev_var (i := 3) rfl))) (eg_name 4) (by decide) fun x => (ev_b2 oe_mod (ev_b2 oe_add (ev_divc (by decide) (ev_b2 oe_ixs (ev_var (i := 0) rfl) (ev_var (i := 4) rfl))) (ev_var (i := 4) rfl)) (ev_var (i := 1) rfl))))))))
/-! ### _law_house_is -/
abbrev s__law_house_is : Stmt := topS 36
theorem sc__law_house_is : FnScope ["found", "due", "letter", "k"] ["found", "due"] (defScope s__law_house_is) := ⟨rfl, rfl, rfl, by decide +kernel, rfl, by decide +kernel, by decide +kernel⟩
noncomputable def m__law_house_is (found : (Int × Int × (List Int) × (List (List (List Int))) × (List Int))) (due : (Int × Int × (List Int) × (List (List (List Int))) × (List Int))) : Rs Bool :=
  ((Rs.or (Rs.nt ((Rs.ok found).bind fun _ => .ok true)) (Rs.or (Rs.b2 ((Rs.ok found).bind fun _ => .ok (5 : Int)) (Rs.ok (5 : Int)) fun x y => .ok (!decide (x = y))) (Rs.nt ((Rs.pr ((Rs.ok found).bind fun x => .ok [x.1, x.2.1]) ((Rs.ok due).bind fun x => .ok [x.1, x.2.1])).bind (fun p => f__law_row_is p.1 p.2))))).bind fun b => if b = true then (Rs.ok false) else
  ((Rs.or (Rs.nt ((Rs.pr ((Rs.ok found).bind fun x => .ok (x.2.2.1)) ((Rs.ok due).bind fun x => .ok (x.2.2.1))).bind (fun p => f__law_row_is p.1 p.2))) (Rs.nt ((Rs.pr ((Rs.ok found).bind fun x => .ok (x.2.2.2.2)) ((Rs.ok due).bind fun x => .ok (x.2.2.2.2))).bind (fun p => f__law_row_is p.1 p.2)))).bind fun b => if b = true then (Rs.ok false) else
  ((Rs.or (Rs.nt (((Rs.ok found).bind fun x => .ok (x.2.2.2.1)).bind fun _ => .ok true)) (Rs.b2 (((Rs.ok found).bind fun x => .ok (x.2.2.2.1)).bind fun x => .ok (x.length : Int)) (((Rs.ok due).bind fun x => .ok (x.2.2.2.1)).bind fun x => .ok (x.length : Int)) fun x y => .ok (!decide (x = y)))).bind fun b => if b = true then (Rs.ok false) else
  (((((Rs.ok due).bind fun x => .ok (x.2.2.2.1)).bind fun x => .ok (x.length : Int)).bind fun n => rngR 0 n).bind fun xs => Rs.thn (Rs.forF (fun (s : Unit) letter =>
  ((Rs.or (Rs.nt ((Rs.b2 ((Rs.ok found).bind fun x => .ok (x.2.2.2.1)) (Rs.ok letter) pyIx).bind fun _ => .ok true)) (Rs.b2 ((Rs.b2 ((Rs.ok found).bind fun x => .ok (x.2.2.2.1)) (Rs.ok letter) pyIx).bind fun x => .ok (x.length : Int)) ((Rs.b2 ((Rs.ok due).bind fun x => .ok (x.2.2.2.1)) (Rs.ok letter) pyIx).bind fun x => .ok (x.length : Int)) fun x y => .ok (!decide (x = y)))).bind fun b => if b = true then (Rs.ok false).bind (fun r => .ok (Fl.rt r)) else
  ((((Rs.b2 ((Rs.ok due).bind fun x => .ok (x.2.2.2.1)) (Rs.ok letter) pyIx).bind fun x => .ok (x.length : Int)).bind fun n => rngR 0 n).bind fun xs => Rs.thn (Rs.forF (fun (s1 : Unit) k =>
  ((Rs.nt ((Rs.pr (Rs.b2 (Rs.b2 ((Rs.ok found).bind fun x => .ok (x.2.2.2.1)) (Rs.ok letter) pyIx) (Rs.ok k) pyIx) (Rs.b2 (Rs.b2 ((Rs.ok due).bind fun x => .ok (x.2.2.2.1)) (Rs.ok letter) pyIx) (Rs.ok k) pyIx)).bind (fun p => f__law_row_is p.1 p.2))).bind fun b => if b = true then (Rs.ok false).bind (fun r => .ok (Fl.rt r)) else
  (Rs.ok (Fl.nx ())))) () xs) (fun r => Fl.rt r) fun s1 =>
  (Rs.ok (Fl.nx ()))))) () xs) (fun r => r) fun s =>
  (Rs.ok true)))))
noncomputable def f__law_house_is (found : (Int × Int × (List Int) × (List (List (List Int))) × (List Int))) (due : (Int × Int × (List Int) × (List (List (List Int))) × (List Int))) : Rs Bool := Rs.cl (m__law_house_is found due)
theorem f__law_house_is_eq (found : (Int × Int × (List Int) × (List (List (List Int))) × (List Int))) (due : (Int × Int × (List Int) × (List (List (List Int))) × (List Int))) : f__law_house_is found due = m__law_house_is found due := Rs.cl_eq _
def G__law_house_is (P : Program) (w : World) (K : PySem.W.Frag) (mg : Str → Option Value) (base : Heap) (cm ad : Nat → Addr) (fdn : Nat → FuncData) : Prop := FnOk P w K mg base (L2.CX P w) 3 (ad 36) (fdn 36) ["found", "due"] (spT cm (HC (RTu (HC RI (HC RI (HC (RT RI) (HC (RT (RT (RT RI))) (Gd.H1 (RT RI))))))) (Gd.H1 (RTu (HC RI (HC RI (HC (RT RI) (HC (RT (RT (RT RI))) (Gd.H1 (RT RI))))))))) RB (fun (p : ((Int × Int × (List Int) × (List (List (List Int))) × (List Int)) × (Int × Int × (List Int) × (List (List (List Int))) × (List Int)))) => f__law_house_is p.1 p.2))
theorem ok__law_house_is {P : Program} {w : World} {K : PySem.W.Frag} {mg : Str → Option Value} {base : Heap} {cm ad : Nat → Addr} {fdn : Nat → FuncData} (T : Txt K mg cm ad fdn) (g__law_row_is : G__law_row_is P w K mg base cm ad fdn) : G__law_house_is P w K mg base cm ad fdn := by
  unfold G__law_row_is at g__law_row_is
  refine def_go T.F__law_house_is sc__law_house_is (ent_cons ent_one) (fun _ => rfl) (fun cdv A outer s H E hr => ⟨_, (pss_cons (ps_if (PW.pt (pw_or (pt_not (pt_val (pe_callB (isi_K (K := K) rfl) (by rfl) T.z_isinstance (by decide +kernel) (pa_cons (pv 0) (pa_cons (pe_bltn (v := .ty "tuple") (by rfl) T.z_tuple PyProof.Rows.boot_tuple rfl) pa_nil))))) (pw_or (pt_cmpR op_ne (pe_callB (len_K (K := K) rfl) (by rfl) T.z_len PySem.boot_len (pa_cons (pv 0) pa_nil)) pe_int (nomark _)) (pw_or1 (pt_not (pt_val (pe_callS g__law_row_is (hr.mono (by decide)) (by rfl) T.g__law_row_is T.F__law_row_is.kp T.b__law_row_is (fun σ => passAt tk_of σ) (pa_cons (pe_slice (sl_tupK (K := K) rfl) (pv 0) po_none (po_some pe_int)) (pa_cons (pe_slice (sl_tupK (K := K) rfl) (pv 1) po_none (po_some pe_int)) pa_nil))))))))) (pss_cons (ps_ret pe_bl) pss_nil) pss_nil) (pss_cons (ps_if (PW.pt (pw_or (pt_not (pt_val (pe_callS g__law_row_is (hr.mono (by decide)) (by rfl) T.g__law_row_is T.F__law_row_is.kp T.b__law_row_is (fun σ => passAt tk_of σ) (pa_cons (pe_ix (ix_tupK (K := K) rfl) (pv 0) pe_int (fun _ _ => rfl)) (pa_cons (pe_ix (ix_tupK (K := K) rfl) (pv 1) pe_int (fun _ _ => rfl)) pa_nil))))) (pw_or1 (pt_not (pt_val (pe_callS g__law_row_is (hr.mono (by decide)) (by rfl) T.g__law_row_is T.F__law_row_is.kp T.b__law_row_is (fun σ => passAt tk_of σ) (pa_cons (pe_ix (ix_tupK (K := K) rfl) (pv 0) pe_int (fun _ _ => rfl)) (pa_cons (pe_ix (ix_tupK (K := K) rfl) (pv 1) pe_int (fun _ _ => rfl)) pa_nil)))))))) (pss_cons (ps_ret pe_bl) pss_nil) pss_nil) (pss_cons (ps_if (PW.pt (pw_or (pt_not (pt_val (pe_callB (isi_K (K := K) rfl) (by rfl) T.z_isinstance (by decide +kernel) (pa_cons (pe_ix (ix_tupK (K := K) rfl) (pv 0) pe_int (fun _ _ => rfl)) (pa_cons (pe_bltn (v := .ty "tuple") (by rfl) T.z_tuple PyProof.Rows.boot_tuple rfl) pa_nil))))) (pw_or1 (pt_cmpR op_ne (pe_callB (len_K (K := K) rfl) (by rfl) T.z_len PySem.boot_len (pa_cons (pe_ix (ix_tupK (K := K) rfl) (pv 0) pe_int (fun _ _ => rfl)) pa_nil)) (pe_callB (len_K (K := K) rfl) (by rfl) T.z_len PySem.boot_len (pa_cons (pe_ix (ix_tupK (K := K) rfl) (pv 1) pe_int (fun _ _ => rfl)) pa_nil)) (nomark _))))) (pss_cons (ps_ret pe_bl) pss_nil) pss_nil) (pss_cons (ps_for pass_of rfl (pi_range1 (by rfl) T.z_range (pa_cons (pe_callB (len_K (K := K) rfl) (by rfl) T.z_len PySem.boot_len (pa_cons (pe_ix (ix_tupK (K := K) rfl) (pv 1) pe_int (fun _ _ => rfl)) pa_nil)) pa_nil)) (pg_name (i := 2) sc__law_house_is.nd rfl (by first | exact .inl rfl | exact .inr rfl)) (pss_cons (ps_if (PW.pt (pw_or (pt_not (pt_val (pe_callB (isi_K (K := K) rfl) (by rfl) T.z_isinstance (by decide +kernel) (pa_cons (pe_ix (ix_tupK (K := K) rfl) (pe_ix (ix_tupK (K := K) rfl) (pv 0) pe_int (fun _ _ => rfl)) (pv 2) (fun _ _ => rfl)) (pa_cons (pe_bltn (v := .ty "tuple") (by rfl) T.z_tuple PyProof.Rows.boot_tuple rfl) pa_nil))))) (pw_or1 (pt_cmpR op_ne (pe_callB (len_K (K := K) rfl) (by rfl) T.z_len PySem.boot_len (pa_cons (pe_ix (ix_tupK (K := K) rfl) (pe_ix (ix_tupK (K := K) rfl) (pv 0) pe_int (fun _ _ => rfl)) (pv 2) (fun _ _ => rfl)) pa_nil)) (pe_callB (len_K (K := K) rfl) (by rfl) T.z_len PySem.boot_len (pa_cons (pe_ix (ix_tupK (K := K) rfl) (pe_ix (ix_tupK (K := K) rfl) (pv 1) pe_int (fun _ _ => rfl)) (pv 2) (fun _ _ => rfl)) pa_nil)) (nomark _))))) (pss_cons (ps_ret pe_bl) pss_nil) pss_nil) (pss_cons (ps_for pass_of rfl (pi_range1 (by rfl) T.z_range (pa_cons (pe_callB (len_K (K := K) rfl) (by rfl) T.z_len PySem.boot_len (pa_cons (pe_ix (ix_tupK (K := K) rfl) (pe_ix (ix_tupK (K := K) rfl) (pv 1) pe_int (fun _ _ => rfl)) (pv 2) (fun _ _ => rfl)) pa_nil)) pa_nil)) (pg_name (i := 3) sc__law_house_is.nd rfl (by first | exact .inl rfl | exact .inr rfl)) (pss_cons (ps_if (pt_not (pt_val (pe_callS g__law_row_is (hr.mono (by decide)) (by rfl) T.g__law_row_is T.F__law_row_is.kp T.b__law_row_is (fun σ => passAt tk_of σ) (pa_cons (pe_ix (ix_tupK (K := K) rfl) (pe_ix (ix_tupK (K := K) rfl) (pe_ix (ix_tupK (K := K) rfl) (pv 0) pe_int (fun _ _ => rfl)) (pv 2) (fun _ _ => rfl)) (pv 3) (fun _ _ => rfl)) (pa_cons (pe_ix (ix_tupK (K := K) rfl) (pe_ix (ix_tupK (K := K) rfl) (pe_ix (ix_tupK (K := K) rfl) (pv 1) pe_int (fun _ _ => rfl)) (pv 2) (fun _ _ => rfl)) (pv 3) (fun _ _ => rfl)) pa_nil))))) (pss_cons (ps_ret pe_bl) pss_nil) pss_nil) pss_nil)) pss_nil))) (pss_cons (ps_ret pe_bl) pss_nil))))), ?_⟩)
  suffices hb : ∀ (found : (Int × Int × (List Int) × (List (List (List Int))) × (List Int))) (due : (Int × Int × (List Int) × (List (List (List Int))) × (List Int))), Blk cm (fun cls d _ H => E cls d H) _ [.fz (RTu (HC RI (HC RI (HC (RT RI) (HC (RT (RT (RT RI))) (Gd.H1 (RT RI))))))) found, .fz (RTu (HC RI (HC RI (HC (RT RI) (HC (RT (RT (RT RI))) (Gd.H1 (RT RI))))))) due, .un, .un] (f__law_house_is found due) (CR RB) from fun p => hb p.1 p.2
  intro found due
  rw [f__law_house_is_eq]
  unfold m__law_house_is
  exact (b_ifR (et_or (et_not (et_val (ev_isi (b := true) tyTu (by decide +kernel) (ev_var (i := 0) rfl)))) (et_or (et_cmp (ev_b2 oe_neI (ev_lenu (n := 5) (hfst (hfst (hfst (hfst hlast)))) (ev_var (i := 0) rfl)) ev_int)) (et_not (et_val (ev_call (ea_cons (ev_sl2 (n := 5) (by decide) (hfst (hfst (hfst (hfst hlast)))) (hsnd (hfst (hfst (hfst hlast)))) (ev_var (i := 0) rfl)) (ea_one (ev_sl2 (n := 5) (by decide) (hfst (hfst (hfst (hfst hlast)))) (hsnd (hfst (hfst (hfst hlast)))) (ev_var (i := 1) rfl))))))))) (b_ret ev_bl) (b_ifR (et_or (et_not (et_val (ev_call (ea_cons (ev_ixc (i := 2) (hsnd (hsnd (hfst (hfst hlast)))) rfl (ev_var (i := 0) rfl)) (ea_one (ev_ixc (i := 2) (hsnd (hsnd (hfst (hfst hlast)))) rfl (ev_var (i := 1) rfl))))))) (et_not (et_val (ev_call (ea_cons (ev_ixc (i := 4) (hsnd (hsnd (hsnd (hsnd hlast)))) rfl (ev_var (i := 0) rfl)) (ea_one (ev_ixc (i := 4) (hsnd (hsnd (hsnd (hsnd hlast)))) rfl (ev_var (i := 1) rfl)))))))) (b_ret ev_bl) (b_ifR (et_or (et_not (et_val (ev_isi (b := true) tyT (by decide +kernel) (ev_ixc (i := 3) (hsnd (hsnd (hsnd (hfst hlast)))) rfl (ev_var (i := 0) rfl))))) (et_cmp (ev_b2 oe_neI (ev_lent (ev_ixc (i := 3) (hsnd (hsnd (hsnd (hfst hlast)))) rfl (ev_var (i := 0) rfl))) (ev_lent (ev_ixc (i := 3) (hsnd (hsnd (hsnd (hfst hlast)))) rfl (ev_var (i := 1) rfl)))))) (b_ret ev_bl) (b_forF (S := Unit) (Inv := (fun s => [.fz (RTu (HC RI (HC RI (HC (RT RI) (HC (RT (RT (RT RI))) (Gd.H1 (RT RI))))))) found, .fz (RTu (HC RI (HC RI (HC (RT RI) (HC (RT (RT (RT RI))) (Gd.H1 (RT RI))))))) due, .un, .un])) up_r (wi_rng1 (ea_one (ev_lent (ev_ixc (i := 3) (hsnd (hsnd (hsnd (hfst hlast)))) rfl (ev_var (i := 1) rfl))))) (eg_name 2) (.k (.k (.u (.u .nil)))) (fun s letter => (b_ifF (et_or (et_not (et_val (ev_isi (b := true) tyT (by decide +kernel) (ev_b2 oe_ixt (ev_ixc (i := 3) (hsnd (hsnd (hsnd (hfst hlast)))) rfl (ev_var (i := 0) rfl)) (ev_var (i := 2) rfl))))) (et_cmp (ev_b2 oe_neI (ev_lent (ev_b2 oe_ixt (ev_ixc (i := 3) (hsnd (hsnd (hsnd (hfst hlast)))) rfl (ev_var (i := 0) rfl)) (ev_var (i := 2) rfl))) (ev_lent (ev_b2 oe_ixt (ev_ixc (i := 3) (hsnd (hsnd (hsnd (hfst hlast)))) rfl (ev_var (i := 1) rfl)) (ev_var (i := 2) rfl)))))) (b_ret ev_bl) (b_forF (S := Unit) (Inv := (fun s1 => [.fz (RTu (HC RI (HC RI (HC (RT RI) (HC (RT (RT (RT RI))) (Gd.H1 (RT RI))))))) found, .fz (RTu (HC RI (HC RI (HC (RT RI) (HC (RT (RT (RT RI))) (Gd.H1 (RT RI))))))) due, .fz RI letter, .un])) up_f (wi_rng1 (ea_one (ev_lent (ev_b2 oe_ixt (ev_ixc (i := 3) (hsnd (hsnd (hsnd (hfst hlast)))) rfl (ev_var (i := 1) rfl)) (ev_var (i := 2) rfl))))) (eg_name 3) (.k (.k (.k (.u .nil)))) (fun s1 k => (b_ifF (et_not (et_val (ev_call (ea_cons (ev_b2 oe_ixt (ev_b2 oe_ixt (ev_ixc (i := 3) (hsnd (hsnd (hsnd (hfst hlast)))) rfl (ev_var (i := 0) rfl)) (ev_var (i := 2) rfl)) (ev_var (i := 3) rfl)) (ea_one (ev_b2 oe_ixt (ev_b2 oe_ixt (ev_ixc (i := 3) (hsnd (hsnd (hsnd (hfst hlast)))) rfl (ev_var (i := 1) rfl)) (ev_var (i := 2) rfl)) (ev_var (i := 3) rfl))))))) (b_ret ev_bl) (b_nilF (.k (.k (.k (.u .nil))))))) fun s1 => (b_nilF (.k (.k (.u (.u .nil)))))))) fun s => (b_ret ev_bl)))))
/-! ### _law_less -/
abbrev s__law_less : Stmt := topS 37
theorem sc__law_less : FnScope ["one", "two", "p", "tables", "letter", "row", "table", "number"] ["one", "two"] (defScope s__law_less) := ⟨rfl, rfl, rfl, by decide +kernel, rfl, by decide +kernel, by decide +kernel⟩
noncomputable def m__law_less (one : (Int × Int × (List Int) × (List (List (List Int))) × (List Int))) (two : (Int × Int × (List Int) × (List (List (List Int))) × (List Int))) : Rs (Int × Int × (List Int) × (List (List (List Int))) × (List Int)) :=
  (((Rs.ok one).bind fun x => .ok (x.1)).bind fun p =>
  ((Rs.ok ([] : List (List (List Int)))).bind fun tables =>
  ((((Rs.ok one).bind fun x => .ok (x.2.1)).bind fun n => rngR 0 n).bind fun xs => (Rs.foldR (fun (s : ((List (List (List Int))))) letter =>
  (((Rs.b2 ((Rs.ok one).bind fun x => .ok (x.2.2.2.1)) (Rs.ok letter) pyIx).bind fun xs => Rs.mapR (fun x1 => (Rs.b2 (Rs.ok x1) (Rs.b2 (Rs.cs (Rs.ok (0 : Int)) (Rs.ok ([] : List Int))) (((Rs.ok two).bind fun x => .ok (x.2.2.1)).bind fun x => .ok (x.length : Int)) repT0R) catR)) xs).bind fun table =>
  ((Rs.b2 (Rs.ok table) ((Rs.b2 ((Rs.ok two).bind fun x => .ok (x.2.2.2.1)) (Rs.ok letter) pyIx).bind fun xs => Rs.mapR (fun x2 => (Rs.b2 (Rs.b2 (Rs.cs (Rs.ok (0 : Int)) (Rs.ok ([] : List Int))) (((Rs.ok one).bind fun x => .ok (x.2.2.1)).bind fun x => .ok (x.length : Int)) repT0R) (Rs.ok x2) catR)) xs) catR).bind fun a => (push s a).bind fun tables1 =>
  (Rs.ok tables1)))) tables xs).bind fun s =>
  (Rs.pr (Rs.ok p) (Rs.pr ((Rs.ok one).bind fun x => .ok (x.2.1)) (Rs.pr (Rs.b2 ((Rs.ok one).bind fun x => .ok (x.2.2.1)) ((Rs.ok two).bind fun x => .ok (x.2.2.1)) catR) (Rs.pr (Rs.ok s) (Rs.b2 ((Rs.ok one).bind fun x => .ok (x.2.2.2.2)) (((Rs.ok two).bind fun x => .ok (x.2.2.2.2)).bind fun xs => Rs.mapR (fun x => (Rs.b2 ((Rs.ok x).bind fun x => .ok (-x)) (Rs.ok p) modR)) xs) catR))))))))
noncomputable def f__law_less (one : (Int × Int × (List Int) × (List (List (List Int))) × (List Int))) (two : (Int × Int × (List Int) × (List (List (List Int))) × (List Int))) : Rs (Int × Int × (List Int) × (List (List (List Int))) × (List Int)) := Rs.cl (m__law_less one two)
theorem f__law_less_eq (one : (Int × Int × (List Int) × (List (List (List Int))) × (List Int))) (two : (Int × Int × (List Int) × (List (List (List Int))) × (List Int))) : f__law_less one two = m__law_less one two := Rs.cl_eq _
def G__law_less (P : Program) (w : World) (K : PySem.W.Frag) (mg : Str → Option Value) (base : Heap) (cm ad : Nat → Addr) (fdn : Nat → FuncData) : Prop := FnOk P w K mg base (L2.CX P w) 1 (ad 37) (fdn 37) ["one", "two"] (spT cm (HC (RTu (HC RI (HC RI (HC (RT RI) (HC (RT (RT (RT RI))) (Gd.H1 (RT RI))))))) (Gd.H1 (RTu (HC RI (HC RI (HC (RT RI) (HC (RT (RT (RT RI))) (Gd.H1 (RT RI))))))))) (RTu (HC RI (HC RI (HC (RT RI) (HC (RT (RT (RT RI))) (Gd.H1 (RT RI))))))) (fun (p : ((Int × Int × (List Int) × (List (List (List Int))) × (List Int)) × (Int × Int × (List Int) × (List (List (List Int))) × (List Int)))) => f__law_less p.1 p.2))
theorem ok__law_less {P : Program} {w : World} {K : PySem.W.Frag} {mg : Str → Option Value} {base : Heap} {cm ad : Nat → Addr} {fdn : Nat → FuncData} (T : Txt K mg cm ad fdn)  : G__law_less P w K mg base cm ad fdn := by
  refine def_go T.F__law_less sc__law_less (ent_cons ent_one) (fun _ => rfl) (fun cdv A outer s H E hr => ⟨_, (pss_cons (ps_set (i := 2) sc__law_less.nd rfl (by first | exact .inl rfl | exact .inr rfl) (pe_ix (ix_tupK (K := K) rfl) (pv 0) pe_int (fun _ _ => rfl))) (pss_cons (ps_set (i := 3) sc__law_less.nd rfl (by first | exact .inl rfl | exact .inr rfl) (pe_lst pa_nil)) (pss_cons (ps_for pass_of rfl (pi_range1 (by rfl) T.z_range (pa_cons (pe_ix (ix_tupK (K := K) rfl) (pv 0) pe_int (fun _ _ => rfl)) pa_nil)) (pg_name (i := 4) sc__law_less.nd rfl (by first | exact .inl rfl | exact .inr rfl)) (pss_cons (ps_setLc (i := 6) (own := [("row", 5)]) rfl sc__law_less.nd rfl rfl (sw_true rfl rfl rfl (by decide +kernel)) (pi_tupK (K := K) rfl (pe_ix (ix_tupK (K := K) rfl) (pe_ix (ix_tupK (K := K) rfl) (pv 0) pe_int (fun _ _ => rfl)) (pv 4) (fun _ _ => rfl))) (blkOk_by (N := ["one", "two", "p", "tables", "letter", "row", "table", "number"]) (sc := defScope s__law_less) (by decide +kernel)) (fun _ _ _ _ _ => (pg_name (i := 5) sc__law_less.nd rfl (by first | exact .inl rfl | exact .inr rfl))) (fun _ _ _ _ _ => pts_nil) (fun _ _ _ _ _ => (pe_op (op_catK (K := K) rfl) (pv 5) (pe_op (op_repBK (K := K) rfl) (pe_tup (pa_cons pe_int pa_nil)) (pe_callB (len_K (K := K) rfl) (by rfl) T.z_len PySem.boot_len (pa_cons (pe_ix (ix_tupK (K := K) rfl) (pv 1) pe_int (fun _ _ => rfl)) pa_nil)))))) (pss_cons (ps_expr (pe_bm PySem.F.plainAttrs_list PySem.F.slot_list_append PySem.F.type_list_append mt_append (pv 3) (pa_cons (pe_callTy (tuple_K (K := K) rfl) (by rfl) T.z_tuple PyProof.Rows.boot_tuple (pa_cons (pe_op op_cat (pv 6) (pe_lc (own := [("row", 5)]) rfl sc__law_less.nd (pi_tupK (K := K) rfl (pe_ix (ix_tupK (K := K) rfl) (pe_ix (ix_tupK (K := K) rfl) (pv 1) pe_int (fun _ _ => rfl)) (pv 4) (fun _ _ => rfl))) (blkOk_by (N := ["one", "two", "p", "tables", "letter", "row", "table", "number"]) (sc := defScope s__law_less) (by decide +kernel)) (fun _ _ _ _ _ => (pg_name (i := 5) sc__law_less.nd rfl (by first | exact .inl rfl | exact .inr rfl))) (fun _ _ _ _ _ => pts_nil) (fun _ _ _ _ _ => (pe_op (op_catK (K := K) rfl) (pe_op (op_repBK (K := K) rfl) (pe_tup (pa_cons pe_int pa_nil)) (pe_callB (len_K (K := K) rfl) (by rfl) T.z_len PySem.boot_len (pa_cons (pe_ix (ix_tupK (K := K) rfl) (pv 0) pe_int (fun _ _ => rfl)) pa_nil))) (pv 5))))) pa_nil)) pa_nil))) pss_nil))) (pss_cons (ps_ret (pe_tup (pa_cons (pv 2) (pa_cons (pe_ix (ix_tupK (K := K) rfl) (pv 0) pe_int (fun _ _ => rfl)) (pa_cons (pe_op (op_catK (K := K) rfl) (pe_ix (ix_tupK (K := K) rfl) (pv 0) pe_int (fun _ _ => rfl)) (pe_ix (ix_tupK (K := K) rfl) (pv 1) pe_int (fun _ _ => rfl))) (pa_cons (pe_callTy (tuple_K (K := K) rfl) (by rfl) T.z_tuple PyProof.Rows.boot_tuple (pa_cons (pv 3) pa_nil)) (pa_cons (pe_op (op_catK (K := K) rfl) (pe_ix (ix_tupK (K := K) rfl) (pv 0) pe_int (fun _ _ => rfl)) (pe_callTy (tuple_K (K := K) rfl) (by rfl) T.z_tuple PyProof.Rows.boot_tuple (pa_cons (pe_lc (own := [("number", 7)]) rfl sc__law_less.nd (pi_tupK (K := K) rfl (pe_ix (ix_tupK (K := K) rfl) (pv 1) pe_int (fun _ _ => rfl))) (blkOk_by (N := ["one", "two", "p", "tables", "letter", "row", "table", "number"]) (sc := defScope s__law_less) (by decide +kernel)) (fun _ _ _ _ _ => (pg_name (i := 7) sc__law_less.nd rfl (by first | exact .inl rfl | exact .inr rfl))) (fun _ _ _ _ _ => pts_nil) (fun _ _ _ _ _ => (pe_op op_mod (pe_un un_neg (pv 7)) (pv 2)))) pa_nil))) pa_nil))))))) pss_nil)))), ?_⟩)
  suffices hb : ∀ (one : (Int × Int × (List Int) × (List (List (List Int))) × (List Int))) (two : (Int × Int × (List Int) × (List (List (List Int))) × (List Int))), Blk cm (fun cls d _ H => E cls d H) _ [.fz (RTu (HC RI (HC RI (HC (RT RI) (HC (RT (RT (RT RI))) (Gd.H1 (RT RI))))))) one, .fz (RTu (HC RI (HC RI (HC (RT RI) (HC (RT (RT (RT RI))) (Gd.H1 (RT RI))))))) two, .un, .un, .un, .un, .un, .un] (f__law_less one two) (CR (RTu (HC RI (HC RI (HC (RT RI) (HC (RT (RT (RT RI))) (Gd.H1 (RT RI)))))))) from fun p => hb p.1 p.2
  intro one two
  rw [f__law_less_eq]
  unfold m__law_less
  exact (b_asg (i := 2) (ev_ixc (i := 0) (hfst (hfst (hfst (hfst hlast)))) rfl (ev_var (i := 0) rfl)) fun p => (b_new (i := 3) (en_lst ea_nilL (le1000 nil_len (by decide))) (by show 3 < 8; decide) fun tables => (b_for (S := ((List (List (List Int))))) (Inv := (fun s => [.fz (RTu (HC RI (HC RI (HC (RT RI) (HC (RT (RT (RT RI))) (Gd.H1 (RT RI))))))) one, .fz (RTu (HC RI (HC RI (HC (RT RI) (HC (RT (RT (RT RI))) (Gd.H1 (RT RI))))))) two, .fz RI p, .ow (OL (RT (RT RI))) s, .un, .un, .un, .un])) (wi_rng1 (ea_one (ev_ixc (i := 1) (hsnd (hfst (hfst (hfst hlast)))) rfl (ev_var (i := 0) rfl)))) (eg_name 4) (.k (.k (.k (.k (.u (.u (.u (.u .nil)))))))) (fun s letter => (b_asg (i := 6) (evn_fz (en_map (wi_tup (ev_b2 oe_ixt (ev_ixc (i := 3) (hsnd (hsnd (hsnd (hfst hlast)))) rfl (ev_var (i := 0) rfl)) (ev_var (i := 4) rfl))) (eg_name 5) (by decide) fun x1 => (ev_b2 oe_catT (ev_var (i := 5) rfl) (ev_b2 oe_repT0 (ev_tupL (ea_consL ev_int ea_nilL) (le1000 (cs_len nil_len) (by decide))) (ev_lent (ev_ixc (i := 2) (hsnd (hsnd (hfst (hfst hlast)))) rfl (ev_var (i := 1) rfl))))))) fun table => (b_app (i := 3) rfl (ev_tupl (el_fz (evn_fz (en_cat (el_fz (ev_var (i := 6) rfl)) (el_fz (evn_fz (en_map (wi_tup (ev_b2 oe_ixt (ev_ixc (i := 3) (hsnd (hsnd (hsnd (hfst hlast)))) rfl (ev_var (i := 1) rfl)) (ev_var (i := 4) rfl))) (eg_name 5) (by decide) fun x2 => (ev_b2 oe_catT (ev_b2 oe_repT0 (ev_tupL (ea_consL ev_int ea_nilL) (le1000 (cs_len nil_len) (by decide))) (ev_lent (ev_ixc (i := 2) (hsnd (hsnd (hfst (hfst hlast)))) rfl (ev_var (i := 0) rfl)))) (ev_var (i := 5) rfl))))))))) fun tables1 => (b_nil (.k (.k (.k (.k (.u (.u (.u (.u .nil)))))))))))) fun s => (b_ret (ev_tup (hl5_le) (ea_cons (ev_var (i := 2) rfl) (ea_cons (ev_ixc (i := 1) (hsnd (hfst (hfst (hfst hlast)))) rfl (ev_var (i := 0) rfl)) (ea_cons (ev_b2 oe_catT (ev_ixc (i := 2) (hsnd (hsnd (hfst (hfst hlast)))) rfl (ev_var (i := 0) rfl)) (ev_ixc (i := 2) (hsnd (hsnd (hfst (hfst hlast)))) rfl (ev_var (i := 1) rfl))) (ea_cons (ev_tupl (el_ow (i := 3) rfl)) (ea_one (ev_b2 oe_catT (ev_ixc (i := 4) (hsnd (hsnd (hsnd (hsnd hlast)))) rfl (ev_var (i := 0) rfl)) (ev_tupl (el_fz (evn_fz (en_map (wi_tup (ev_ixc (i := 4) (hsnd (hsnd (hsnd (hsnd hlast)))) rfl (ev_var (i := 1) rfl))) (eg_name 7) (by decide) fun x => (ev_b2 oe_mod (ev_neg (ev_var (i := 7) rfl)) (ev_var (i := 2) rfl)))))))))))))))))
/-! ### _law_cross -/
abbrev s__law_cross : Stmt := topS 38
theorem sc__law_cross : FnScope ["p", "one", "two", "many", "k"] ["p", "one", "two"] (defScope s__law_cross) := ⟨rfl, rfl, rfl, by decide +kernel, rfl, by decide +kernel, by decide +kernel⟩
noncomputable def m__law_cross (p : Int) (one : (List Int)) (two : (List Int)) : Rs (List Int) :=
  (((Rs.ok two).bind fun x => .ok (x.length : Int)).bind fun many =>
  (((Rs.b2 ((Rs.ok one).bind fun x => .ok (x.length : Int)) (Rs.ok many) mulR).bind fun n => rngR 0 n).bind fun xs => Rs.mapR (fun x => (Rs.b2 (Rs.b2 (Rs.b2 (Rs.ok one) (Rs.b2 (Rs.ok x) (Rs.ok many) divR) pyIx) (Rs.b2 (Rs.ok two) (Rs.b2 (Rs.ok x) (Rs.ok many) modR) pyIx) mulR) (Rs.ok p) modR)) xs))
noncomputable def f__law_cross (p : Int) (one : (List Int)) (two : (List Int)) : Rs (List Int) := Rs.cl (m__law_cross p one two)
theorem f__law_cross_eq (p : Int) (one : (List Int)) (two : (List Int)) : f__law_cross p one two = m__law_cross p one two := Rs.cl_eq _
def G__law_cross (P : Program) (w : World) (K : PySem.W.Frag) (mg : Str → Option Value) (base : Heap) (cm ad : Nat → Addr) (fdn : Nat → FuncData) : Prop := FnOk P w K mg base (L2.CX P w) 1 (ad 38) (fdn 38) ["p", "one", "two"] (spT cm (HC RI (HC (RT RI) (Gd.H1 (RT RI)))) (RT RI) (fun (p : (Int × (List Int) × (List Int))) => f__law_cross p.1 p.2.1 p.2.2))
theorem ok__law_cross {P : Program} {w : World} {K : PySem.W.Frag} {mg : Str → Option Value} {base : Heap} {cm ad : Nat → Addr} {fdn : Nat → FuncData} (T : Txt K mg cm ad fdn)  : G__law_cross P w K mg base cm ad fdn := by
  refine def_go T.F__law_cross sc__law_cross (ent_cons (ent_cons ent_one)) (fun _ => rfl) (fun cdv A outer s H E hr => ⟨_, (pss_cons (ps_set (i := 3) sc__law_cross.nd rfl (by first | exact .inl rfl | exact .inr rfl) (pe_callB (len_K (K := K) rfl) (by rfl) T.z_len PySem.boot_len (pa_cons (pv 2) pa_nil))) (pss_cons (ps_ret (pe_callTy (tuple_K (K := K) rfl) (by rfl) T.z_tuple PyProof.Rows.boot_tuple (pa_cons (pe_lc (own := [("k", 4)]) rfl sc__law_cross.nd (pi_range1 (by rfl) T.z_range (pa_cons (pe_op op_mul (pe_callB (len_K (K := K) rfl) (by rfl) T.z_len PySem.boot_len (pa_cons (pv 1) pa_nil)) (pv 3)) pa_nil)) (blkOk_by (N := ["p", "one", "two", "many", "k"]) (sc := defScope s__law_cross) (by decide +kernel)) (fun _ _ _ _ _ => (pg_name (i := 4) sc__law_cross.nd rfl (by first | exact .inl rfl | exact .inr rfl))) (fun _ _ _ _ _ => pts_nil) (fun _ _ _ _ _ => (pe_op op_mod (pe_op op_mul (pe_ix (ix_tupK (K := K) rfl) (pv 1) (pe_op op_fdivW (pv 4) (pv 3)) (fun _ _ => rfl)) (pe_ix (ix_tupK (K := K) rfl) (pv 2) (pe_op op_mod (pv 4) (pv 3)) (fun _ _ => rfl))) (pv 0)))) pa_nil))) pss_nil)), ?_⟩)
  suffices hb : ∀ (p : Int) (one : (List Int)) (two : (List Int)), Blk cm (fun cls d _ H => E cls d H) _ [.fz RI p, .fz (RT RI) one, .fz (RT RI) two, .un, .un] (f__law_cross p one two) (CR (RT RI)) from fun p => hb p.1 p.2.1 p.2.2
  intro p one two
  rw [f__law_cross_eq]
  unfold m__law_cross
  exact (b_asg (i := 3) (ev_lent (ev_var (i := 2) rfl)) fun many => (b_ret (ev_tupl (el_fz (evn_fz (en_map (wi_rng1 (ea_one (ev_b2 oe_mul (ev_lent (ev_var (i := 1) rfl)) (ev_var (i := 3) rfl)))) (eg_name 4) (by decide) fun x => (ev_b2 oe_mod (ev_b2 oe_mul (ev_b2 oe_ixt (ev_var (i := 1) rfl) (ev_b2 oe_div (ev_var (i := 4) rfl) (ev_var (i := 3) rfl))) (ev_b2 oe_ixt (ev_var (i := 2) rfl) (ev_b2 oe_mod (ev_var (i := 4) rfl) (ev_var (i := 3) rfl)))) (ev_var (i := 0) rfl))))))))
/-! ### _law_times_of -/
abbrev s__law_times_of : Stmt := topS 39
theorem sc__law_times_of : FnScope ["one", "two", "p", "many", "tables", "letter", "table", "k"] ["one", "two"] (defScope s__law_times_of) := ⟨rfl, rfl, rfl, by decide +kernel, rfl, by decide +kernel, by decide +kernel⟩
noncomputable def m__law_times_of (one : (Int × Int × (List Int) × (List (List (List Int))) × (List Int))) (two : (Int × Int × (List Int) × (List (List (List Int))) × (List Int))) : Rs (Int × Int × (List Int) × (List (List (List Int))) × (List Int)) :=
  (((Rs.ok one).bind fun x => .ok (x.1)).bind fun p =>
  ((((Rs.ok two).bind fun x => .ok (x.2.2.1)).bind fun x => .ok (x.length : Int)).bind fun many =>
  ((Rs.ok ([] : List (List (List Int)))).bind fun tables =>
  ((((Rs.ok one).bind fun x => .ok (x.2.1)).bind fun n => rngR 0 n).bind fun xs => (Rs.foldR (fun (s : ((List (List (List Int))))) letter =>
  ((Rs.ok ([] : List (List Int))).bind fun table =>
  (((Rs.b2 (((Rs.ok one).bind fun x => .ok (x.2.2.1)).bind fun x => .ok (x.length : Int)) (Rs.ok many) mulR).bind fun n => rngR 0 n).bind fun xs => (Rs.foldR (fun (s1 : ((List (List Int)))) k =>
  (((Rs.pr (Rs.ok p) (Rs.pr (Rs.b2 (Rs.b2 ((Rs.ok one).bind fun x => .ok (x.2.2.2.1)) (Rs.ok letter) pyIx) (Rs.b2 (Rs.ok k) (Rs.ok many) divR) pyIx) (Rs.b2 (Rs.b2 ((Rs.ok two).bind fun x => .ok (x.2.2.2.1)) (Rs.ok letter) pyIx) (Rs.b2 (Rs.ok k) (Rs.ok many) modR) pyIx))).bind (fun p => f__law_cross p.1 p.2.1 p.2.2)).bind fun a => (push s1 a).bind fun table1 =>
  (Rs.ok table1))) table xs).bind fun s1 =>
  ((Rs.ok s1).bind fun a => (push s a).bind fun tables1 =>
  (Rs.ok tables1))))) tables xs).bind fun s =>
  (Rs.pr (Rs.ok p) (Rs.pr ((Rs.ok one).bind fun x => .ok (x.2.1)) (Rs.pr ((Rs.pr (Rs.ok p) (Rs.pr ((Rs.ok one).bind fun x => .ok (x.2.2.1)) ((Rs.ok two).bind fun x => .ok (x.2.2.1)))).bind (fun p => f__law_cross p.1 p.2.1 p.2.2)) (Rs.pr (Rs.ok s) ((Rs.pr (Rs.ok p) (Rs.pr ((Rs.ok one).bind fun x => .ok (x.2.2.2.2)) ((Rs.ok two).bind fun x => .ok (x.2.2.2.2)))).bind (fun p => f__law_cross p.1 p.2.1 p.2.2))))))))))
noncomputable def f__law_times_of (one : (Int × Int × (List Int) × (List (List (List Int))) × (List Int))) (two : (Int × Int × (List Int) × (List (List (List Int))) × (List Int))) : Rs (Int × Int × (List Int) × (List (List (List Int))) × (List Int)) := Rs.cl (m__law_times_of one two)
theorem f__law_times_of_eq (one : (Int × Int × (List Int) × (List (List (List Int))) × (List Int))) (two : (Int × Int × (List Int) × (List (List (List Int))) × (List Int))) : f__law_times_of one two = m__law_times_of one two := Rs.cl_eq _
def G__law_times_of (P : Program) (w : World) (K : PySem.W.Frag) (mg : Str → Option Value) (base : Heap) (cm ad : Nat → Addr) (fdn : Nat → FuncData) : Prop := FnOk P w K mg base (L2.CX P w) 2 (ad 39) (fdn 39) ["one", "two"] (spT cm (HC (RTu (HC RI (HC RI (HC (RT RI) (HC (RT (RT (RT RI))) (Gd.H1 (RT RI))))))) (Gd.H1 (RTu (HC RI (HC RI (HC (RT RI) (HC (RT (RT (RT RI))) (Gd.H1 (RT RI))))))))) (RTu (HC RI (HC RI (HC (RT RI) (HC (RT (RT (RT RI))) (Gd.H1 (RT RI))))))) (fun (p : ((Int × Int × (List Int) × (List (List (List Int))) × (List Int)) × (Int × Int × (List Int) × (List (List (List Int))) × (List Int)))) => f__law_times_of p.1 p.2))
theorem ok__law_times_of {P : Program} {w : World} {K : PySem.W.Frag} {mg : Str → Option Value} {base : Heap} {cm ad : Nat → Addr} {fdn : Nat → FuncData} (T : Txt K mg cm ad fdn) (g__law_cross : G__law_cross P w K mg base cm ad fdn) : G__law_times_of P w K mg base cm ad fdn := by
  unfold G__law_cross at g__law_cross
  refine def_go T.F__law_times_of sc__law_times_of (ent_cons ent_one) (fun _ => rfl) (fun cdv A outer s H E hr => ⟨_, (pss_cons (ps_set (i := 2) sc__law_times_of.nd rfl (by first | exact .inl rfl | exact .inr rfl) (pe_ix (ix_tupK (K := K) rfl) (pv 0) pe_int (fun _ _ => rfl))) (pss_cons (ps_set (i := 3) sc__law_times_of.nd rfl (by first | exact .inl rfl | exact .inr rfl) (pe_callB (len_K (K := K) rfl) (by rfl) T.z_len PySem.boot_len (pa_cons (pe_ix (ix_tupK (K := K) rfl) (pv 1) pe_int (fun _ _ => rfl)) pa_nil))) (pss_cons (ps_set (i := 4) sc__law_times_of.nd rfl (by first | exact .inl rfl | exact .inr rfl) (pe_lst pa_nil)) (pss_cons (ps_for pass_of rfl (pi_range1 (by rfl) T.z_range (pa_cons (pe_ix (ix_tupK (K := K) rfl) (pv 0) pe_int (fun _ _ => rfl)) pa_nil)) (pg_name (i := 5) sc__law_times_of.nd rfl (by first | exact .inl rfl | exact .inr rfl)) (pss_cons (ps_set (i := 6) sc__law_times_of.nd rfl (by first | exact .inl rfl | exact .inr rfl) (pe_lst pa_nil)) (pss_cons (ps_for pass_of rfl (pi_range1 (by rfl) T.z_range (pa_cons (pe_op op_mul (pe_callB (len_K (K := K) rfl) (by rfl) T.z_len PySem.boot_len (pa_cons (pe_ix (ix_tupK (K := K) rfl) (pv 0) pe_int (fun _ _ => rfl)) pa_nil)) (pv 3)) pa_nil)) (pg_name (i := 7) sc__law_times_of.nd rfl (by first | exact .inl rfl | exact .inr rfl)) (pss_cons (ps_expr (pe_bm PySem.F.plainAttrs_list PySem.F.slot_list_append PySem.F.type_list_append mt_append (pv 6) (pa_cons (pe_callS g__law_cross (hr.mono (by decide)) (by rfl) T.g__law_cross T.F__law_cross.kp T.b__law_cross (fun σ => passAt tk_of σ) (pa_cons (pv 2) (pa_cons (pe_ix (ix_tupK (K := K) rfl) (pe_ix (ix_tupK (K := K) rfl) (pe_ix (ix_tupK (K := K) rfl) (pv 0) pe_int (fun _ _ => rfl)) (pv 5) (fun _ _ => rfl)) (pe_op op_fdivW (pv 7) (pv 3)) (fun _ _ => rfl)) (pa_cons (pe_ix (ix_tupK (K := K) rfl) (pe_ix (ix_tupK (K := K) rfl) (pe_ix (ix_tupK (K := K) rfl) (pv 1) pe_int (fun _ _ => rfl)) (pv 5) (fun _ _ => rfl)) (pe_op op_mod (pv 7) (pv 3)) (fun _ _ => rfl)) pa_nil)))) pa_nil))) pss_nil)) (pss_cons (ps_expr (pe_bm PySem.F.plainAttrs_list PySem.F.slot_list_append PySem.F.type_list_append mt_append (pv 4) (pa_cons (pe_callTy (tuple_K (K := K) rfl) (by rfl) T.z_tuple PyProof.Rows.boot_tuple (pa_cons (pv 6) pa_nil)) pa_nil))) pss_nil)))) (pss_cons (ps_ret (pe_tup (pa_cons (pv 2) (pa_cons (pe_ix (ix_tupK (K := K) rfl) (pv 0) pe_int (fun _ _ => rfl)) (pa_cons (pe_callS g__law_cross (hr.mono (by decide)) (by rfl) T.g__law_cross T.F__law_cross.kp T.b__law_cross (fun σ => passAt tk_of σ) (pa_cons (pv 2) (pa_cons (pe_ix (ix_tupK (K := K) rfl) (pv 0) pe_int (fun _ _ => rfl)) (pa_cons (pe_ix (ix_tupK (K := K) rfl) (pv 1) pe_int (fun _ _ => rfl)) pa_nil)))) (pa_cons (pe_callTy (tuple_K (K := K) rfl) (by rfl) T.z_tuple PyProof.Rows.boot_tuple (pa_cons (pv 4) pa_nil)) (pa_cons (pe_callS g__law_cross (hr.mono (by decide)) (by rfl) T.g__law_cross T.F__law_cross.kp T.b__law_cross (fun σ => passAt tk_of σ) (pa_cons (pv 2) (pa_cons (pe_ix (ix_tupK (K := K) rfl) (pv 0) pe_int (fun _ _ => rfl)) (pa_cons (pe_ix (ix_tupK (K := K) rfl) (pv 1) pe_int (fun _ _ => rfl)) pa_nil)))) pa_nil))))))) pss_nil))))), ?_⟩)
  suffices hb : ∀ (one : (Int × Int × (List Int) × (List (List (List Int))) × (List Int))) (two : (Int × Int × (List Int) × (List (List (List Int))) × (List Int))), Blk cm (fun cls d _ H => E cls d H) _ [.fz (RTu (HC RI (HC RI (HC (RT RI) (HC (RT (RT (RT RI))) (Gd.H1 (RT RI))))))) one, .fz (RTu (HC RI (HC RI (HC (RT RI) (HC (RT (RT (RT RI))) (Gd.H1 (RT RI))))))) two, .un, .un, .un, .un, .un, .un] (f__law_times_of one two) (CR (RTu (HC RI (HC RI (HC (RT RI) (HC (RT (RT (RT RI))) (Gd.H1 (RT RI)))))))) from fun p => hb p.1 p.2
  intro one two
  rw [f__law_times_of_eq]
  unfold m__law_times_of
  exact (b_asg (i := 2) (ev_ixc (i := 0) (hfst (hfst (hfst (hfst hlast)))) rfl (ev_var (i := 0) rfl)) fun p => (b_asg (i := 3) (ev_lent (ev_ixc (i := 2) (hsnd (hsnd (hfst (hfst hlast)))) rfl (ev_var (i := 1) rfl))) fun many => (b_new (i := 4) (en_lst ea_nilL (le1000 nil_len (by decide))) (by show 4 < 8; decide) fun tables => (b_for (S := ((List (List (List Int))))) (Inv := (fun s => [.fz (RTu (HC RI (HC RI (HC (RT RI) (HC (RT (RT (RT RI))) (Gd.H1 (RT RI))))))) one, .fz (RTu (HC RI (HC RI (HC (RT RI) (HC (RT (RT (RT RI))) (Gd.H1 (RT RI))))))) two, .fz RI p, .fz RI many, .ow (OL (RT (RT RI))) s, .un, .un, .un])) (wi_rng1 (ea_one (ev_ixc (i := 1) (hsnd (hfst (hfst (hfst hlast)))) rfl (ev_var (i := 0) rfl)))) (eg_name 5) (.k (.k (.k (.k (.k (.u (.u (.u .nil)))))))) (fun s letter => (b_new (i := 6) (en_lst ea_nilL (le1000 nil_len (by decide))) (by show 6 < 8; decide) fun table => (b_for (S := ((List (List Int)))) (Inv := (fun s1 => [.fz (RTu (HC RI (HC RI (HC (RT RI) (HC (RT (RT (RT RI))) (Gd.H1 (RT RI))))))) one, .fz (RTu (HC RI (HC RI (HC (RT RI) (HC (RT (RT (RT RI))) (Gd.H1 (RT RI))))))) two, .fz RI p, .fz RI many, .ow (OL (RT (RT RI))) s, .fz RI letter, .ow (OL (RT RI)) s1, .un])) (wi_rng1 (ea_one (ev_b2 oe_mul (ev_lent (ev_ixc (i := 2) (hsnd (hsnd (hfst (hfst hlast)))) rfl (ev_var (i := 0) rfl))) (ev_var (i := 3) rfl)))) (eg_name 7) (.k (.k (.k (.k (.k (.k (.k (.u .nil)))))))) (fun s1 k => (b_app (i := 6) rfl (ev_call (ea_cons (ev_var (i := 2) rfl) (ea_cons (ev_b2 oe_ixt (ev_b2 oe_ixt (ev_ixc (i := 3) (hsnd (hsnd (hsnd (hfst hlast)))) rfl (ev_var (i := 0) rfl)) (ev_var (i := 5) rfl)) (ev_b2 oe_div (ev_var (i := 7) rfl) (ev_var (i := 3) rfl))) (ea_one (ev_b2 oe_ixt (ev_b2 oe_ixt (ev_ixc (i := 3) (hsnd (hsnd (hsnd (hfst hlast)))) rfl (ev_var (i := 1) rfl)) (ev_var (i := 5) rfl)) (ev_b2 oe_mod (ev_var (i := 7) rfl) (ev_var (i := 3) rfl))))))) fun table1 => (b_nil (.k (.k (.k (.k (.k (.k (.k (.u .nil))))))))))) fun s1 => (b_app (i := 4) rfl (ev_tupl (el_ow (i := 6) rfl)) fun tables1 => (b_nil (.k (.k (.k (.k (.k (.u (.u (.u .nil))))))))))))) fun s => (b_ret (ev_tup (hl5_le) (ea_cons (ev_var (i := 2) rfl) (ea_cons (ev_ixc (i := 1) (hsnd (hfst (hfst (hfst hlast)))) rfl (ev_var (i := 0) rfl)) (ea_cons (ev_call (ea_cons (ev_var (i := 2) rfl) (ea_cons (ev_ixc (i := 2) (hsnd (hsnd (hfst (hfst hlast)))) rfl (ev_var (i := 0) rfl)) (ea_one (ev_ixc (i := 2) (hsnd (hsnd (hfst (hfst hlast)))) rfl (ev_var (i := 1) rfl)))))) (ea_cons (ev_tupl (el_ow (i := 4) rfl)) (ea_one (ev_call (ea_cons (ev_var (i := 2) rfl) (ea_cons (ev_ixc (i := 4) (hsnd (hsnd (hsnd (hsnd hlast)))) rfl (ev_var (i := 0) rfl)) (ea_one (ev_ixc (i := 4) (hsnd (hsnd (hsnd (hsnd hlast)))) rfl (ev_var (i := 1) rfl)))))))))))))))))
/-! ### _law_back -/
abbrev s__law_back : Stmt := topS 40
theorem sc__law_back : FnScope ["house", "tables", "table", "turned_rows", "c", "row"] ["house"] (defScope s__law_back) := ⟨rfl, rfl, rfl, by decide +kernel, rfl, by decide +kernel, by decide +kernel⟩
noncomputable def m__law_back (house : (Int × Int × (List Int) × (List (List (List Int))) × (List Int))) : Rs (Int × Int × (List Int) × (List (List (List Int))) × (List Int)) :=
  ((Rs.ok ([] : List (List (List Int)))).bind fun tables =>
  (((Rs.ok house).bind fun x => .ok (x.2.2.2.1)).bind fun xs => (Rs.foldR (fun (s : ((List (List (List Int))))) table =>
  ((Rs.ok ([] : List (List Int))).bind fun turned_rows =>
  ((((Rs.ok table).bind fun x => .ok (x.length : Int)).bind fun n => rngR 0 n).bind fun xs => (Rs.foldR (fun (s1 : ((List (List Int)))) c =>
  (((Rs.ok table).bind fun xs => Rs.mapR (fun x => (Rs.b2 (Rs.ok x) (Rs.ok c) pyIx)) xs).bind fun a => (push s1 a).bind fun turned_rows1 =>
  (Rs.ok turned_rows1))) turned_rows xs).bind fun s1 =>
  ((Rs.ok s1).bind fun a => (push s a).bind fun tables1 =>
  (Rs.ok tables1))))) tables xs).bind fun s =>
  (Rs.pr ((Rs.ok house).bind fun x => .ok (x.1)) (Rs.pr ((Rs.ok house).bind fun x => .ok (x.2.1)) (Rs.pr ((Rs.ok house).bind fun x => .ok (x.2.2.2.2)) (Rs.pr (Rs.ok s) ((Rs.ok house).bind fun x => .ok (x.2.2.1))))))))
noncomputable def f__law_back (house : (Int × Int × (List Int) × (List (List (List Int))) × (List Int))) : Rs (Int × Int × (List Int) × (List (List (List Int))) × (List Int)) := Rs.cl (m__law_back house)
theorem f__law_back_eq (house : (Int × Int × (List Int) × (List (List (List Int))) × (List Int))) : f__law_back house = m__law_back house := Rs.cl_eq _
def G__law_back (P : Program) (w : World) (K : PySem.W.Frag) (mg : Str → Option Value) (base : Heap) (cm ad : Nat → Addr) (fdn : Nat → FuncData) : Prop := FnOk P w K mg base (L2.CX P w) 1 (ad 40) (fdn 40) ["house"] (spT cm (Gd.H1 (RTu (HC RI (HC RI (HC (RT RI) (HC (RT (RT (RT RI))) (Gd.H1 (RT RI)))))))) (RTu (HC RI (HC RI (HC (RT RI) (HC (RT (RT (RT RI))) (Gd.H1 (RT RI))))))) (fun (p : ((Int × Int × (List Int) × (List (List (List Int))) × (List Int)))) => f__law_back p))
theorem ok__law_back {P : Program} {w : World} {K : PySem.W.Frag} {mg : Str → Option Value} {base : Heap} {cm ad : Nat → Addr} {fdn : Nat → FuncData} (T : Txt K mg cm ad fdn)  : G__law_back P w K mg base cm ad fdn := by
  refine def_go T.F__law_back sc__law_back ent_one (fun _ => rfl) (fun cdv A outer s H E hr => ⟨_, (pss_cons (ps_set (i := 1) sc__law_back.nd rfl (by first | exact .inl rfl | exact .inr rfl) (pe_lst pa_nil)) (pss_cons (ps_for pass_of rfl (pi_tupK (K := K) rfl (pe_ix (ix_tupK (K := K) rfl) (pv 0) pe_int (fun _ _ => rfl))) (pg_name (i := 2) sc__law_back.nd rfl (by first | exact .inl rfl | exact .inr rfl)) (pss_cons (ps_set (i := 3) sc__law_back.nd rfl (by first | exact .inl rfl | exact .inr rfl) (pe_lst pa_nil)) (pss_cons (ps_for pass_of rfl (pi_range1 (by rfl) T.z_range (pa_cons (pe_callB (len_K (K := K) rfl) (by rfl) T.z_len PySem.boot_len (pa_cons (pv 2) pa_nil)) pa_nil)) (pg_name (i := 4) sc__law_back.nd rfl (by first | exact .inl rfl | exact .inr rfl)) (pss_cons (ps_expr (pe_bm PySem.F.plainAttrs_list PySem.F.slot_list_append PySem.F.type_list_append mt_append (pv 3) (pa_cons (pe_callTy (tuple_K (K := K) rfl) (by rfl) T.z_tuple PyProof.Rows.boot_tuple (pa_cons (pe_lc (own := [("row", 5)]) rfl sc__law_back.nd (pi_tupK (K := K) rfl (pv 2)) (blkOk_by (N := ["house", "tables", "table", "turned_rows", "c", "row"]) (sc := defScope s__law_back) (by decide +kernel)) (fun _ _ _ _ _ => (pg_name (i := 5) sc__law_back.nd rfl (by first | exact .inl rfl | exact .inr rfl))) (fun _ _ _ _ _ => pts_nil) (fun _ _ _ _ _ => (pe_ix (ix_tupK (K := K) rfl) (pv 5) (pv 4) (fun _ _ => rfl)))) pa_nil)) pa_nil))) pss_nil)) (pss_cons (ps_expr (pe_bm PySem.F.plainAttrs_list PySem.F.slot_list_append PySem.F.type_list_append mt_append (pv 1) (pa_cons (pe_callTy (tuple_K (K := K) rfl) (by rfl) T.z_tuple PyProof.Rows.boot_tuple (pa_cons (pv 3) pa_nil)) pa_nil))) pss_nil)))) (pss_cons (ps_ret (pe_tup (pa_cons (pe_ix (ix_tupK (K := K) rfl) (pv 0) pe_int (fun _ _ => rfl)) (pa_cons (pe_ix (ix_tupK (K := K) rfl) (pv 0) pe_int (fun _ _ => rfl)) (pa_cons (pe_ix (ix_tupK (K := K) rfl) (pv 0) pe_int (fun _ _ => rfl)) (pa_cons (pe_callTy (tuple_K (K := K) rfl) (by rfl) T.z_tuple PyProof.Rows.boot_tuple (pa_cons (pv 1) pa_nil)) (pa_cons (pe_ix (ix_tupK (K := K) rfl) (pv 0) pe_int (fun _ _ => rfl)) pa_nil))))))) pss_nil))), ?_⟩)
  suffices hb : ∀ (house : (Int × Int × (List Int) × (List (List (List Int))) × (List Int))), Blk cm (fun cls d _ H => E cls d H) _ [.fz (RTu (HC RI (HC RI (HC (RT RI) (HC (RT (RT (RT RI))) (Gd.H1 (RT RI))))))) house, .un, .un, .un, .un, .un] (f__law_back house) (CR (RTu (HC RI (HC RI (HC (RT RI) (HC (RT (RT (RT RI))) (Gd.H1 (RT RI)))))))) from fun p => hb p
  intro house
  rw [f__law_back_eq]
  unfold m__law_back
  exact (b_new (i := 1) (en_lst ea_nilL (le1000 nil_len (by decide))) (by show 1 < 6; decide) fun tables => (b_for (S := ((List (List (List Int))))) (Inv := (fun s => [.fz (RTu (HC RI (HC RI (HC (RT RI) (HC (RT (RT (RT RI))) (Gd.H1 (RT RI))))))) house, .ow (OL (RT (RT RI))) s, .un, .un, .un, .un])) (wi_tup (ev_ixc (i := 3) (hsnd (hsnd (hsnd (hfst hlast)))) rfl (ev_var (i := 0) rfl))) (eg_name 2) (.k (.k (.u (.u (.u (.u .nil)))))) (fun s table => (b_new (i := 3) (en_lst ea_nilL (le1000 nil_len (by decide))) (by show 3 < 6; decide) fun turned_rows => (b_for (S := ((List (List Int)))) (Inv := (fun s1 => [.fz (RTu (HC RI (HC RI (HC (RT RI) (HC (RT (RT (RT RI))) (Gd.H1 (RT RI))))))) house, .ow (OL (RT (RT RI))) s, .fz (RT (RT RI)) table, .ow (OL (RT RI)) s1, .un, .un])) (wi_rng1 (ea_one (ev_lent (ev_var (i := 2) rfl)))) (eg_name 4) (.k (.k (.k (.k (.u (.u .nil)))))) (fun s1 c => (b_app (i := 3) rfl (ev_tupl (el_fz (evn_fz (en_map (wi_tup (ev_var (i := 2) rfl)) (eg_name 5) (by decide) fun x => (ev_b2 oe_ixt (ev_var (i := 5) rfl) (ev_var (i := 4) rfl)))))) fun turned_rows1 => (b_nil (.k (.k (.k (.k (.u (.u .nil))))))))) fun s1 => (b_app (i := 1) rfl (ev_tupl (el_ow (i := 3) rfl)) fun tables1 => (b_nil (.k (.k (.u (.u (.u (.u .nil))))))))))) fun s => (b_ret (ev_tup (hl5_le) (ea_cons (ev_ixc (i := 0) (hfst (hfst (hfst (hfst hlast)))) rfl (ev_var (i := 0) rfl)) (ea_cons (ev_ixc (i := 1) (hsnd (hfst (hfst (hfst hlast)))) rfl (ev_var (i := 0) rfl)) (ea_cons (ev_ixc (i := 4) (hsnd (hsnd (hsnd (hsnd hlast)))) rfl (ev_var (i := 0) rfl)) (ea_cons (ev_tupl (el_ow (i := 1) rfl)) (ea_one (ev_ixc (i := 2) (hsnd (hsnd (hfst (hfst hlast)))) rfl (ev_var (i := 0) rfl)))))))))))
/-! ### _law_blank -/
abbrev s__law_blank : Stmt := topS 41
theorem sc__law_blank : FnScope ["p", "many", "k", "table"] ["p", "many"] (defScope s__law_blank) := ⟨rfl, rfl, rfl, by decide +kernel, rfl, by decide +kernel, by decide +kernel⟩
noncomputable def m__law_blank (p : Int) (many : Int) : Rs (Int × Int × (List Int) × (List (List (List Int))) × (List Int)) :=
  ((((Rs.ok many).bind fun n => rngR 0 n).bind fun xs => Rs.mapR (fun x => (Rs.b2 (Rs.cs (Rs.ok (0 : Int)) (Rs.ok ([] : List Int))) (Rs.ok many) repT0R)) xs).bind fun table =>
  (Rs.pr (Rs.ok p) (Rs.pr (Rs.ok (1 : Int)) (Rs.pr (Rs.b2 (Rs.cs (Rs.ok (0 : Int)) (Rs.ok ([] : List Int))) (Rs.ok many) repT0R) (Rs.pr (Rs.cs (Rs.ok table) (Rs.ok ([] : List (List (List Int))))) (Rs.b2 (Rs.cs (Rs.ok (0 : Int)) (Rs.ok ([] : List Int))) (Rs.ok many) repT0R))))))
noncomputable def f__law_blank (p : Int) (many : Int) : Rs (Int × Int × (List Int) × (List (List (List Int))) × (List Int)) := Rs.cl (m__law_blank p many)
theorem f__law_blank_eq (p : Int) (many : Int) : f__law_blank p many = m__law_blank p many := Rs.cl_eq _
def G__law_blank (P : Program) (w : World) (K : PySem.W.Frag) (mg : Str → Option Value) (base : Heap) (cm ad : Nat → Addr) (fdn : Nat → FuncData) : Prop := FnOk P w K mg base (L2.CX P w) 1 (ad 41) (fdn 41) ["p", "many"] (spT cm (HC RI (Gd.H1 RI)) (RTu (HC RI (HC RI (HC (RT RI) (HC (RT (RT (RT RI))) (Gd.H1 (RT RI))))))) (fun (p : (Int × Int)) => f__law_blank p.1 p.2))
theorem ok__law_blank {P : Program} {w : World} {K : PySem.W.Frag} {mg : Str → Option Value} {base : Heap} {cm ad : Nat → Addr} {fdn : Nat → FuncData} (T : Txt K mg cm ad fdn)  : G__law_blank P w K mg base cm ad fdn := by
  refine def_go T.F__law_blank sc__law_blank (ent_cons ent_one) (fun _ => rfl) (fun cdv A outer s H E hr => ⟨_, (pss_cons (ps_set (i := 3) sc__law_blank.nd rfl (by first | exact .inl rfl | exact .inr rfl) (pe_callTy (tuple_K (K := K) rfl) (by rfl) T.z_tuple PyProof.Rows.boot_tuple (pa_cons (pe_lc (own := [("k", 2)]) rfl sc__law_blank.nd (pi_range1 (by rfl) T.z_range (pa_cons (pv 1) pa_nil)) (blkOk_by (N := ["p", "many", "k", "table"]) (sc := defScope s__law_blank) (by decide +kernel)) (fun _ _ _ _ _ => (pg_name (i := 2) sc__law_blank.nd rfl (by first | exact .inl rfl | exact .inr rfl))) (fun _ _ _ _ _ => pts_nil) (fun _ _ _ _ _ => (pe_op (op_repBK (K := K) rfl) (pe_tup (pa_cons pe_int pa_nil)) (pv 1)))) pa_nil))) (pss_cons (ps_ret (pe_tup (pa_cons (pv 0) (pa_cons pe_int (pa_cons (pe_op (op_repBK (K := K) rfl) (pe_tup (pa_cons pe_int pa_nil)) (pv 1)) (pa_cons (pe_tup (pa_cons (pv 3) pa_nil)) (pa_cons (pe_op (op_repBK (K := K) rfl) (pe_tup (pa_cons pe_int pa_nil)) (pv 1)) pa_nil))))))) pss_nil)), ?_⟩)
  suffices hb : ∀ (p : Int) (many : Int), Blk cm (fun cls d _ H => E cls d H) _ [.fz RI p, .fz RI many, .un, .un] (f__law_blank p many) (CR (RTu (HC RI (HC RI (HC (RT RI) (HC (RT (RT (RT RI))) (Gd.H1 (RT RI)))))))) from fun p => hb p.1 p.2
  intro p many
  rw [f__law_blank_eq]
  unfold m__law_blank
  exact (b_asg (i := 3) (ev_tupl (el_fz (evn_fz (en_map (wi_rng1 (ea_one (ev_var (i := 1) rfl))) (eg_name 2) (by decide) fun x => (ev_b2 oe_repT0 (ev_tupL (ea_consL ev_int ea_nilL) (le1000 (cs_len nil_len) (by decide))) (ev_var (i := 1) rfl)))))) fun table => (b_ret (ev_tup (hl5_le) (ea_cons (ev_var (i := 0) rfl) (ea_cons ev_int (ea_cons (ev_b2 oe_repT0 (ev_tupL (ea_consL ev_int ea_nilL) (le1000 (cs_len nil_len) (by decide))) (ev_var (i := 1) rfl)) (ea_cons (ev_tupL (ea_consL (ev_var (i := 3) rfl) ea_nilL) (le1000 (cs_len nil_len) (by decide))) (ea_one (ev_b2 oe_repT0 (ev_tupL (ea_consL ev_int ea_nilL) (le1000 (cs_len nil_len) (by decide))) (ev_var (i := 1) rfl))))))))))
/-! ### _law_refused -/
abbrev s__law_refused : Stmt := topS 42
theorem sc__law_refused : FnScope ["deed", "one", "two", "refused"] ["deed", "one", "two"] (defScope s__law_refused) := ⟨rfl, rfl, rfl, by decide +kernel, rfl, by decide +kernel, by decide +kernel⟩
noncomputable def m__law_refused (deed : Unit) (one : (Int × Int × (List Int) × (List (List (List Int))) × (List Int))) (two : (Int × Int × (List Int) × (List (List (List Int))) × (List Int))) : Rs Bool :=
  ((Rs.ok false).bind fun refused =>
  ((Rs.tryR ((Rs.pr (Rs.ok one) (Rs.ok two)).bind (fun p => f_sums_less p.1 p.2)) (fun _ => .ok refused) (exSub 2) (fun e => ((Rs.ok true).bind fun refused1 =>
  (Rs.ok refused1)))).bind fun s =>
  (Rs.ok s)))
noncomputable def f__law_refused (deed : Unit) (one : (Int × Int × (List Int) × (List (List (List Int))) × (List Int))) (two : (Int × Int × (List Int) × (List (List (List Int))) × (List Int))) : Rs Bool := Rs.cl (m__law_refused deed one two)
theorem f__law_refused_eq (deed : Unit) (one : (Int × Int × (List Int) × (List (List (List Int))) × (List Int))) (two : (Int × Int × (List Int) × (List (List (List Int))) × (List Int))) : f__law_refused deed one two = m__law_refused deed one two := Rs.cl_eq _
def G__law_refused (P : Program) (w : World) (K : PySem.W.Frag) (mg : Str → Option Value) (base : Heap) (cm ad : Nat → Addr) (fdn : Nat → FuncData) : Prop := FnOk P w K mg base (L2.CX P w) 3 (ad 42) (fdn 42) ["deed", "one", "two"] (spT cm (HC (RFn (ad 18)) (HC (RTu (HC RI (HC RI (HC (RT RI) (HC (RT (RT (RT RI))) (Gd.H1 (RT RI))))))) (Gd.H1 (RTu (HC RI (HC RI (HC (RT RI) (HC (RT (RT (RT RI))) (Gd.H1 (RT RI)))))))))) RB (fun (p : (Unit × (Int × Int × (List Int) × (List (List (List Int))) × (List Int)) × (Int × Int × (List Int) × (List (List (List Int))) × (List Int)))) => f__law_refused p.1 p.2.1 p.2.2))
theorem ok__law_refused {P : Program} {w : World} {K : PySem.W.Frag} {mg : Str → Option Value} {base : Heap} {cm ad : Nat → Addr} {fdn : Nat → FuncData} (T : Txt K mg cm ad fdn) (g_sums_less : G_sums_less P w K mg base cm ad fdn) : G__law_refused P w K mg base cm ad fdn := by
  unfold G_sums_less at g_sums_less
  refine def_go T.F__law_refused sc__law_refused (ent_cons (ent_cons ent_one)) (fun _ => rfl) (fun cdv A outer s H E hr => ⟨_, (pss_cons (ps_set (i := 3) sc__law_refused.nd rfl (by first | exact .inl rfl | exact .inr rfl) pe_bl) (pss_cons (ps_try_only rfl rfl ⟨by rfl, by decide, .inl T.gx_BadHouse⟩ tk_of (fun W pn xe tk _ => pss_cons (ps_expr (pe_callLS (i := 0) g_sums_less (hr.mono (by decide)) rfl (by first | exact .inl rfl | exact .inr rfl) T.F_sums_less.kp T.b_sums_less (fun σ => passAt tk σ) (pa_cons (pv 1) (pa_cons (pv 2) pa_nil)))) pss_nil) (fun a oe cls d pn hz hf => (pss_cons (ps_set (i := 3) sc__law_refused.nd rfl (by first | exact .inl rfl | exact .inr rfl) pe_bl) pss_nil))) (pss_cons (ps_ret (pv 3)) pss_nil))), ?_⟩)
  suffices hb : ∀ (deed : Unit) (one : (Int × Int × (List Int) × (List (List (List Int))) × (List Int))) (two : (Int × Int × (List Int) × (List (List (List Int))) × (List Int))), Blk cm (fun cls d _ H => E cls d H) _ [.fz (RFn (ad 18)) deed, .fz (RTu (HC RI (HC RI (HC (RT RI) (HC (RT (RT (RT RI))) (Gd.H1 (RT RI))))))) one, .fz (RTu (HC RI (HC RI (HC (RT RI) (HC (RT (RT (RT RI))) (Gd.H1 (RT RI))))))) two, .un] (f__law_refused deed one two) (CR RB) from fun p => hb p.1 p.2.1 p.2.2
  intro deed one two
  rw [f__law_refused_eq]
  unfold m__law_refused
  exact (b_asg (i := 3) ev_bl fun refused => (b_try (S := (Bool)) (Post := fun s => [.fz (RFn (ad 18)) deed, .fz (RTu (HC RI (HC RI (HC (RT RI) (HC (RT (RT (RT RI))) (Gd.H1 (RT RI))))))) one, .fz (RTu (HC RI (HC RI (HC (RT RI) (HC (RT (RT (RT RI))) (Gd.H1 (RT RI))))))) two, .fz RB s]) (fun W => (ev_callL (i := 0) rfl (ea_cons (ev_var (i := 1) rfl) (ea_one (ev_var (i := 2) rfl))))) (.k (.k (.k (.k .nil)))) T.em_BadHouse (fun e a => (b_asg (i := 3) ev_bl fun refused1 => (b_nil (.k (.k (.k (.k .nil))))))) fun s => (b_ret (ev_var (i := 3) rfl))))
noncomputable def m__law_refused'1 (deed : Unit) (one : (Int × Int × (List Int) × (List (List (List Int))) × (List Int))) (two : (Int × Int × (List Int) × (List (List (List Int))) × (List Int))) : Rs Bool :=
  ((Rs.ok false).bind fun refused =>
  ((Rs.tryR ((Rs.pr (Rs.ok one) (Rs.ok two)).bind (fun p => f_sums_times p.1 p.2)) (fun _ => .ok refused) (exSub 2) (fun e => ((Rs.ok true).bind fun refused1 =>
  (Rs.ok refused1)))).bind fun s =>
  (Rs.ok s)))
noncomputable def f__law_refused'1 (deed : Unit) (one : (Int × Int × (List Int) × (List (List (List Int))) × (List Int))) (two : (Int × Int × (List Int) × (List (List (List Int))) × (List Int))) : Rs Bool := Rs.cl (m__law_refused'1 deed one two)
theorem f__law_refused'1_eq (deed : Unit) (one : (Int × Int × (List Int) × (List (List (List Int))) × (List Int))) (two : (Int × Int × (List Int) × (List (List (List Int))) × (List Int))) : f__law_refused'1 deed one two = m__law_refused'1 deed one two := Rs.cl_eq _
def G__law_refused'1 (P : Program) (w : World) (K : PySem.W.Frag) (mg : Str → Option Value) (base : Heap) (cm ad : Nat → Addr) (fdn : Nat → FuncData) : Prop := FnOk P w K mg base (L2.CX P w) 3 (ad 42) (fdn 42) ["deed", "one", "two"] (spT cm (HC (RFn (ad 20)) (HC (RTu (HC RI (HC RI (HC (RT RI) (HC (RT (RT (RT RI))) (Gd.H1 (RT RI))))))) (Gd.H1 (RTu (HC RI (HC RI (HC (RT RI) (HC (RT (RT (RT RI))) (Gd.H1 (RT RI)))))))))) RB (fun (p : (Unit × (Int × Int × (List Int) × (List (List (List Int))) × (List Int)) × (Int × Int × (List Int) × (List (List (List Int))) × (List Int)))) => f__law_refused'1 p.1 p.2.1 p.2.2))
theorem ok__law_refused'1 {P : Program} {w : World} {K : PySem.W.Frag} {mg : Str → Option Value} {base : Heap} {cm ad : Nat → Addr} {fdn : Nat → FuncData} (T : Txt K mg cm ad fdn) (g_sums_times : G_sums_times P w K mg base cm ad fdn) : G__law_refused'1 P w K mg base cm ad fdn := by
  unfold G_sums_times at g_sums_times
  refine def_go T.F__law_refused sc__law_refused (ent_cons (ent_cons ent_one)) (fun _ => rfl) (fun cdv A outer s H E hr => ⟨_, (pss_cons (ps_set (i := 3) sc__law_refused.nd rfl (by first | exact .inl rfl | exact .inr rfl) pe_bl) (pss_cons (ps_try_only rfl rfl ⟨by rfl, by decide, .inl T.gx_BadHouse⟩ tk_of (fun W pn xe tk _ => pss_cons (ps_expr (pe_callLS (i := 0) g_sums_times (hr.mono (by decide)) rfl (by first | exact .inl rfl | exact .inr rfl) T.F_sums_times.kp T.b_sums_times (fun σ => passAt tk σ) (pa_cons (pv 1) (pa_cons (pv 2) pa_nil)))) pss_nil) (fun a oe cls d pn hz hf => (pss_cons (ps_set (i := 3) sc__law_refused.nd rfl (by first | exact .inl rfl | exact .inr rfl) pe_bl) pss_nil))) (pss_cons (ps_ret (pv 3)) pss_nil))), ?_⟩)
  suffices hb : ∀ (deed : Unit) (one : (Int × Int × (List Int) × (List (List (List Int))) × (List Int))) (two : (Int × Int × (List Int) × (List (List (List Int))) × (List Int))), Blk cm (fun cls d _ H => E cls d H) _ [.fz (RFn (ad 20)) deed, .fz (RTu (HC RI (HC RI (HC (RT RI) (HC (RT (RT (RT RI))) (Gd.H1 (RT RI))))))) one, .fz (RTu (HC RI (HC RI (HC (RT RI) (HC (RT (RT (RT RI))) (Gd.H1 (RT RI))))))) two, .un] (f__law_refused'1 deed one two) (CR RB) from fun p => hb p.1 p.2.1 p.2.2
  intro deed one two
  rw [f__law_refused'1_eq]
  unfold m__law_refused'1
  exact (b_asg (i := 3) ev_bl fun refused => (b_try (S := (Bool)) (Post := fun s => [.fz (RFn (ad 20)) deed, .fz (RTu (HC RI (HC RI (HC (RT RI) (HC (RT (RT (RT RI))) (Gd.H1 (RT RI))))))) one, .fz (RTu (HC RI (HC RI (HC (RT RI) (HC (RT (RT (RT RI))) (Gd.H1 (RT RI))))))) two, .fz RB s]) (fun W => (ev_callL (i := 0) rfl (ea_cons (ev_var (i := 1) rfl) (ea_one (ev_var (i := 2) rfl))))) (.k (.k (.k (.k .nil)))) T.em_BadHouse (fun e a => (b_asg (i := 3) ev_bl fun refused1 => (b_nil (.k (.k (.k (.k .nil))))))) fun s => (b_ret (ev_var (i := 3) rfl))))
/-! ### _law_refused_by_any -/
abbrev s__law_refused_by_any : Stmt := topS 43
theorem sc__law_refused_by_any : FnScope ["deed", "one", "two", "told", "e"] ["deed", "one", "two"] (defScope s__law_refused_by_any) := ⟨rfl, rfl, rfl, by decide +kernel, rfl, by decide +kernel, by decide +kernel⟩
noncomputable def m__law_refused_by_any (deed : Unit) (one : (Int × Int × (List Int) × (List (List (List Int))) × (List Int))) (two : (Int × Int × (List Int) × (List (List (List Int))) × (List Int))) : Rs Bool :=
  ((Rs.ok false).bind fun told =>
  ((Rs.tryR ((Rs.pr (Rs.ok one) (Rs.ok two)).bind (fun p => f_sums_less p.1 p.2)) (fun _ => .ok told) (exSub 1) (fun e => ((Rs.an (Rs.ok true) (Rs.nt (Rs.ok (exSub 3 e)))).bind fun told1 =>
  (Rs.ok told1)))).bind fun s =>
  (Rs.ok s)))
noncomputable def f__law_refused_by_any (deed : Unit) (one : (Int × Int × (List Int) × (List (List (List Int))) × (List Int))) (two : (Int × Int × (List Int) × (List (List (List Int))) × (List Int))) : Rs Bool := Rs.cl (m__law_refused_by_any deed one two)
theorem f__law_refused_by_any_eq (deed : Unit) (one : (Int × Int × (List Int) × (List (List (List Int))) × (List Int))) (two : (Int × Int × (List Int) × (List (List (List Int))) × (List Int))) : f__law_refused_by_any deed one two = m__law_refused_by_any deed one two := Rs.cl_eq _
def G__law_refused_by_any (P : Program) (w : World) (K : PySem.W.Frag) (mg : Str → Option Value) (base : Heap) (cm ad : Nat → Addr) (fdn : Nat → FuncData) : Prop := FnOk P w K mg base (L2.CX P w) 3 (ad 43) (fdn 43) ["deed", "one", "two"] (spT cm (HC (RFn (ad 18)) (HC (RTu (HC RI (HC RI (HC (RT RI) (HC (RT (RT (RT RI))) (Gd.H1 (RT RI))))))) (Gd.H1 (RTu (HC RI (HC RI (HC (RT RI) (HC (RT (RT (RT RI))) (Gd.H1 (RT RI)))))))))) RB (fun (p : (Unit × (Int × Int × (List Int) × (List (List (List Int))) × (List Int)) × (Int × Int × (List Int) × (List (List (List Int))) × (List Int)))) => f__law_refused_by_any p.1 p.2.1 p.2.2))
theorem ok__law_refused_by_any {P : Program} {w : World} {K : PySem.W.Frag} {mg : Str → Option Value} {base : Heap} {cm ad : Nat → Addr} {fdn : Nat → FuncData} (T : Txt K mg cm ad fdn) (g_sums_less : G_sums_less P w K mg base cm ad fdn) : G__law_refused_by_any P w K mg base cm ad fdn := by
  unfold G_sums_less at g_sums_less
  refine def_go T.F__law_refused_by_any sc__law_refused_by_any (ent_cons (ent_cons ent_one)) (fun _ => rfl) (fun cdv A outer s H E hr => ⟨_, (pss_cons (ps_set (i := 3) sc__law_refused_by_any.nd rfl (by first | exact .inl rfl | exact .inr rfl) pe_bl) (pss_cons (ps_try_as (i := 4) rfl rfl sc__law_refused_by_any.nd rfl rfl ⟨by rfl, by decide, .inl T.gx_AskError⟩ tk_of (fun W pn xe tk _ => pss_cons (ps_expr (pe_callLS (i := 0) g_sums_less (hr.mono (by decide)) rfl (by first | exact .inl rfl | exact .inr rfl) T.F_sums_less.kp T.b_sums_less (fun σ => passAt tk σ) (pa_cons (pv 1) (pa_cons (pv 2) pa_nil)))) pss_nil) (fun a oe cls d pn hz hf => pss_exc (cm := cm) (cls := cls) (d := d) (t := fun e => _) (fun e hc hd => (pss_cons (ps_set (i := 3) sc__law_refused_by_any.nd rfl (by first | exact .inl rfl | exact .inr rfl) (pe_and (pe_callB (call_isEK (K := K) rfl (T.ec e) hc hd hz hf) (by rfl) T.z_isinstance (by decide +kernel) (pa_cons (pv 4) (pa_cons (pe_bltn (v := .ty "ValueError") (by rfl) T.z_ValueError (by decide +kernel) rfl) pa_nil))) (pe_one (pe_not (pe_callB (call_isEK (K := K) rfl (T.ec e) hc hd hz hf) (by rfl) T.z_isinstance (by decide +kernel) (pa_cons (pv 4) (pa_cons (pe_glob (by rfl) T.gx_BadWord (v := .ref (cm 3)) rfl) pa_nil))))))) pss_nil)))) (pss_cons (ps_ret (pv 3)) pss_nil))), ?_⟩)
  suffices hb : ∀ (deed : Unit) (one : (Int × Int × (List Int) × (List (List (List Int))) × (List Int))) (two : (Int × Int × (List Int) × (List (List (List Int))) × (List Int))), Blk cm (fun cls d _ H => E cls d H) _ [.fz (RFn (ad 18)) deed, .fz (RTu (HC RI (HC RI (HC (RT RI) (HC (RT (RT (RT RI))) (Gd.H1 (RT RI))))))) one, .fz (RTu (HC RI (HC RI (HC (RT RI) (HC (RT (RT (RT RI))) (Gd.H1 (RT RI))))))) two, .un, .un] (f__law_refused_by_any deed one two) (CR RB) from fun p => hb p.1 p.2.1 p.2.2
  intro deed one two
  rw [f__law_refused_by_any_eq]
  unfold m__law_refused_by_any
  exact (b_asg (i := 3) ev_bl fun told => (b_tryAs (i := 4) (S := (Bool)) (Post := fun s => [.fz (RFn (ad 18)) deed, .fz (RTu (HC RI (HC RI (HC (RT RI) (HC (RT (RT (RT RI))) (Gd.H1 (RT RI))))))) one, .fz (RTu (HC RI (HC RI (HC (RT RI) (HC (RT (RT (RT RI))) (Gd.H1 (RT RI))))))) two, .fz RB s, .un]) (fun W => (ev_callL (i := 0) rfl (ea_cons (ev_var (i := 1) rfl) (ea_one (ev_var (i := 2) rfl))))) (.k (.k (.k (.k (.u .nil))))) (fun _ => rfl) T.em_AskError (fun e a => b_exc (b_asg (i := 3) (ev_andV (ev_isE (i := 4) (c := .ty "ValueError") (cv := .type "ValueError") (b := true) rfl (fun _ h => h) (T.ev e)) (ev_notV (ev_isE (i := 4) (c := .ref (cm 3)) (cv := .ref (cm 3)) (b := exSub 3 e) rfl (fun _ h => h) (T.ek_BadWord e)))) fun told1 => (b_nil (.k (.k (.k (.k (.u .nil)))))))) fun s => (b_ret (ev_var (i := 3) rfl))))
noncomputable def m__law_refused_by_any'1 (deed : Unit) (one : (Int × Int × (List Int) × (List (List (List Int))) × (List Int))) (two : (Int × Int × (List Int) × (List (List (List Int))) × (List Int))) : Rs Bool :=
  ((Rs.ok false).bind fun told =>
  ((Rs.tryR ((Rs.pr (Rs.ok one) (Rs.ok two)).bind (fun p => f_sums_times p.1 p.2)) (fun _ => .ok told) (exSub 1) (fun e => ((Rs.an (Rs.ok true) (Rs.nt (Rs.ok (exSub 3 e)))).bind fun told1 =>
  (Rs.ok told1)))).bind fun s =>
  (Rs.ok s)))
noncomputable def f__law_refused_by_any'1 (deed : Unit) (one : (Int × Int × (List Int) × (List (List (List Int))) × (List Int))) (two : (Int × Int × (List Int) × (List (List (List Int))) × (List Int))) : Rs Bool := Rs.cl (m__law_refused_by_any'1 deed one two)
theorem f__law_refused_by_any'1_eq (deed : Unit) (one : (Int × Int × (List Int) × (List (List (List Int))) × (List Int))) (two : (Int × Int × (List Int) × (List (List (List Int))) × (List Int))) : f__law_refused_by_any'1 deed one two = m__law_refused_by_any'1 deed one two := Rs.cl_eq _
def G__law_refused_by_any'1 (P : Program) (w : World) (K : PySem.W.Frag) (mg : Str → Option Value) (base : Heap) (cm ad : Nat → Addr) (fdn : Nat → FuncData) : Prop := FnOk P w K mg base (L2.CX P w) 3 (ad 43) (fdn 43) ["deed", "one", "two"] (spT cm (HC (RFn (ad 20)) (HC (RTu (HC RI (HC RI (HC (RT RI) (HC (RT (RT (RT RI))) (Gd.H1 (RT RI))))))) (Gd.H1 (RTu (HC RI (HC RI (HC (RT RI) (HC (RT (RT (RT RI))) (Gd.H1 (RT RI)))))))))) RB (fun (p : (Unit × (Int × Int × (List Int) × (List (List (List Int))) × (List Int)) × (Int × Int × (List Int) × (List (List (List Int))) × (List Int)))) => f__law_refused_by_any'1 p.1 p.2.1 p.2.2))
theorem ok__law_refused_by_any'1 {P : Program} {w : World} {K : PySem.W.Frag} {mg : Str → Option Value} {base : Heap} {cm ad : Nat → Addr} {fdn : Nat → FuncData} (T : Txt K mg cm ad fdn) (g_sums_times : G_sums_times P w K mg base cm ad fdn) : G__law_refused_by_any'1 P w K mg base cm ad fdn := by
  unfold G_sums_times at g_sums_times
  refine def_go T.F__law_refused_by_any sc__law_refused_by_any (ent_cons (ent_cons ent_one)) (fun _ => rfl) (fun cdv A outer s H E hr => ⟨_, (pss_cons (ps_set (i := 3) sc__law_refused_by_any.nd rfl (by first | exact .inl rfl | exact .inr rfl) pe_bl) (pss_cons (ps_try_as (i := 4) rfl rfl sc__law_refused_by_any.nd rfl rfl ⟨by rfl, by decide, .inl T.gx_AskError⟩ tk_of (fun W pn xe tk _ => pss_cons (ps_expr (pe_callLS (i := 0) g_sums_times (hr.mono (by decide)) rfl (by first | exact .inl rfl | exact .inr rfl) T.F_sums_times.kp T.b_sums_times (fun σ => passAt tk σ) (pa_cons (pv 1) (pa_cons (pv 2) pa_nil)))) pss_nil) (fun a oe cls d pn hz hf => pss_exc (cm := cm) (cls := cls) (d := d) (t := fun e => _) (fun e hc hd => (pss_cons (ps_set (i := 3) sc__law_refused_by_any.nd rfl (by first | exact .inl rfl | exact .inr rfl) (pe_and (pe_callB (call_isEK (K := K) rfl (T.ec e) hc hd hz hf) (by rfl) T.z_isinstance (by decide +kernel) (pa_cons (pv 4) (pa_cons (pe_bltn (v := .ty "ValueError") (by rfl) T.z_ValueError (by decide +kernel) rfl) pa_nil))) (pe_one (pe_not (pe_callB (call_isEK (K := K) rfl (T.ec e) hc hd hz hf) (by rfl) T.z_isinstance (by decide +kernel) (pa_cons (pv 4) (pa_cons (pe_glob (by rfl) T.gx_BadWord (v := .ref (cm 3)) rfl) pa_nil))))))) pss_nil)))) (pss_cons (ps_ret (pv 3)) pss_nil))), ?_⟩)
  suffices hb : ∀ (deed : Unit) (one : (Int × Int × (List Int) × (List (List (List Int))) × (List Int))) (two : (Int × Int × (List Int) × (List (List (List Int))) × (List Int))), Blk cm (fun cls d _ H => E cls d H) _ [.fz (RFn (ad 20)) deed, .fz (RTu (HC RI (HC RI (HC (RT RI) (HC (RT (RT (RT RI))) (Gd.H1 (RT RI))))))) one, .fz (RTu (HC RI (HC RI (HC (RT RI) (HC (RT (RT (RT RI))) (Gd.H1 (RT RI))))))) two, .un, .un] (f__law_refused_by_any'1 deed one two) (CR RB) from fun p => hb p.1 p.2.1 p.2.2
  intro deed one two
  rw [f__law_refused_by_any'1_eq]
  unfold m__law_refused_by_any'1
  exact (b_asg (i := 3) ev_bl fun told => (b_tryAs (i := 4) (S := (Bool)) (Post := fun s => [.fz (RFn (ad 20)) deed, .fz (RTu (HC RI (HC RI (HC (RT RI) (HC (RT (RT (RT RI))) (Gd.H1 (RT RI))))))) one, .fz (RTu (HC RI (HC RI (HC (RT RI) (HC (RT (RT (RT RI))) (Gd.H1 (RT RI))))))) two, .fz RB s, .un]) (fun W => (ev_callL (i := 0) rfl (ea_cons (ev_var (i := 1) rfl) (ea_one (ev_var (i := 2) rfl))))) (.k (.k (.k (.k (.u .nil))))) (fun _ => rfl) T.em_AskError (fun e a => b_exc (b_asg (i := 3) (ev_andV (ev_isE (i := 4) (c := .ty "ValueError") (cv := .type "ValueError") (b := true) rfl (fun _ h => h) (T.ev e)) (ev_notV (ev_isE (i := 4) (c := .ref (cm 3)) (cv := .ref (cm 3)) (b := exSub 3 e) rfl (fun _ h => h) (T.ek_BadWord e)))) fun told1 => (b_nil (.k (.k (.k (.k (.u .nil)))))))) fun s => (b_ret (ev_var (i := 3) rfl))))
/-! ### _law_edges -/
abbrev s__law_edges : Stmt := topS 44
theorem sc__law_edges : FnScope ["p", "cell", "many", "fit"] ["p", "cell"] (defScope s__law_edges) := ⟨rfl, rfl, rfl, by decide +kernel, rfl, by decide +kernel, by decide +kernel⟩
noncomputable def m__law_edges (p : Int) (cell : Int) : Rs Bool :=
  ((Rs.b2 (Rs.ok (1 : Int)) ((Rs.ok cell).bind fun x => .ok (x % 16)) fun x y => .ok (x + y)).bind fun many =>
  ((Rs.nt ((Rs.pr ((Rs.pr ((Rs.pr (Rs.ok p) (Rs.ok many)).bind (fun p => f__law_blank p.1 p.2)) ((Rs.pr (Rs.ok p) (Rs.b2 (Rs.ok (16 : Int)) (Rs.ok many) fun x y => .ok (x - y))).bind (fun p => f__law_blank p.1 p.2))).bind (fun p => f_sums_less p.1 p.2)) ((Rs.pr (Rs.ok p) (Rs.ok (16 : Int))).bind (fun p => f__law_blank p.1 p.2))).bind (fun p => f__law_house_is p.1 p.2))).bind fun b => if b = true then (Rs.ok false) else
  ((Rs.b2 (Rs.ok (16 : Int)) (Rs.ok many) divR).bind fun fit =>
  ((Rs.nt ((Rs.pr ((Rs.pr ((Rs.pr (Rs.ok p) (Rs.ok many)).bind (fun p => f__law_blank p.1 p.2)) ((Rs.pr (Rs.ok p) (Rs.ok fit)).bind (fun p => f__law_blank p.1 p.2))).bind (fun p => f_sums_times p.1 p.2)) ((Rs.pr (Rs.ok p) (Rs.b2 (Rs.ok many) (Rs.ok fit) mulR)).bind (fun p => f__law_blank p.1 p.2))).bind (fun p => f__law_house_is p.1 p.2))).bind fun b => if b = true then (Rs.ok false) else
  ((Rs.nt ((Rs.pr (Rs.ok ()) (Rs.pr ((Rs.pr (Rs.ok p) (Rs.ok many)).bind (fun p => f__law_blank p.1 p.2)) ((Rs.pr (Rs.ok p) (Rs.b2 (Rs.ok (17 : Int)) (Rs.ok many) fun x y => .ok (x - y))).bind (fun p => f__law_blank p.1 p.2)))).bind (fun p => f__law_refused p.1 p.2.1 p.2.2))).bind fun b => if b = true then (Rs.ok false) else
  ((Rs.b2 (Rs.b2 (Rs.ok fit) (Rs.ok (1 : Int)) fun x y => .ok (x + y)) (Rs.ok (16 : Int)) fun x y => .ok (decide (y < x))).bind fun b => if b = true then ((Rs.pr (Rs.ok ()) (Rs.pr ((Rs.pr (Rs.ok p) (Rs.ok (2 : Int))).bind (fun p => f__law_blank p.1 p.2)) ((Rs.pr (Rs.ok p) (Rs.ok (9 : Int))).bind (fun p => f__law_blank p.1 p.2)))).bind (fun p => f__law_refused'1 p.1 p.2.1 p.2.2)) else
  ((Rs.pr (Rs.ok ()) (Rs.pr ((Rs.pr (Rs.ok p) (Rs.ok many)).bind (fun p => f__law_blank p.1 p.2)) ((Rs.pr (Rs.ok p) (Rs.b2 (Rs.ok fit) (Rs.ok (1 : Int)) fun x y => .ok (x + y))).bind (fun p => f__law_blank p.1 p.2)))).bind (fun p => f__law_refused'1 p.1 p.2.1 p.2.2))))))))
noncomputable def f__law_edges (p : Int) (cell : Int) : Rs Bool := Rs.cl (m__law_edges p cell)
theorem f__law_edges_eq (p : Int) (cell : Int) : f__law_edges p cell = m__law_edges p cell := Rs.cl_eq _
def G__law_edges (P : Program) (w : World) (K : PySem.W.Frag) (mg : Str → Option Value) (base : Heap) (cm ad : Nat → Addr) (fdn : Nat → FuncData) : Prop := FnOk P w K mg base (L2.CX P w) 4 (ad 44) (fdn 44) ["p", "cell"] (spT cm (HC RI (Gd.H1 RI)) RB (fun (p : (Int × Int)) => f__law_edges p.1 p.2))
theorem ok__law_edges {P : Program} {w : World} {K : PySem.W.Frag} {mg : Str → Option Value} {base : Heap} {cm ad : Nat → Addr} {fdn : Nat → FuncData} (T : Txt K mg cm ad fdn) (g__law_blank : G__law_blank P w K mg base cm ad fdn) (g__law_house_is : G__law_house_is P w K mg base cm ad fdn) (g__law_refused : G__law_refused P w K mg base cm ad fdn) (g__law_refused'1 : G__law_refused'1 P w K mg base cm ad fdn) (g_sums_less : G_sums_less P w K mg base cm ad fdn) (g_sums_times : G_sums_times P w K mg base cm ad fdn) : G__law_edges P w K mg base cm ad fdn := by
  unfold G__law_blank at g__law_blank
  unfold G__law_house_is at g__law_house_is
  unfold G__law_refused at g__law_refused
  unfold G__law_refused'1 at g__law_refused'1
  unfold G_sums_less at g_sums_less
  unfold G_sums_times at g_sums_times
  refine def_go T.F__law_edges sc__law_edges (ent_cons ent_one) (fun _ => rfl) (fun cdv A outer s H E hr => ⟨_, (pss_cons (ps_set (i := 2) sc__law_edges.nd rfl (by first | exact .inl rfl | exact .inr rfl) (pe_op op_add pe_int (pe_op op_mod (pv 1) pe_int))) (pss_cons (ps_if (pt_not (pt_val (pe_callS g__law_house_is (hr.mono (by decide)) (by rfl) T.g__law_house_is T.F__law_house_is.kp T.b__law_house_is (fun σ => passAt tk_of σ) (pa_cons (pe_callS g_sums_less (hr.mono (by decide)) (by rfl) T.g_sums_less T.F_sums_less.kp T.b_sums_less (fun σ => passAt tk_of σ) (pa_cons (pe_callS g__law_blank (hr.mono (by decide)) (by rfl) T.g__law_blank T.F__law_blank.kp T.b__law_blank (fun σ => passAt tk_of σ) (pa_cons (pv 0) (pa_cons (pv 2) pa_nil))) (pa_cons (pe_callS g__law_blank (hr.mono (by decide)) (by rfl) T.g__law_blank T.F__law_blank.kp T.b__law_blank (fun σ => passAt tk_of σ) (pa_cons (pv 0) (pa_cons (pe_op op_sub pe_int (pv 2)) pa_nil))) pa_nil))) (pa_cons (pe_callS g__law_blank (hr.mono (by decide)) (by rfl) T.g__law_blank T.F__law_blank.kp T.b__law_blank (fun σ => passAt tk_of σ) (pa_cons (pv 0) (pa_cons pe_int pa_nil))) pa_nil))))) (pss_cons (ps_ret pe_bl) pss_nil) pss_nil) (pss_cons (ps_set (i := 3) sc__law_edges.nd rfl (by first | exact .inl rfl | exact .inr rfl) (pe_op op_fdivW pe_int (pv 2))) (pss_cons (ps_if (pt_not (pt_val (pe_callS g__law_house_is (hr.mono (by decide)) (by rfl) T.g__law_house_is T.F__law_house_is.kp T.b__law_house_is (fun σ => passAt tk_of σ) (pa_cons (pe_callS g_sums_times (hr.mono (by decide)) (by rfl) T.g_sums_times T.F_sums_times.kp T.b_sums_times (fun σ => passAt tk_of σ) (pa_cons (pe_callS g__law_blank (hr.mono (by decide)) (by rfl) T.g__law_blank T.F__law_blank.kp T.b__law_blank (fun σ => passAt tk_of σ) (pa_cons (pv 0) (pa_cons (pv 2) pa_nil))) (pa_cons (pe_callS g__law_blank (hr.mono (by decide)) (by rfl) T.g__law_blank T.F__law_blank.kp T.b__law_blank (fun σ => passAt tk_of σ) (pa_cons (pv 0) (pa_cons (pv 3) pa_nil))) pa_nil))) (pa_cons (pe_callS g__law_blank (hr.mono (by decide)) (by rfl) T.g__law_blank T.F__law_blank.kp T.b__law_blank (fun σ => passAt tk_of σ) (pa_cons (pv 0) (pa_cons (pe_op op_mul (pv 2) (pv 3)) pa_nil))) pa_nil))))) (pss_cons (ps_ret pe_bl) pss_nil) pss_nil) (pss_cons (ps_if (pt_not (pt_val (pe_callS g__law_refused (hr.mono (by decide)) (by rfl) T.g__law_refused T.F__law_refused.kp T.b__law_refused (fun σ => passAt tk_of σ) (pa_cons (pe_glob (by rfl) T.g_sums_less (v := .ref (ad 18)) rfl) (pa_cons (pe_callS g__law_blank (hr.mono (by decide)) (by rfl) T.g__law_blank T.F__law_blank.kp T.b__law_blank (fun σ => passAt tk_of σ) (pa_cons (pv 0) (pa_cons (pv 2) pa_nil))) (pa_cons (pe_callS g__law_blank (hr.mono (by decide)) (by rfl) T.g__law_blank T.F__law_blank.kp T.b__law_blank (fun σ => passAt tk_of σ) (pa_cons (pv 0) (pa_cons (pe_op op_sub pe_int (pv 2)) pa_nil))) pa_nil)))))) (pss_cons (ps_ret pe_bl) pss_nil) pss_nil) (pss_cons (ps_if (pt_cmpR op_gt (pe_op op_add (pv 3) pe_int) pe_int (nomark _)) (pss_cons (ps_ret (pe_callS g__law_refused'1 (hr.mono (by decide)) (by rfl) T.g__law_refused T.F__law_refused.kp T.b__law_refused (fun σ => passAt tk_of σ) (pa_cons (pe_glob (by rfl) T.g_sums_times (v := .ref (ad 20)) rfl) (pa_cons (pe_callS g__law_blank (hr.mono (by decide)) (by rfl) T.g__law_blank T.F__law_blank.kp T.b__law_blank (fun σ => passAt tk_of σ) (pa_cons (pv 0) (pa_cons pe_int pa_nil))) (pa_cons (pe_callS g__law_blank (hr.mono (by decide)) (by rfl) T.g__law_blank T.F__law_blank.kp T.b__law_blank (fun σ => passAt tk_of σ) (pa_cons (pv 0) (pa_cons pe_int pa_nil))) pa_nil))))) pss_nil) pss_nil) (pss_cons (ps_ret (pe_callS g__law_refused'1 (hr.mono (by decide)) (by rfl) T.g__law_refused T.F__law_refused.kp T.b__law_refused (fun σ => passAt tk_of σ) (pa_cons (pe_glob (by rfl) T.g_sums_times (v := .ref (ad 20)) rfl) (pa_cons (pe_callS g__law_blank (hr.mono (by decide)) (by rfl) T.g__law_blank T.F__law_blank.kp T.b__law_blank (fun σ => passAt tk_of σ) (pa_cons (pv 0) (pa_cons (pv 2) pa_nil))) (pa_cons (pe_callS g__law_blank (hr.mono (by decide)) (by rfl) T.g__law_blank T.F__law_blank.kp T.b__law_blank (fun σ => passAt tk_of σ) (pa_cons (pv 0) (pa_cons (pe_op op_add (pv 3) pe_int) pa_nil))) pa_nil))))) pss_nil))))))), ?_⟩)
  suffices hb : ∀ (p : Int) (cell : Int), Blk cm (fun cls d _ H => E cls d H) _ [.fz RI p, .fz RI cell, .un, .un] (f__law_edges p cell) (CR RB) from fun p => hb p.1 p.2
  intro p cell
  rw [f__law_edges_eq]
  unfold m__law_edges
  exact (b_asg (i := 2) (ev_b2 oe_add ev_int (ev_modc (by decide) (ev_var (i := 1) rfl))) fun many => (b_ifR (et_not (et_val (ev_call (ea_cons (ev_call (ea_cons (ev_call (ea_cons (ev_var (i := 0) rfl) (ea_one (ev_var (i := 2) rfl)))) (ea_one (ev_call (ea_cons (ev_var (i := 0) rfl) (ea_one (ev_b2 oe_sub ev_int (ev_var (i := 2) rfl)))))))) (ea_one (ev_call (ea_cons (ev_var (i := 0) rfl) (ea_one ev_int)))))))) (b_ret ev_bl) (b_asg (i := 3) (ev_b2 oe_div ev_int (ev_var (i := 2) rfl)) fun fit => (b_ifR (et_not (et_val (ev_call (ea_cons (ev_call (ea_cons (ev_call (ea_cons (ev_var (i := 0) rfl) (ea_one (ev_var (i := 2) rfl)))) (ea_one (ev_call (ea_cons (ev_var (i := 0) rfl) (ea_one (ev_var (i := 3) rfl))))))) (ea_one (ev_call (ea_cons (ev_var (i := 0) rfl) (ea_one (ev_b2 oe_mul (ev_var (i := 2) rfl) (ev_var (i := 3) rfl)))))))))) (b_ret ev_bl) (b_ifR (et_not (et_val (ev_call (ea_cons (ev_fn (f := ad 18)) (ea_cons (ev_call (ea_cons (ev_var (i := 0) rfl) (ea_one (ev_var (i := 2) rfl)))) (ea_one (ev_call (ea_cons (ev_var (i := 0) rfl) (ea_one (ev_b2 oe_sub ev_int (ev_var (i := 2) rfl))))))))))) (b_ret ev_bl) (b_ifR (et_cmp (ev_b2 oe_gt (ev_b2 oe_add (ev_var (i := 3) rfl) ev_int) ev_int)) (b_ret (ev_call (ea_cons (ev_fn (f := ad 20)) (ea_cons (ev_call (ea_cons (ev_var (i := 0) rfl) (ea_one ev_int))) (ea_one (ev_call (ea_cons (ev_var (i := 0) rfl) (ea_one ev_int)))))))) (b_ret (ev_call (ea_cons (ev_fn (f := ad 20)) (ea_cons (ev_call (ea_cons (ev_var (i := 0) rfl) (ea_one (ev_var (i := 2) rfl)))) (ea_one (ev_call (ea_cons (ev_var (i := 0) rfl) (ea_one (ev_b2 oe_add (ev_var (i := 3) rfl) ev_int)))))))))))))))
/-! ### _law_worth -/
abbrev s__law_worth : Stmt := topS 45
theorem sc__law_worth : FnScope ["house", "word"] ["house", "word"] (defScope s__law_worth) := ⟨rfl, rfl, rfl, by decide +kernel, rfl, by decide +kernel, by decide +kernel⟩
noncomputable def m__law_worth (house : (Int × Int × (List Int) × (List (List (List Int))) × (List Int))) (word : (List Int)) : Rs Int :=
  ((Rs.pr ((Rs.ok house).bind fun x => .ok (x.1)) (Rs.pr ((Rs.pr (Rs.ok house) (Rs.ok word)).bind (fun p => f__law_behind p.1 p.2)) ((Rs.ok house).bind fun x => .ok (x.2.2.2.2)))).bind (fun p => f__law_times p.1 p.2.1 p.2.2))
noncomputable def f__law_worth (house : (Int × Int × (List Int) × (List (List (List Int))) × (List Int))) (word : (List Int)) : Rs Int := Rs.cl (m__law_worth house word)
theorem f__law_worth_eq (house : (Int × Int × (List Int) × (List (List (List Int))) × (List Int))) (word : (List Int)) : f__law_worth house word = m__law_worth house word := Rs.cl_eq _
def G__law_worth (P : Program) (w : World) (K : PySem.W.Frag) (mg : Str → Option Value) (base : Heap) (cm ad : Nat → Addr) (fdn : Nat → FuncData) : Prop := FnOk P w K mg base (L2.CX P w) 3 (ad 45) (fdn 45) ["house", "word"] (spT cm (HC (RTu (HC RI (HC RI (HC (RT RI) (HC (RT (RT (RT RI))) (Gd.H1 (RT RI))))))) (Gd.H1 (RT RI))) RI (fun (p : ((Int × Int × (List Int) × (List (List (List Int))) × (List Int)) × (List Int))) => f__law_worth p.1 p.2))
theorem ok__law_worth {P : Program} {w : World} {K : PySem.W.Frag} {mg : Str → Option Value} {base : Heap} {cm ad : Nat → Addr} {fdn : Nat → FuncData} (T : Txt K mg cm ad fdn) (g__law_behind : G__law_behind P w K mg base cm ad fdn) (g__law_times : G__law_times P w K mg base cm ad fdn) : G__law_worth P w K mg base cm ad fdn := by
  unfold G__law_behind at g__law_behind
  unfold G__law_times at g__law_times
  refine def_go T.F__law_worth sc__law_worth (ent_cons ent_one) (fun _ => rfl) (fun cdv A outer s H E hr => ⟨_, (pss_cons (ps_ret (pe_callS g__law_times (hr.mono (by decide)) (by rfl) T.g__law_times T.F__law_times.kp T.b__law_times (fun σ => passAt tk_of σ) (pa_cons (pe_ix (ix_tupK (K := K) rfl) (pv 0) pe_int (fun _ _ => rfl)) (pa_cons (pe_callS g__law_behind (hr.mono (by decide)) (by rfl) T.g__law_behind T.F__law_behind.kp T.b__law_behind (fun σ => passAt tk_of σ) (pa_cons (pv 0) (pa_cons (pv 1) pa_nil))) (pa_cons (pe_ix (ix_tupK (K := K) rfl) (pv 0) pe_int (fun _ _ => rfl)) pa_nil))))) pss_nil), ?_⟩)
  suffices hb : ∀ (house : (Int × Int × (List Int) × (List (List (List Int))) × (List Int))) (word : (List Int)), Blk cm (fun cls d _ H => E cls d H) _ [.fz (RTu (HC RI (HC RI (HC (RT RI) (HC (RT (RT (RT RI))) (Gd.H1 (RT RI))))))) house, .fz (RT RI) word] (f__law_worth house word) (CR RI) from fun p => hb p.1 p.2
  intro house word
  rw [f__law_worth_eq]
  unfold m__law_worth
  exact (b_ret (ev_call (ea_cons (ev_ixc (i := 0) (hfst (hfst (hfst (hfst hlast)))) rfl (ev_var (i := 0) rfl)) (ea_cons (ev_call (ea_cons (ev_var (i := 0) rfl) (ea_one (ev_var (i := 1) rfl)))) (ea_one (ev_ixc (i := 4) (hsnd (hsnd (hsnd (hsnd hlast)))) rfl (ev_var (i := 0) rfl)))))))
/-! ### _law_values -/
abbrev s__law_values : Stmt := topS 46
theorem sc__law_values : FnScope ["one", "two", "word", "p", "mine", "other"] ["one", "two", "word"] (defScope s__law_values) := ⟨rfl, rfl, rfl, by decide +kernel, rfl, by decide +kernel, by decide +kernel⟩
noncomputable def m__law_values (one : (Int × Int × (List Int) × (List (List (List Int))) × (List Int))) (two : (Int × Int × (List Int) × (List (List (List Int))) × (List Int))) (word : (List Int)) : Rs Bool :=
  (((Rs.ok one).bind fun x => .ok (x.1)).bind fun p =>
  (((Rs.pr (Rs.ok one) (Rs.ok word)).bind (fun p => f__law_worth p.1 p.2)).bind fun mine =>
  (((Rs.pr (Rs.ok two) (Rs.ok word)).bind (fun p => f__law_worth p.1 p.2)).bind fun other =>
  ((Rs.b2 ((Rs.pr ((Rs.pr (Rs.ok one) (Rs.ok two)).bind (fun p => f_sums_less p.1 p.2)) (Rs.ok word)).bind (fun p => f_worth p.1 p.2)) (Rs.b2 (Rs.b2 (Rs.ok mine) (Rs.ok other) fun x y => .ok (x - y)) (Rs.ok p) modR) fun x y => .ok (!decide (x = y))).bind fun b => if b = true then (Rs.ok false) else
  ((Rs.b2 ((Rs.pr ((Rs.pr (Rs.ok one) (Rs.ok two)).bind (fun p => f_sums_times p.1 p.2)) (Rs.ok word)).bind (fun p => f_worth p.1 p.2)) (Rs.b2 (Rs.b2 (Rs.ok mine) (Rs.ok other) mulR) (Rs.ok p) modR) fun x y => .ok (!decide (x = y))).bind fun b => if b = true then (Rs.ok false) else
  (Rs.b2 ((Rs.pr ((Rs.ok one).bind (fun p => f_sums_back p)) ((Rs.ok word).bind fun x => .ok x.reverse)).bind (fun p => f_worth p.1 p.2)) (Rs.ok mine) fun x y => .ok (decide (x = y))))))))
noncomputable def f__law_values (one : (Int × Int × (List Int) × (List (List (List Int))) × (List Int))) (two : (Int × Int × (List Int) × (List (List (List Int))) × (List Int))) (word : (List Int)) : Rs Bool := Rs.cl (m__law_values one two word)
theorem f__law_values_eq (one : (Int × Int × (List Int) × (List (List (List Int))) × (List Int))) (two : (Int × Int × (List Int) × (List (List (List Int))) × (List Int))) (word : (List Int)) : f__law_values one two word = m__law_values one two word := Rs.cl_eq _
def G__law_values (P : Program) (w : World) (K : PySem.W.Frag) (mg : Str → Option Value) (base : Heap) (cm ad : Nat → Addr) (fdn : Nat → FuncData) : Prop := FnOk P w K mg base (L2.CX P w) 5 (ad 46) (fdn 46) ["one", "two", "word"] (spT cm (HC (RTu (HC RI (HC RI (HC (RT RI) (HC (RT (RT (RT RI))) (Gd.H1 (RT RI))))))) (HC (RTu (HC RI (HC RI (HC (RT RI) (HC (RT (RT (RT RI))) (Gd.H1 (RT RI))))))) (Gd.H1 (RT RI)))) RB (fun (p : ((Int × Int × (List Int) × (List (List (List Int))) × (List Int)) × (Int × Int × (List Int) × (List (List (List Int))) × (List Int)) × (List Int))) => f__law_values p.1 p.2.1 p.2.2))
theorem ok__law_values {P : Program} {w : World} {K : PySem.W.Frag} {mg : Str → Option Value} {base : Heap} {cm ad : Nat → Addr} {fdn : Nat → FuncData} (T : Txt K mg cm ad fdn) (g__law_worth : G__law_worth P w K mg base cm ad fdn) (g_sums_back : G_sums_back P w K mg base cm ad fdn) (g_sums_less : G_sums_less P w K mg base cm ad fdn) (g_sums_times : G_sums_times P w K mg base cm ad fdn) (g_worth : G_worth P w K mg base cm ad fdn) : G__law_values P w K mg base cm ad fdn := by
  unfold G__law_worth at g__law_worth
  unfold G_sums_back at g_sums_back
  unfold G_sums_less at g_sums_less
  unfold G_sums_times at g_sums_times
  unfold G_worth at g_worth
  refine def_go T.F__law_values sc__law_values (ent_cons (ent_cons ent_one)) (fun _ => rfl) (fun cdv A outer s H E hr => ⟨_, (pss_cons (ps_set (i := 3) sc__law_values.nd rfl (by first | exact .inl rfl | exact .inr rfl) (pe_ix (ix_tupK (K := K) rfl) (pv 0) pe_int (fun _ _ => rfl))) (pss_cons (ps_set (i := 4) sc__law_values.nd rfl (by first | exact .inl rfl | exact .inr rfl) (pe_callS g__law_worth (hr.mono (by decide)) (by rfl) T.g__law_worth T.F__law_worth.kp T.b__law_worth (fun σ => passAt tk_of σ) (pa_cons (pv 0) (pa_cons (pv 2) pa_nil)))) (pss_cons (ps_set (i := 5) sc__law_values.nd rfl (by first | exact .inl rfl | exact .inr rfl) (pe_callS g__law_worth (hr.mono (by decide)) (by rfl) T.g__law_worth T.F__law_worth.kp T.b__law_worth (fun σ => passAt tk_of σ) (pa_cons (pv 1) (pa_cons (pv 2) pa_nil)))) (pss_cons (ps_if (pt_cmpR op_ne (pe_callS g_worth (hr.mono (by decide)) (by rfl) T.g_worth T.F_worth.kp T.b_worth (fun σ => passAt tk_of σ) (pa_cons (pe_callS g_sums_less (hr.mono (by decide)) (by rfl) T.g_sums_less T.F_sums_less.kp T.b_sums_less (fun σ => passAt tk_of σ) (pa_cons (pv 0) (pa_cons (pv 1) pa_nil))) (pa_cons (pv 2) pa_nil))) (pe_op op_mod (pe_op op_sub (pv 4) (pv 5)) (pv 3)) (nomark _)) (pss_cons (ps_ret pe_bl) pss_nil) pss_nil) (pss_cons (ps_if (pt_cmpR op_ne (pe_callS g_worth (hr.mono (by decide)) (by rfl) T.g_worth T.F_worth.kp T.b_worth (fun σ => passAt tk_of σ) (pa_cons (pe_callS g_sums_times (hr.mono (by decide)) (by rfl) T.g_sums_times T.F_sums_times.kp T.b_sums_times (fun σ => passAt tk_of σ) (pa_cons (pv 0) (pa_cons (pv 1) pa_nil))) (pa_cons (pv 2) pa_nil))) (pe_op op_mod (pe_op op_mul (pv 4) (pv 5)) (pv 3)) (nomark _)) (pss_cons (ps_ret pe_bl) pss_nil) pss_nil) (pss_cons (ps_ret (pe_cmpR op_eq (pe_callS g_worth (hr.mono (by decide)) (by rfl) T.g_worth T.F_worth.kp T.b_worth (fun σ => passAt tk_of σ) (pa_cons (pe_callS g_sums_back (hr.mono (by decide)) (by rfl) T.g_sums_back T.F_sums_back.kp T.b_sums_back (fun σ => passAt tk_of σ) (pa_cons (pv 0) pa_nil)) (pa_cons (pe_tupRevT rfl (by rfl) T.z_tuple (by rfl) T.z_reversed (pv 2)) pa_nil))) (pv 4) (nomark _))) pss_nil)))))), ?_⟩)
  suffices hb : ∀ (one : (Int × Int × (List Int) × (List (List (List Int))) × (List Int))) (two : (Int × Int × (List Int) × (List (List (List Int))) × (List Int))) (word : (List Int)), Blk cm (fun cls d _ H => E cls d H) _ [.fz (RTu (HC RI (HC RI (HC (RT RI) (HC (RT (RT (RT RI))) (Gd.H1 (RT RI))))))) one, .fz (RTu (HC RI (HC RI (HC (RT RI) (HC (RT (RT (RT RI))) (Gd.H1 (RT RI))))))) two, .fz (RT RI) word, .un, .un, .un] (f__law_values one two word) (CR RB) from fun p => hb p.1 p.2.1 p.2.2
  intro one two word
  rw [f__law_values_eq]
  unfold m__law_values
  exact (b_asg (i := 3) (ev_ixc (i := 0) (hfst (hfst (hfst (hfst hlast)))) rfl (ev_var (i := 0) rfl)) fun p => (b_asg (i := 4) (ev_call (ea_cons (ev_var (i := 0) rfl) (ea_one (ev_var (i := 2) rfl)))) fun mine => (b_asg (i := 5) (ev_call (ea_cons (ev_var (i := 1) rfl) (ea_one (ev_var (i := 2) rfl)))) fun other => (b_ifR (et_cmp (ev_b2 oe_neI (ev_call (ea_cons (ev_call (ea_cons (ev_var (i := 0) rfl) (ea_one (ev_var (i := 1) rfl)))) (ea_one (ev_var (i := 2) rfl)))) (ev_b2 oe_mod (ev_b2 oe_sub (ev_var (i := 4) rfl) (ev_var (i := 5) rfl)) (ev_var (i := 3) rfl)))) (b_ret ev_bl) (b_ifR (et_cmp (ev_b2 oe_neI (ev_call (ea_cons (ev_call (ea_cons (ev_var (i := 0) rfl) (ea_one (ev_var (i := 1) rfl)))) (ea_one (ev_var (i := 2) rfl)))) (ev_b2 oe_mod (ev_b2 oe_mul (ev_var (i := 4) rfl) (ev_var (i := 5) rfl)) (ev_var (i := 3) rfl)))) (b_ret ev_bl) (b_ret (ev_b2 oe_eqI (ev_call (ea_cons (ev_call (ea_one (ev_var (i := 0) rfl))) (ea_one (ev_tuprevT (ev_var (i := 2) rfl))))) (ev_var (i := 4) rfl))))))))
/-! ### _law_unlike -/
abbrev s__law_unlike : Stmt := topS 47
theorem sc__law_unlike : FnScope ["deed", "one", "two", "cell", "beside", "k", "blank_table", "letters"] ["deed", "one", "two", "cell"] (defScope s__law_unlike) := ⟨rfl, rfl, rfl, by decide +kernel, rfl, by decide +kernel, by decide +kernel⟩
noncomputable def m__law_unlike (deed : Unit) (one : (Int × Int × (List Int) × (List (List (List Int))) × (List Int))) (two : (Int × Int × (List Int) × (List (List (List Int))) × (List Int))) (cell : Int) : Rs Bool :=
  ((Rs.pr (Rs.ok (7 : Int)) (Rs.pr ((Rs.ok two).bind fun x => .ok (x.2.1)) (Rs.pr (Rs.cs (Rs.ok (0 : Int)) (Rs.ok ([] : List Int))) (Rs.pr (Rs.b2 (Rs.cs (Rs.cs (Rs.cs (Rs.ok (0 : Int)) (Rs.ok ([] : List Int))) (Rs.ok ([] : List (List Int)))) (Rs.ok ([] : List (List (List Int))))) ((Rs.ok two).bind fun x => .ok (x.2.1)) repT0R) (Rs.cs (Rs.ok (0 : Int)) (Rs.ok ([] : List Int))))))).bind fun beside =>
  ((Rs.b2 ((Rs.ok one).bind fun x => .ok (x.1)) (Rs.ok (7 : Int)) fun x y => .ok (decide (x = y))).bind fun b => (if b = true then ((Rs.pr (Rs.ok (5 : Int)) (Rs.pr ((Rs.ok two).bind fun x => .ok (x.2.1)) (Rs.pr (Rs.cs (Rs.ok (0 : Int)) (Rs.ok ([] : List Int))) (Rs.pr (Rs.b2 (Rs.cs (Rs.cs (Rs.cs (Rs.ok (0 : Int)) (Rs.ok ([] : List Int))) (Rs.ok ([] : List (List Int)))) (Rs.ok ([] : List (List (List Int))))) ((Rs.ok two).bind fun x => .ok (x.2.1)) repT0R) (Rs.cs (Rs.ok (0 : Int)) (Rs.ok ([] : List Int))))))).bind fun beside1 =>
  (Rs.ok beside1)) else
  (Rs.ok beside)).bind fun s =>
  ((Rs.b2 ((Rs.ok cell).bind fun x => .ok (x % 2)) (Rs.ok (1 : Int)) fun x y => .ok (decide (x = y))).bind fun b => (if b = true then ((((((Rs.ok two).bind fun x => .ok (x.2.2.1)).bind fun x => .ok (x.length : Int)).bind fun n => rngR 0 n).bind fun xs => Rs.mapR (fun x => (Rs.b2 (Rs.cs (Rs.ok (0 : Int)) (Rs.ok ([] : List Int))) (((Rs.ok two).bind fun x => .ok (x.2.2.1)).bind fun x => .ok (x.length : Int)) repT0R)) xs).bind fun blank_table =>
  ((Rs.b2 (((Rs.ok two).bind fun x => .ok (x.2.1)).bind fun x => .ok (x % 6)) (Rs.ok (1 : Int)) fun x y => .ok (x + y)).bind fun letters =>
  ((Rs.pr ((Rs.ok two).bind fun x => .ok (x.1)) (Rs.pr (Rs.ok letters) (Rs.pr ((Rs.ok two).bind fun x => .ok (x.2.2.1)) (Rs.pr (Rs.b2 (Rs.cs (Rs.ok blank_table) (Rs.ok ([] : List (List (List Int))))) (Rs.ok letters) repT0R) ((Rs.ok two).bind fun x => .ok (x.2.2.2.2)))))).bind fun beside2 =>
  (Rs.ok beside2)))) else
  (Rs.ok s)).bind fun s1 =>
  (Rs.an ((Rs.pr (Rs.ok deed) (Rs.pr (Rs.ok one) (Rs.ok s1))).bind (fun p => f__law_refused p.1 p.2.1 p.2.2)) ((Rs.pr (Rs.ok deed) (Rs.pr (Rs.ok s1) (Rs.ok one))).bind (fun p => f__law_refused_by_any p.1 p.2.1 p.2.2))))))
noncomputable def f__law_unlike (deed : Unit) (one : (Int × Int × (List Int) × (List (List (List Int))) × (List Int))) (two : (Int × Int × (List Int) × (List (List (List Int))) × (List Int))) (cell : Int) : Rs Bool := Rs.cl (m__law_unlike deed one two cell)
theorem f__law_unlike_eq (deed : Unit) (one : (Int × Int × (List Int) × (List (List (List Int))) × (List Int))) (two : (Int × Int × (List Int) × (List (List (List Int))) × (List Int))) (cell : Int) : f__law_unlike deed one two cell = m__law_unlike deed one two cell := Rs.cl_eq _
def G__law_unlike (P : Program) (w : World) (K : PySem.W.Frag) (mg : Str → Option Value) (base : Heap) (cm ad : Nat → Addr) (fdn : Nat → FuncData) : Prop := FnOk P w K mg base (L2.CX P w) 4 (ad 47) (fdn 47) ["deed", "one", "two", "cell"] (spT cm (HC (RFn (ad 18)) (HC (RTu (HC RI (HC RI (HC (RT RI) (HC (RT (RT (RT RI))) (Gd.H1 (RT RI))))))) (HC (RTu (HC RI (HC RI (HC (RT RI) (HC (RT (RT (RT RI))) (Gd.H1 (RT RI))))))) (Gd.H1 RI)))) RB (fun (p : (Unit × (Int × Int × (List Int) × (List (List (List Int))) × (List Int)) × (Int × Int × (List Int) × (List (List (List Int))) × (List Int)) × Int)) => f__law_unlike p.1 p.2.1 p.2.2.1 p.2.2.2))
theorem ok__law_unlike {P : Program} {w : World} {K : PySem.W.Frag} {mg : Str → Option Value} {base : Heap} {cm ad : Nat → Addr} {fdn : Nat → FuncData} (T : Txt K mg cm ad fdn) (g__law_refused : G__law_refused P w K mg base cm ad fdn) (g__law_refused_by_any : G__law_refused_by_any P w K mg base cm ad fdn) : G__law_unlike P w K mg base cm ad fdn := by
  unfold G__law_refused at g__law_refused
  unfold G__law_refused_by_any at g__law_refused_by_any
  refine def_go T.F__law_unlike sc__law_unlike (ent_cons (ent_cons (ent_cons ent_one))) (fun _ => rfl) (fun cdv A outer s H E hr => ⟨_, (pss_cons (ps_set (i := 4) sc__law_unlike.nd rfl (by first | exact .inl rfl | exact .inr rfl) (pe_tup (pa_cons pe_int (pa_cons (pe_ix (ix_tupK (K := K) rfl) (pv 2) pe_int (fun _ _ => rfl)) (pa_cons (pe_tup (pa_cons pe_int pa_nil)) (pa_cons (pe_op (op_repBK (K := K) rfl) (pe_tup (pa_cons (pe_tup (pa_cons (pe_tup (pa_cons pe_int pa_nil)) pa_nil)) pa_nil)) (pe_ix (ix_tupK (K := K) rfl) (pv 2) pe_int (fun _ _ => rfl))) (pa_cons (pe_tup (pa_cons pe_int pa_nil)) pa_nil))))))) (pss_cons (ps_if (pt_cmpR op_eq (pe_ix (ix_tupK (K := K) rfl) (pv 1) pe_int (fun _ _ => rfl)) pe_int (nomark _)) (pss_cons (ps_set (i := 4) sc__law_unlike.nd rfl (by first | exact .inl rfl | exact .inr rfl) (pe_tup (pa_cons pe_int (pa_cons (pe_ix (ix_tupK (K := K) rfl) (pv 2) pe_int (fun _ _ => rfl)) (pa_cons (pe_tup (pa_cons pe_int pa_nil)) (pa_cons (pe_op (op_repBK (K := K) rfl) (pe_tup (pa_cons (pe_tup (pa_cons (pe_tup (pa_cons pe_int pa_nil)) pa_nil)) pa_nil)) (pe_ix (ix_tupK (K := K) rfl) (pv 2) pe_int (fun _ _ => rfl))) (pa_cons (pe_tup (pa_cons pe_int pa_nil)) pa_nil))))))) pss_nil) pss_nil) (pss_cons (ps_if (pt_cmpR op_eq (pe_op op_mod (pv 3) pe_int) pe_int (nomark _)) (pss_cons (ps_set (i := 6) sc__law_unlike.nd rfl (by first | exact .inl rfl | exact .inr rfl) (pe_callTy (tuple_K (K := K) rfl) (by rfl) T.z_tuple PyProof.Rows.boot_tuple (pa_cons (pe_lc (own := [("k", 5)]) rfl sc__law_unlike.nd (pi_range1 (by rfl) T.z_range (pa_cons (pe_callB (len_K (K := K) rfl) (by rfl) T.z_len PySem.boot_len (pa_cons (pe_ix (ix_tupK (K := K) rfl) (pv 2) pe_int (fun _ _ => rfl)) pa_nil)) pa_nil)) (blkOk_by (N := ["deed", "one", "two", "cell", "beside", "k", "blank_table", "letters"]) (sc := defScope s__law_unlike) (by decide +kernel)) (fun _ _ _ _ _ => (pg_name (i := 5) sc__law_unlike.nd rfl (by first | exact .inl rfl | exact .inr rfl))) (fun _ _ _ _ _ => pts_nil) (fun _ _ _ _ _ => (pe_op (op_repBK (K := K) rfl) (pe_tup (pa_cons pe_int pa_nil)) (pe_callB (len_K (K := K) rfl) (by rfl) T.z_len PySem.boot_len (pa_cons (pe_ix (ix_tupK (K := K) rfl) (pv 2) pe_int (fun _ _ => rfl)) pa_nil))))) pa_nil))) (pss_cons (ps_set (i := 7) sc__law_unlike.nd rfl (by first | exact .inl rfl | exact .inr rfl) (pe_op op_add (pe_op op_mod (pe_ix (ix_tupK (K := K) rfl) (pv 2) pe_int (fun _ _ => rfl)) pe_int) pe_int)) (pss_cons (ps_set (i := 4) sc__law_unlike.nd rfl (by first | exact .inl rfl | exact .inr rfl) (pe_tup (pa_cons (pe_ix (ix_tupK (K := K) rfl) (pv 2) pe_int (fun _ _ => rfl)) (pa_cons (pv 7) (pa_cons (pe_ix (ix_tupK (K := K) rfl) (pv 2) pe_int (fun _ _ => rfl)) (pa_cons (pe_op (op_repBK (K := K) rfl) (pe_tup (pa_cons (pv 6) pa_nil)) (pv 7)) (pa_cons (pe_ix (ix_tupK (K := K) rfl) (pv 2) pe_int (fun _ _ => rfl)) pa_nil))))))) pss_nil))) pss_nil) (pss_cons (ps_ret (pe_and (pe_callS g__law_refused (hr.mono (by decide)) (by rfl) T.g__law_refused T.F__law_refused.kp T.b__law_refused (fun σ => passAt tk_of σ) (pa_cons (pv 0) (pa_cons (pv 1) (pa_cons (pv 4) pa_nil)))) (pe_one (pe_callS g__law_refused_by_any (hr.mono (by decide)) (by rfl) T.g__law_refused_by_any T.F__law_refused_by_any.kp T.b__law_refused_by_any (fun σ => passAt tk_of σ) (pa_cons (pv 0) (pa_cons (pv 4) (pa_cons (pv 1) pa_nil))))))) pss_nil)))), ?_⟩)
  suffices hb : ∀ (deed : Unit) (one : (Int × Int × (List Int) × (List (List (List Int))) × (List Int))) (two : (Int × Int × (List Int) × (List (List (List Int))) × (List Int))) (cell : Int), Blk cm (fun cls d _ H => E cls d H) _ [.fz (RFn (ad 18)) deed, .fz (RTu (HC RI (HC RI (HC (RT RI) (HC (RT (RT (RT RI))) (Gd.H1 (RT RI))))))) one, .fz (RTu (HC RI (HC RI (HC (RT RI) (HC (RT (RT (RT RI))) (Gd.H1 (RT RI))))))) two, .fz RI cell, .un, .un, .un, .un] (f__law_unlike deed one two cell) (CR RB) from fun p => hb p.1 p.2.1 p.2.2.1 p.2.2.2
  intro deed one two cell
  rw [f__law_unlike_eq]
  unfold m__law_unlike
  exact (b_asg (i := 4) (ev_tup (hl5_le) (ea_cons ev_int (ea_cons (ev_ixc (i := 1) (hsnd (hfst (hfst (hfst hlast)))) rfl (ev_var (i := 2) rfl)) (ea_cons (ev_tupL (ea_consL ev_int ea_nilL) (le1000 (cs_len nil_len) (by decide))) (ea_cons (ev_b2 oe_repT0 (ev_tupL (ea_consL (ev_tupL (ea_consL (ev_tupL (ea_consL ev_int ea_nilL) (le1000 (cs_len nil_len) (by decide))) ea_nilL) (le1000 (cs_len nil_len) (by decide))) ea_nilL) (le1000 (cs_len nil_len) (by decide))) (ev_ixc (i := 1) (hsnd (hfst (hfst (hfst hlast)))) rfl (ev_var (i := 2) rfl))) (ea_one (ev_tupL (ea_consL ev_int ea_nilL) (le1000 (cs_len nil_len) (by decide))))))))) fun beside => (b_if (S := ((Int × Int × (List Int) × (List (List (List Int))) × (List Int)))) (Post := fun s => [.fz (RFn (ad 18)) deed, .fz (RTu (HC RI (HC RI (HC (RT RI) (HC (RT (RT (RT RI))) (Gd.H1 (RT RI))))))) one, .fz (RTu (HC RI (HC RI (HC (RT RI) (HC (RT (RT (RT RI))) (Gd.H1 (RT RI))))))) two, .fz RI cell, .fz (RTu (HC RI (HC RI (HC (RT RI) (HC (RT (RT (RT RI))) (Gd.H1 (RT RI))))))) s, .un, .un, .un]) (et_cmp (ev_b2 oe_eqI (ev_ixc (i := 0) (hfst (hfst (hfst (hfst hlast)))) rfl (ev_var (i := 1) rfl)) ev_int)) (b_asg (i := 4) (ev_tup (hl5_le) (ea_cons ev_int (ea_cons (ev_ixc (i := 1) (hsnd (hfst (hfst (hfst hlast)))) rfl (ev_var (i := 2) rfl)) (ea_cons (ev_tupL (ea_consL ev_int ea_nilL) (le1000 (cs_len nil_len) (by decide))) (ea_cons (ev_b2 oe_repT0 (ev_tupL (ea_consL (ev_tupL (ea_consL (ev_tupL (ea_consL ev_int ea_nilL) (le1000 (cs_len nil_len) (by decide))) ea_nilL) (le1000 (cs_len nil_len) (by decide))) ea_nilL) (le1000 (cs_len nil_len) (by decide))) (ev_ixc (i := 1) (hsnd (hfst (hfst (hfst hlast)))) rfl (ev_var (i := 2) rfl))) (ea_one (ev_tupL (ea_consL ev_int ea_nilL) (le1000 (cs_len nil_len) (by decide))))))))) fun beside1 => (b_nil (.k (.k (.k (.k (.k (.u (.u (.u .nil)))))))))) (b_nil (.k (.k (.k (.k (.k (.u (.u (.u .nil))))))))) fun s => (b_if (S := ((Int × Int × (List Int) × (List (List (List Int))) × (List Int)))) (Post := fun s1 => [.fz (RFn (ad 18)) deed, .fz (RTu (HC RI (HC RI (HC (RT RI) (HC (RT (RT (RT RI))) (Gd.H1 (RT RI))))))) one, .fz (RTu (HC RI (HC RI (HC (RT RI) (HC (RT (RT (RT RI))) (Gd.H1 (RT RI))))))) two, .fz RI cell, .fz (RTu (HC RI (HC RI (HC (RT RI) (HC (RT (RT (RT RI))) (Gd.H1 (RT RI))))))) s1, .un, .un, .un]) (et_cmp (ev_b2 oe_eqI (ev_modc (by decide) (ev_var (i := 3) rfl)) ev_int)) (b_asg (i := 6) (ev_tupl (el_fz (evn_fz (en_map (wi_rng1 (ea_one (ev_lent (ev_ixc (i := 2) (hsnd (hsnd (hfst (hfst hlast)))) rfl (ev_var (i := 2) rfl))))) (eg_name 5) (by decide) fun x => (ev_b2 oe_repT0 (ev_tupL (ea_consL ev_int ea_nilL) (le1000 (cs_len nil_len) (by decide))) (ev_lent (ev_ixc (i := 2) (hsnd (hsnd (hfst (hfst hlast)))) rfl (ev_var (i := 2) rfl)))))))) fun blank_table => (b_asg (i := 7) (ev_b2 oe_add (ev_modc (by decide) (ev_ixc (i := 1) (hsnd (hfst (hfst (hfst hlast)))) rfl (ev_var (i := 2) rfl))) ev_int) fun letters => (b_asg (i := 4) (ev_tup (hl5_le) (ea_cons (ev_ixc (i := 0) (hfst (hfst (hfst (hfst hlast)))) rfl (ev_var (i := 2) rfl)) (ea_cons (ev_var (i := 7) rfl) (ea_cons (ev_ixc (i := 2) (hsnd (hsnd (hfst (hfst hlast)))) rfl (ev_var (i := 2) rfl)) (ea_cons (ev_b2 oe_repT0 (ev_tupL (ea_consL (ev_var (i := 6) rfl) ea_nilL) (le1000 (cs_len nil_len) (by decide))) (ev_var (i := 7) rfl)) (ea_one (ev_ixc (i := 4) (hsnd (hsnd (hsnd (hsnd hlast)))) rfl (ev_var (i := 2) rfl)))))))) fun beside2 => (b_nil (.k (.k (.k (.k (.k (.u (.u (.u .nil)))))))))))) (b_nil (.k (.k (.k (.k (.k (.u (.u (.u .nil))))))))) fun s1 => (b_ret (ev_andV (ev_call (ea_cons (ev_var (i := 0) rfl) (ea_cons (ev_var (i := 1) rfl) (ea_one (ev_var (i := 4) rfl))))) (ev_call (ea_cons (ev_var (i := 0) rfl) (ea_cons (ev_var (i := 4) rfl) (ea_one (ev_var (i := 1) rfl))))))))))
noncomputable def m__law_unlike'1 (deed : Unit) (one : (Int × Int × (List Int) × (List (List (List Int))) × (List Int))) (two : (Int × Int × (List Int) × (List (List (List Int))) × (List Int))) (cell : Int) : Rs Bool :=
  ((Rs.pr (Rs.ok (7 : Int)) (Rs.pr ((Rs.ok two).bind fun x => .ok (x.2.1)) (Rs.pr (Rs.cs (Rs.ok (0 : Int)) (Rs.ok ([] : List Int))) (Rs.pr (Rs.b2 (Rs.cs (Rs.cs (Rs.cs (Rs.ok (0 : Int)) (Rs.ok ([] : List Int))) (Rs.ok ([] : List (List Int)))) (Rs.ok ([] : List (List (List Int))))) ((Rs.ok two).bind fun x => .ok (x.2.1)) repT0R) (Rs.cs (Rs.ok (0 : Int)) (Rs.ok ([] : List Int))))))).bind fun beside =>
  ((Rs.b2 ((Rs.ok one).bind fun x => .ok (x.1)) (Rs.ok (7 : Int)) fun x y => .ok (decide (x = y))).bind fun b => (if b = true then ((Rs.pr (Rs.ok (5 : Int)) (Rs.pr ((Rs.ok two).bind fun x => .ok (x.2.1)) (Rs.pr (Rs.cs (Rs.ok (0 : Int)) (Rs.ok ([] : List Int))) (Rs.pr (Rs.b2 (Rs.cs (Rs.cs (Rs.cs (Rs.ok (0 : Int)) (Rs.ok ([] : List Int))) (Rs.ok ([] : List (List Int)))) (Rs.ok ([] : List (List (List Int))))) ((Rs.ok two).bind fun x => .ok (x.2.1)) repT0R) (Rs.cs (Rs.ok (0 : Int)) (Rs.ok ([] : List Int))))))).bind fun beside1 =>
  (Rs.ok beside1)) else
  (Rs.ok beside)).bind fun s =>
  ((Rs.b2 ((Rs.ok cell).bind fun x => .ok (x % 2)) (Rs.ok (1 : Int)) fun x y => .ok (decide (x = y))).bind fun b => (if b = true then ((((((Rs.ok two).bind fun x => .ok (x.2.2.1)).bind fun x => .ok (x.length : Int)).bind fun n => rngR 0 n).bind fun xs => Rs.mapR (fun x => (Rs.b2 (Rs.cs (Rs.ok (0 : Int)) (Rs.ok ([] : List Int))) (((Rs.ok two).bind fun x => .ok (x.2.2.1)).bind fun x => .ok (x.length : Int)) repT0R)) xs).bind fun blank_table =>
  ((Rs.b2 (((Rs.ok two).bind fun x => .ok (x.2.1)).bind fun x => .ok (x % 6)) (Rs.ok (1 : Int)) fun x y => .ok (x + y)).bind fun letters =>
  ((Rs.pr ((Rs.ok two).bind fun x => .ok (x.1)) (Rs.pr (Rs.ok letters) (Rs.pr ((Rs.ok two).bind fun x => .ok (x.2.2.1)) (Rs.pr (Rs.b2 (Rs.cs (Rs.ok blank_table) (Rs.ok ([] : List (List (List Int))))) (Rs.ok letters) repT0R) ((Rs.ok two).bind fun x => .ok (x.2.2.2.2)))))).bind fun beside2 =>
  (Rs.ok beside2)))) else
  (Rs.ok s)).bind fun s1 =>
  (Rs.an ((Rs.pr (Rs.ok deed) (Rs.pr (Rs.ok one) (Rs.ok s1))).bind (fun p => f__law_refused'1 p.1 p.2.1 p.2.2)) ((Rs.pr (Rs.ok deed) (Rs.pr (Rs.ok s1) (Rs.ok one))).bind (fun p => f__law_refused_by_any'1 p.1 p.2.1 p.2.2))))))
noncomputable def f__law_unlike'1 (deed : Unit) (one : (Int × Int × (List Int) × (List (List (List Int))) × (List Int))) (two : (Int × Int × (List Int) × (List (List (List Int))) × (List Int))) (cell : Int) : Rs Bool := Rs.cl (m__law_unlike'1 deed one two cell)
theorem f__law_unlike'1_eq (deed : Unit) (one : (Int × Int × (List Int) × (List (List (List Int))) × (List Int))) (two : (Int × Int × (List Int) × (List (List (List Int))) × (List Int))) (cell : Int) : f__law_unlike'1 deed one two cell = m__law_unlike'1 deed one two cell := Rs.cl_eq _
def G__law_unlike'1 (P : Program) (w : World) (K : PySem.W.Frag) (mg : Str → Option Value) (base : Heap) (cm ad : Nat → Addr) (fdn : Nat → FuncData) : Prop := FnOk P w K mg base (L2.CX P w) 4 (ad 47) (fdn 47) ["deed", "one", "two", "cell"] (spT cm (HC (RFn (ad 20)) (HC (RTu (HC RI (HC RI (HC (RT RI) (HC (RT (RT (RT RI))) (Gd.H1 (RT RI))))))) (HC (RTu (HC RI (HC RI (HC (RT RI) (HC (RT (RT (RT RI))) (Gd.H1 (RT RI))))))) (Gd.H1 RI)))) RB (fun (p : (Unit × (Int × Int × (List Int) × (List (List (List Int))) × (List Int)) × (Int × Int × (List Int) × (List (List (List Int))) × (List Int)) × Int)) => f__law_unlike'1 p.1 p.2.1 p.2.2.1 p.2.2.2))
theorem ok__law_unlike'1 {P : Program} {w : World} {K : PySem.W.Frag} {mg : Str → Option Value} {base : Heap} {cm ad : Nat → Addr} {fdn : Nat → FuncData} (T : Txt K mg cm ad fdn) (g__law_refused'1 : G__law_refused'1 P w K mg base cm ad fdn) (g__law_refused_by_any'1 : G__law_refused_by_any'1 P w K mg base cm ad fdn) : G__law_unlike'1 P w K mg base cm ad fdn := by
  unfold G__law_refused'1 at g__law_refused'1
  unfold G__law_refused_by_any'1 at g__law_refused_by_any'1
  refine def_go T.F__law_unlike sc__law_unlike (ent_cons (ent_cons (ent_cons ent_one))) (fun _ => rfl) (fun cdv A outer s H E hr => ⟨_, (pss_cons (ps_set (i := 4) sc__law_unlike.nd rfl (by first | exact .inl rfl | exact .inr rfl) (pe_tup (pa_cons pe_int (pa_cons (pe_ix (ix_tupK (K := K) rfl) (pv 2) pe_int (fun _ _ => rfl)) (pa_cons (pe_tup (pa_cons pe_int pa_nil)) (pa_cons (pe_op (op_repBK (K := K) rfl) (pe_tup (pa_cons (pe_tup (pa_cons (pe_tup (pa_cons pe_int pa_nil)) pa_nil)) pa_nil)) (pe_ix (ix_tupK (K := K) rfl) (pv 2) pe_int (fun _ _ => rfl))) (pa_cons (pe_tup (pa_cons pe_int pa_nil)) pa_nil))))))) (pss_cons (ps_if (pt_cmpR op_eq (pe_ix (ix_tupK (K := K) rfl) (pv 1) pe_int (fun _ _ => rfl)) pe_int (nomark _)) (pss_cons (ps_set (i := 4) sc__law_unlike.nd rfl (by first | exact .inl rfl | exact .inr rfl) (pe_tup (pa_cons pe_int (pa_cons (pe_ix (ix_tupK (K := K) rfl) (pv 2) pe_int (fun _ _ => rfl)) (pa_cons (pe_tup (pa_cons pe_int pa_nil)) (pa_cons (pe_op (op_repBK (K := K) rfl) (pe_tup (pa_cons (pe_tup (pa_cons (pe_tup (pa_cons pe_int pa_nil)) pa_nil)) pa_nil)) (pe_ix (ix_tupK (K := K) rfl) (pv 2) pe_int (fun _ _ => rfl))) (pa_cons (pe_tup (pa_cons pe_int pa_nil)) pa_nil))))))) pss_nil) pss_nil) (pss_cons (ps_if (pt_cmpR op_eq (pe_op op_mod (pv 3) pe_int) pe_int (nomark _)) (pss_cons (ps_set (i := 6) sc__law_unlike.nd rfl (by first | exact .inl rfl | exact .inr rfl) (pe_callTy (tuple_K (K := K) rfl) (by rfl) T.z_tuple PyProof.Rows.boot_tuple (pa_cons (pe_lc (own := [("k", 5)]) rfl sc__law_unlike.nd (pi_range1 (by rfl) T.z_range (pa_cons (pe_callB (len_K (K := K) rfl) (by rfl) T.z_len PySem.boot_len (pa_cons (pe_ix (ix_tupK (K := K) rfl) (pv 2) pe_int (fun _ _ => rfl)) pa_nil)) pa_nil)) (blkOk_by (N := ["deed", "one", "two", "cell", "beside", "k", "blank_table", "letters"]) (sc := defScope s__law_unlike) (by decide +kernel)) (fun _ _ _ _ _ => (pg_name (i := 5) sc__law_unlike.nd rfl (by first | exact .inl rfl | exact .inr rfl))) (fun _ _ _ _ _ => pts_nil) (fun _ _ _ _ _ => (pe_op (op_repBK (K := K) rfl) (pe_tup (pa_cons pe_int pa_nil)) (pe_callB (len_K (K := K) rfl) (by rfl) T.z_len PySem.boot_len (pa_cons (pe_ix (ix_tupK (K := K) rfl) (pv 2) pe_int (fun _ _ => rfl)) pa_nil))))) pa_nil))) (pss_cons (ps_set (i := 7) sc__law_unlike.nd rfl (by first | exact .inl rfl | exact .inr rfl) (pe_op op_add (pe_op op_mod (pe_ix (ix_tupK (K := K) rfl) (pv 2) pe_int (fun _ _ => rfl)) pe_int) pe_int)) (pss_cons (ps_set (i := 4) sc__law_unlike.nd rfl (by first | exact .inl rfl | exact .inr rfl) (pe_tup (pa_cons (pe_ix (ix_tupK (K := K) rfl) (pv 2) pe_int (fun _ _ => rfl)) (pa_cons (pv 7) (pa_cons (pe_ix (ix_tupK (K := K) rfl) (pv 2) pe_int (fun _ _ => rfl)) (pa_cons (pe_op (op_repBK (K := K) rfl) (pe_tup (pa_cons (pv 6) pa_nil)) (pv 7)) (pa_cons (pe_ix (ix_tupK (K := K) rfl) (pv 2) pe_int (fun _ _ => rfl)) pa_nil))))))) pss_nil))) pss_nil) (pss_cons (ps_ret (pe_and (pe_callS g__law_refused'1 (hr.mono (by decide)) (by rfl) T.g__law_refused T.F__law_refused.kp T.b__law_refused (fun σ => passAt tk_of σ) (pa_cons (pv 0) (pa_cons (pv 1) (pa_cons (pv 4) pa_nil)))) (pe_one (pe_callS g__law_refused_by_any'1 (hr.mono (by decide)) (by rfl) T.g__law_refused_by_any T.F__law_refused_by_any.kp T.b__law_refused_by_any (fun σ => passAt tk_of σ) (pa_cons (pv 0) (pa_cons (pv 4) (pa_cons (pv 1) pa_nil))))))) pss_nil)))), ?_⟩)
  suffices hb : ∀ (deed : Unit) (one : (Int × Int × (List Int) × (List (List (List Int))) × (List Int))) (two : (Int × Int × (List Int) × (List (List (List Int))) × (List Int))) (cell : Int), Blk cm (fun cls d _ H => E cls d H) _ [.fz (RFn (ad 20)) deed, .fz (RTu (HC RI (HC RI (HC (RT RI) (HC (RT (RT (RT RI))) (Gd.H1 (RT RI))))))) one, .fz (RTu (HC RI (HC RI (HC (RT RI) (HC (RT (RT (RT RI))) (Gd.H1 (RT RI))))))) two, .fz RI cell, .un, .un, .un, .un] (f__law_unlike'1 deed one two cell) (CR RB) from fun p => hb p.1 p.2.1 p.2.2.1 p.2.2.2
  intro deed one two cell
  rw [f__law_unlike'1_eq]
  unfold m__law_unlike'1
  exact (b_asg (i := 4) (ev_tup (hl5_le) (ea_cons ev_int (ea_cons (ev_ixc (i := 1) (hsnd (hfst (hfst (hfst hlast)))) rfl (ev_var (i := 2) rfl)) (ea_cons (ev_tupL (ea_consL ev_int ea_nilL) (le1000 (cs_len nil_len) (by decide))) (ea_cons (ev_b2 oe_repT0 (ev_tupL (ea_consL (ev_tupL (ea_consL (ev_tupL (ea_consL ev_int ea_nilL) (le1000 (cs_len nil_len) (by decide))) ea_nilL) (le1000 (cs_len nil_len) (by decide))) ea_nilL) (le1000 (cs_len nil_len) (by decide))) (ev_ixc (i := 1) (hsnd (hfst (hfst (hfst hlast)))) rfl (ev_var (i := 2) rfl))) (ea_one (ev_tupL (ea_consL ev_int ea_nilL) (le1000 (cs_len nil_len) (by decide))))))))) fun beside => (b_if (S := ((Int × Int × (List Int) × (List (List (List Int))) × (List Int)))) (Post := fun s => [.fz (RFn (ad 20)) deed, .fz (RTu (HC RI (HC RI (HC (RT RI) (HC (RT (RT (RT RI))) (Gd.H1 (RT RI))))))) one, .fz (RTu (HC RI (HC RI (HC (RT RI) (HC (RT (RT (RT RI))) (Gd.H1 (RT RI))))))) two, .fz RI cell, .fz (RTu (HC RI (HC RI (HC (RT RI) (HC (RT (RT (RT RI))) (Gd.H1 (RT RI))))))) s, .un, .un, .un]) (et_cmp (ev_b2 oe_eqI (ev_ixc (i := 0) (hfst (hfst (hfst (hfst hlast)))) rfl (ev_var (i := 1) rfl)) ev_int)) (b_asg (i := 4) (ev_tup (hl5_le) (ea_cons ev_int (ea_cons (ev_ixc (i := 1) (hsnd (hfst (hfst (hfst hlast)))) rfl (ev_var (i := 2) rfl)) (ea_cons (ev_tupL (ea_consL ev_int ea_nilL) (le1000 (cs_len nil_len) (by decide))) (ea_cons (ev_b2 oe_repT0 (ev_tupL (ea_consL (ev_tupL (ea_consL (ev_tupL (ea_consL ev_int ea_nilL) (le1000 (cs_len nil_len) (by decide))) ea_nilL) (le1000 (cs_len nil_len) (by decide))) ea_nilL) (le1000 (cs_len nil_len) (by decide))) (ev_ixc (i := 1) (hsnd (hfst (hfst (hfst hlast)))) rfl (ev_var (i := 2) rfl))) (ea_one (ev_tupL (ea_consL ev_int ea_nilL) (le1000 (cs_len nil_len) (by decide))))))))) fun beside1 => (b_nil (.k (.k (.k (.k (.k (.u (.u (.u .nil)))))))))) (b_nil (.k (.k (.k (.k (.k (.u (.u (.u .nil))))))))) fun s => (b_if (S := ((Int × Int × (List Int) × (List (List (List Int))) × (List Int)))) (Post := fun s1 => [.fz (RFn (ad 20)) deed, .fz (RTu (HC RI (HC RI (HC (RT RI) (HC (RT (RT (RT RI))) (Gd.H1 (RT RI))))))) one, .fz (RTu (HC RI (HC RI (HC (RT RI) (HC (RT (RT (RT RI))) (Gd.H1 (RT RI))))))) two, .fz RI cell, .fz (RTu (HC RI (HC RI (HC (RT RI) (HC (RT (RT (RT RI))) (Gd.H1 (RT RI))))))) s1, .un, .un, .un]) (et_cmp (ev_b2 oe_eqI (ev_modc (by decide) (ev_var (i := 3) rfl)) ev_int)) (b_asg (i := 6) (ev_tupl (el_fz (evn_fz (en_map (wi_rng1 (ea_one (ev_lent (ev_ixc (i := 2) (hsnd (hsnd (hfst (hfst hlast)))) rfl (ev_var (i := 2) rfl))))) (eg_name 5) (by decide) fun x => (ev_b2 oe_repT0 (ev_tupL (ea_consL ev_int ea_nilL) (le1000 (cs_len nil_len) (by decide))) (ev_lent (ev_ixc (i := 2) (hsnd (hsnd (hfst (hfst hlast)))) rfl (ev_var (i := 2) rfl)))))))) fun blank_table => (b_asg (i := 7) (ev_b2 oe_add (ev_modc (by decide) (ev_ixc (i := 1) (hsnd (hfst (hfst (hfst hlast)))) rfl (ev_var (i := 2) rfl))) ev_int) fun letters => (b_asg (i := 4) (ev_tup (hl5_le) (ea_cons (ev_ixc (i := 0) (hfst (hfst (hfst (hfst hlast)))) rfl (ev_var (i := 2) rfl)) (ea_cons (ev_var (i := 7) rfl) (ea_cons (ev_ixc (i := 2) (hsnd (hsnd (hfst (hfst hlast)))) rfl (ev_var (i := 2) rfl)) (ea_cons (ev_b2 oe_repT0 (ev_tupL (ea_consL (ev_var (i := 6) rfl) ea_nilL) (le1000 (cs_len nil_len) (by decide))) (ev_var (i := 7) rfl)) (ea_one (ev_ixc (i := 4) (hsnd (hsnd (hsnd (hsnd hlast)))) rfl (ev_var (i := 2) rfl)))))))) fun beside2 => (b_nil (.k (.k (.k (.k (.k (.u (.u (.u .nil)))))))))))) (b_nil (.k (.k (.k (.k (.k (.u (.u (.u .nil))))))))) fun s1 => (b_ret (ev_andV (ev_call (ea_cons (ev_var (i := 0) rfl) (ea_cons (ev_var (i := 1) rfl) (ea_one (ev_var (i := 4) rfl))))) (ev_call (ea_cons (ev_var (i := 0) rfl) (ea_cons (ev_var (i := 4) rfl) (ea_one (ev_var (i := 1) rfl))))))))))
/-! ### law -/
abbrev s_law : Stmt := topS 48
theorem sc_law : FnScope ["script", "p", "letters", "many", "one", "at", "two", "cell"] ["script"] (defScope s_law) := ⟨rfl, rfl, rfl, by decide +kernel, rfl, by decide +kernel, by decide +kernel⟩
noncomputable def m_law (script : (List Int)) : Rs Bool :=
  ((((Rs.pr (Rs.ok script) (Rs.ok (0 : Int))).bind (fun p => f__law_cell p.1 p.2)).bind (fun p => f__law_prime p)).bind fun p =>
  ((Rs.b2 (Rs.b2 (Rs.ok (1 : Int)) (((Rs.pr (Rs.ok script) (Rs.ok (1 : Int))).bind (fun p => f__law_cell p.1 p.2)).bind fun x => .ok (x % 3)) fun x y => .ok (x + y)) ((((((Rs.pr (Rs.ok script) (Rs.ok (1 : Int))).bind (fun p => f__law_cell p.1 p.2)).bind fun x => .ok (x / 3)).bind fun x => .ok (x % 4)).bind fun x => .ok (x / 3)).bind fun x => .ok (x * 3)) fun x y => .ok (x + y)).bind fun letters =>
  ((Rs.b2 ((Rs.pr (Rs.ok script) (Rs.ok (2 : Int))).bind (fun p => f__law_cell p.1 p.2)) (Rs.b2 (Rs.ok (4 : Int)) ((Rs.ok letters).bind fun x => .ok (x / 4)) fun x y => .ok (x - y)) modR).bind fun many =>
  (((Rs.pr (Rs.ok script) (Rs.pr (Rs.ok (5 : Int)) (Rs.pr (Rs.ok p) (Rs.pr (Rs.ok letters) (Rs.ok many))))).bind (fun p => f__law_house p.1 p.2.1 p.2.2.1 p.2.2.2.1 p.2.2.2.2)).bind fun one =>
  ((Rs.b2 (Rs.b2 (Rs.ok (5 : Int)) ((Rs.ok many).bind fun x => .ok (2 * x)) fun x y => .ok (x + y)) (Rs.b2 (Rs.b2 (Rs.ok letters) (Rs.ok many) mulR) (Rs.ok many) mulR) fun x y => .ok (x + y)).bind fun at_ =>
  (((Rs.pr (Rs.ok script) (Rs.pr (Rs.ok at_) (Rs.pr (Rs.ok p) (Rs.pr (Rs.ok letters) (Rs.b2 ((Rs.pr (Rs.ok script) (Rs.ok (3 : Int))).bind (fun p => f__law_cell p.1 p.2)) (Rs.b2 (Rs.ok (4 : Int)) ((Rs.ok letters).bind fun x => .ok (x / 4)) fun x y => .ok (x - y)) modR))))).bind (fun p => f__law_house p.1 p.2.1 p.2.2.1 p.2.2.2.1 p.2.2.2.2)).bind fun two =>
  ((Rs.nt ((Rs.pr ((Rs.pr (Rs.ok one) (Rs.ok two)).bind (fun p => f_sums_less p.1 p.2)) ((Rs.pr (Rs.ok one) (Rs.ok two)).bind (fun p => f__law_less p.1 p.2))).bind (fun p => f__law_house_is p.1 p.2))).bind fun b => if b = true then (Rs.ok false) else
  ((Rs.nt ((Rs.pr ((Rs.pr (Rs.ok one) (Rs.ok two)).bind (fun p => f_sums_times p.1 p.2)) ((Rs.pr (Rs.ok one) (Rs.ok two)).bind (fun p => f__law_times_of p.1 p.2))).bind (fun p => f__law_house_is p.1 p.2))).bind fun b => if b = true then (Rs.ok false) else
  ((Rs.or (Rs.nt ((Rs.pr ((Rs.ok one).bind (fun p => f_sums_back p)) ((Rs.ok one).bind (fun p => f__law_back p))).bind (fun p => f__law_house_is p.1 p.2))) (Rs.nt ((Rs.pr (((Rs.ok two).bind (fun p => f_sums_back p)).bind (fun p => f_sums_back p)) (Rs.ok two)).bind (fun p => f__law_house_is p.1 p.2)))).bind fun b => if b = true then (Rs.ok false) else
  ((Rs.nt ((Rs.pr (Rs.ok one) (Rs.pr (Rs.ok two) ((Rs.pr (Rs.ok script) (Rs.pr (Rs.ok letters) (Rs.ok (30 : Int)))).bind (fun p => f__law_word p.1 p.2.1 p.2.2)))).bind (fun p => f__law_values p.1 p.2.1 p.2.2))).bind fun b => if b = true then (Rs.ok false) else
  (((Rs.pr (Rs.ok script) (Rs.ok (4 : Int))).bind (fun p => f__law_cell p.1 p.2)).bind fun cell =>
  ((Rs.or (Rs.nt ((Rs.pr (Rs.ok ()) (Rs.pr (Rs.ok one) (Rs.pr (Rs.ok two) (Rs.ok cell)))).bind (fun p => f__law_unlike p.1 p.2.1 p.2.2.1 p.2.2.2))) (Rs.nt ((Rs.pr (Rs.ok ()) (Rs.pr (Rs.ok one) (Rs.pr (Rs.ok two) ((Rs.ok cell).bind fun x => .ok (x / 2))))).bind (fun p => f__law_unlike'1 p.1 p.2.1 p.2.2.1 p.2.2.2)))).bind fun b => if b = true then (Rs.ok false) else
  ((Rs.pr (Rs.ok p) ((Rs.ok cell).bind fun x => .ok (x / 4))).bind (fun p => f__law_edges p.1 p.2))))))))))))))
noncomputable def f_law (script : (List Int)) : Rs Bool := Rs.cl (m_law script)
theorem f_law_eq (script : (List Int)) : f_law script = m_law script := Rs.cl_eq _
def G_law (P : Program) (w : World) (K : PySem.W.Frag) (mg : Str → Option Value) (base : Heap) (cm ad : Nat → Addr) (fdn : Nat → FuncData) : Prop := FnOk P w K mg base (L2.CX P w) 6 (ad 48) (fdn 48) ["script"] (spT cm (Gd.H1 (RSc K)) RB (fun (p : ((List Int))) => f_law p))
theorem ok_law {P : Program} {w : World} {K : PySem.W.Frag} {mg : Str → Option Value} {base : Heap} {cm ad : Nat → Addr} {fdn : Nat → FuncData} (T : Txt K mg cm ad fdn) (g__law_back : G__law_back P w K mg base cm ad fdn) (g__law_cell : G__law_cell P w K mg base cm ad fdn) (g__law_edges : G__law_edges P w K mg base cm ad fdn) (g__law_house : G__law_house P w K mg base cm ad fdn) (g__law_house_is : G__law_house_is P w K mg base cm ad fdn) (g__law_less : G__law_less P w K mg base cm ad fdn) (g__law_prime : G__law_prime P w K mg base cm ad fdn) (g__law_times_of : G__law_times_of P w K mg base cm ad fdn) (g__law_unlike : G__law_unlike P w K mg base cm ad fdn) (g__law_unlike'1 : G__law_unlike'1 P w K mg base cm ad fdn) (g__law_values : G__law_values P w K mg base cm ad fdn) (g__law_word : G__law_word P w K mg base cm ad fdn) (g_sums_back : G_sums_back P w K mg base cm ad fdn) (g_sums_less : G_sums_less P w K mg base cm ad fdn) (g_sums_times : G_sums_times P w K mg base cm ad fdn) : G_law P w K mg base cm ad fdn := by
  unfold G__law_back at g__law_back
  unfold G__law_cell at g__law_cell
  unfold G__law_edges at g__law_edges
  unfold G__law_house at g__law_house
  unfold G__law_house_is at g__law_house_is
  unfold G__law_less at g__law_less
  unfold G__law_prime at g__law_prime
  unfold G__law_times_of at g__law_times_of
  unfold G__law_unlike at g__law_unlike
  unfold G__law_unlike'1 at g__law_unlike'1
  unfold G__law_values at g__law_values
  unfold G__law_word at g__law_word
  unfold G_sums_back at g_sums_back
  unfold G_sums_less at g_sums_less
  unfold G_sums_times at g_sums_times
  refine def_go T.F_law sc_law ent_one (fun _ => rfl) (fun cdv A outer s H E hr => ⟨_, (pss_cons (ps_set (i := 1) sc_law.nd rfl (by first | exact .inl rfl | exact .inr rfl) (pe_callS g__law_prime (hr.mono (by decide)) (by rfl) T.g__law_prime T.F__law_prime.kp T.b__law_prime (fun σ => passAt tk_of σ) (pa_cons (pe_callS g__law_cell (hr.mono (by decide)) (by rfl) T.g__law_cell T.F__law_cell.kp T.b__law_cell (fun σ => passAt tk_of σ) (pa_cons (pv 0) (pa_cons pe_int pa_nil))) pa_nil))) (pss_cons (ps_set (i := 2) sc_law.nd rfl (by first | exact .inl rfl | exact .inr rfl) (pe_op op_add (pe_op op_add pe_int (pe_op op_mod (pe_callS g__law_cell (hr.mono (by decide)) (by rfl) T.g__law_cell T.F__law_cell.kp T.b__law_cell (fun σ => passAt tk_of σ) (pa_cons (pv 0) (pa_cons pe_int pa_nil))) pe_int)) (pe_op op_mul (pe_op op_fdivW (pe_op op_mod (pe_op op_fdivW (pe_callS g__law_cell (hr.mono (by decide)) (by rfl) T.g__law_cell T.F__law_cell.kp T.b__law_cell (fun σ => passAt tk_of σ) (pa_cons (pv 0) (pa_cons pe_int pa_nil))) pe_int) pe_int) pe_int) pe_int))) (pss_cons (ps_set (i := 3) sc_law.nd rfl (by first | exact .inl rfl | exact .inr rfl) (pe_op op_mod (pe_callS g__law_cell (hr.mono (by decide)) (by rfl) T.g__law_cell T.F__law_cell.kp T.b__law_cell (fun σ => passAt tk_of σ) (pa_cons (pv 0) (pa_cons pe_int pa_nil))) (pe_op op_sub pe_int (pe_op op_fdivW (pv 2) pe_int)))) (pss_cons (ps_set (i := 4) sc_law.nd rfl (by first | exact .inl rfl | exact .inr rfl) (pe_callS g__law_house (hr.mono (by decide)) (by rfl) T.g__law_house T.F__law_house.kp T.b__law_house (fun σ => passAt tk_of σ) (pa_cons (pv 0) (pa_cons pe_int (pa_cons (pv 1) (pa_cons (pv 2) (pa_cons (pv 3) pa_nil))))))) (pss_cons (ps_set (i := 5) sc_law.nd rfl (by first | exact .inl rfl | exact .inr rfl) (pe_op op_add (pe_op op_add pe_int (pe_op op_mul pe_int (pv 3))) (pe_op op_mul (pe_op op_mul (pv 2) (pv 3)) (pv 3)))) (pss_cons (ps_set (i := 6) sc_law.nd rfl (by first | exact .inl rfl | exact .inr rfl) (pe_callS g__law_house (hr.mono (by decide)) (by rfl) T.g__law_house T.F__law_house.kp T.b__law_house (fun σ => passAt tk_of σ) (pa_cons (pv 0) (pa_cons (pv 5) (pa_cons (pv 1) (pa_cons (pv 2) (pa_cons (pe_op op_mod (pe_callS g__law_cell (hr.mono (by decide)) (by rfl) T.g__law_cell T.F__law_cell.kp T.b__law_cell (fun σ => passAt tk_of σ) (pa_cons (pv 0) (pa_cons pe_int pa_nil))) (pe_op op_sub pe_int (pe_op op_fdivW (pv 2) pe_int))) pa_nil))))))) (pss_cons (ps_if (pt_not (pt_val (pe_callS g__law_house_is (hr.mono (by decide)) (by rfl) T.g__law_house_is T.F__law_house_is.kp T.b__law_house_is (fun σ => passAt tk_of σ) (pa_cons (pe_callS g_sums_less (hr.mono (by decide)) (by rfl) T.g_sums_less T.F_sums_less.kp T.b_sums_less (fun σ => passAt tk_of σ) (pa_cons (pv 4) (pa_cons (pv 6) pa_nil))) (pa_cons (pe_callS g__law_less (hr.mono (by decide)) (by rfl) T.g__law_less T.F__law_less.kp T.b__law_less (fun σ => passAt tk_of σ) (pa_cons (pv 4) (pa_cons (pv 6) pa_nil))) pa_nil))))) (pss_cons (ps_ret pe_bl) pss_nil) pss_nil) (pss_cons (ps_if (pt_not (pt_val (pe_callS g__law_house_is (hr.mono (by decide)) (by rfl) T.g__law_house_is T.F__law_house_is.kp T.b__law_house_is (fun σ => passAt tk_of σ) (pa_cons (pe_callS g_sums_times (hr.mono (by decide)) (by rfl) T.g_sums_times T.F_sums_times.kp T.b_sums_times (fun σ => passAt tk_of σ) (pa_cons (pv 4) (pa_cons (pv 6) pa_nil))) (pa_cons (pe_callS g__law_times_of (hr.mono (by decide)) (by rfl) T.g__law_times_of T.F__law_times_of.kp T.b__law_times_of (fun σ => passAt tk_of σ) (pa_cons (pv 4) (pa_cons (pv 6) pa_nil))) pa_nil))))) (pss_cons (ps_ret pe_bl) pss_nil) pss_nil) (pss_cons (ps_if (PW.pt (pw_or (pt_not (pt_val (pe_callS g__law_house_is (hr.mono (by decide)) (by rfl) T.g__law_house_is T.F__law_house_is.kp T.b__law_house_is (fun σ => passAt tk_of σ) (pa_cons (pe_callS g_sums_back (hr.mono (by decide)) (by rfl) T.g_sums_back T.F_sums_back.kp T.b_sums_back (fun σ => passAt tk_of σ) (pa_cons (pv 4) pa_nil)) (pa_cons (pe_callS g__law_back (hr.mono (by decide)) (by rfl) T.g__law_back T.F__law_back.kp T.b__law_back (fun σ => passAt tk_of σ) (pa_cons (pv 4) pa_nil)) pa_nil))))) (pw_or1 (pt_not (pt_val (pe_callS g__law_house_is (hr.mono (by decide)) (by rfl) T.g__law_house_is T.F__law_house_is.kp T.b__law_house_is (fun σ => passAt tk_of σ) (pa_cons (pe_callS g_sums_back (hr.mono (by decide)) (by rfl) T.g_sums_back T.F_sums_back.kp T.b_sums_back (fun σ => passAt tk_of σ) (pa_cons (pe_callS g_sums_back (hr.mono (by decide)) (by rfl) T.g_sums_back T.F_sums_back.kp T.b_sums_back (fun σ => passAt tk_of σ) (pa_cons (pv 6) pa_nil)) pa_nil)) (pa_cons (pv 6) pa_nil)))))))) (pss_cons (ps_ret pe_bl) pss_nil) pss_nil) (pss_cons (ps_if (pt_not (pt_val (pe_callS g__law_values (hr.mono (by decide)) (by rfl) T.g__law_values T.F__law_values.kp T.b__law_values (fun σ => passAt tk_of σ) (pa_cons (pv 4) (pa_cons (pv 6) (pa_cons (pe_callS g__law_word (hr.mono (by decide)) (by rfl) T.g__law_word T.F__law_word.kp T.b__law_word (fun σ => passAt tk_of σ) (pa_cons (pv 0) (pa_cons (pv 2) (pa_cons pe_int pa_nil)))) pa_nil)))))) (pss_cons (ps_ret pe_bl) pss_nil) pss_nil) (pss_cons (ps_set (i := 7) sc_law.nd rfl (by first | exact .inl rfl | exact .inr rfl) (pe_callS g__law_cell (hr.mono (by decide)) (by rfl) T.g__law_cell T.F__law_cell.kp T.b__law_cell (fun σ => passAt tk_of σ) (pa_cons (pv 0) (pa_cons pe_int pa_nil)))) (pss_cons (ps_if (PW.pt (pw_or (pt_not (pt_val (pe_callS g__law_unlike (hr.mono (by decide)) (by rfl) T.g__law_unlike T.F__law_unlike.kp T.b__law_unlike (fun σ => passAt tk_of σ) (pa_cons (pe_glob (by rfl) T.g_sums_less (v := .ref (ad 18)) rfl) (pa_cons (pv 4) (pa_cons (pv 6) (pa_cons (pv 7) pa_nil))))))) (pw_or1 (pt_not (pt_val (pe_callS g__law_unlike'1 (hr.mono (by decide)) (by rfl) T.g__law_unlike T.F__law_unlike.kp T.b__law_unlike (fun σ => passAt tk_of σ) (pa_cons (pe_glob (by rfl) T.g_sums_times (v := .ref (ad 20)) rfl) (pa_cons (pv 4) (pa_cons (pv 6) (pa_cons (pe_op op_fdivW (pv 7) pe_int) pa_nil)))))))))) (pss_cons (ps_ret pe_bl) pss_nil) pss_nil) (pss_cons (ps_ret (pe_callS g__law_edges (hr.mono (by decide)) (by rfl) T.g__law_edges T.F__law_edges.kp T.b__law_edges (fun σ => passAt tk_of σ) (pa_cons (pv 1) (pa_cons (pe_op op_fdivW (pv 7) pe_int) pa_nil)))) pss_nil))))))))))))), ?_⟩)
  suffices hb : ∀ (script : (List Int)), Blk cm (fun cls d _ H => E cls d H) _ [.fz (RSc K) script, .un, .un, .un, .un, .un, .un, .un] (f_law script) (CR RB) from fun p => hb p
  intro script
  rw [f_law_eq]
  unfold m_law
  exact (b_asg (i := 1) (ev_call (ea_one (ev_call (ea_cons (ev_var (i := 0) rfl) (ea_one ev_int))))) fun p => (b_asg (i := 2) (ev_b2 oe_add (ev_b2 oe_add ev_int (ev_modc (by decide) (ev_call (ea_cons (ev_var (i := 0) rfl) (ea_one ev_int))))) (ev_mulc (by decide) (ev_divc (by decide) (ev_modc (by decide) (ev_divc (by decide) (ev_call (ea_cons (ev_var (i := 0) rfl) (ea_one ev_int)))))))) fun letters => (b_asg (i := 3) (ev_b2 oe_mod (ev_call (ea_cons (ev_var (i := 0) rfl) (ea_one ev_int))) (ev_b2 oe_sub ev_int (ev_divc (by decide) (ev_var (i := 2) rfl)))) fun many => (b_asg (i := 4) (ev_call (ea_cons (ev_var (i := 0) rfl) (ea_cons ev_int (ea_cons (ev_var (i := 1) rfl) (ea_cons (ev_var (i := 2) rfl) (ea_one (ev_var (i := 3) rfl))))))) fun one => (b_asg (i := 5) (ev_b2 oe_add (ev_b2 oe_add ev_int (ev_cmul (by decide) (ev_var (i := 3) rfl))) (ev_b2 oe_mul (ev_b2 oe_mul (ev_var (i := 2) rfl) (ev_var (i := 3) rfl)) (ev_var (i := 3) rfl))) fun at_ => (b_asg (i := 6) (ev_call (ea_cons (ev_var (i := 0) rfl) (ea_cons (ev_var (i := 5) rfl) (ea_cons (ev_var (i := 1) rfl) (ea_cons (ev_var (i := 2) rfl) (ea_one (ev_b2 oe_mod (ev_call (ea_cons (ev_var (i := 0) rfl) (ea_one ev_int))) (ev_b2 oe_sub ev_int (ev_divc (by decide) (ev_var (i := 2) rfl)))))))))) fun two => (b_ifR (et_not (et_val (ev_call (ea_cons (ev_call (ea_cons (ev_var (i := 4) rfl) (ea_one (ev_var (i := 6) rfl)))) (ea_one (ev_call (ea_cons (ev_var (i := 4) rfl) (ea_one (ev_var (i := 6) rfl))))))))) (b_ret ev_bl) (b_ifR (et_not (et_val (ev_call (ea_cons (ev_call (ea_cons (ev_var (i := 4) rfl) (ea_one (ev_var (i := 6) rfl)))) (ea_one (ev_call (ea_cons (ev_var (i := 4) rfl) (ea_one (ev_var (i := 6) rfl))))))))) (b_ret ev_bl) (b_ifR (et_or (et_not (et_val (ev_call (ea_cons (ev_call (ea_one (ev_var (i := 4) rfl))) (ea_one (ev_call (ea_one (ev_var (i := 4) rfl)))))))) (et_not (et_val (ev_call (ea_cons (ev_call (ea_one (ev_call (ea_one (ev_var (i := 6) rfl))))) (ea_one (ev_var (i := 6) rfl))))))) (b_ret ev_bl) (b_ifR (et_not (et_val (ev_call (ea_cons (ev_var (i := 4) rfl) (ea_cons (ev_var (i := 6) rfl) (ea_one (ev_call (ea_cons (ev_var (i := 0) rfl) (ea_cons (ev_var (i := 2) rfl) (ea_one ev_int)))))))))) (b_ret ev_bl) (b_asg (i := 7) (ev_call (ea_cons (ev_var (i := 0) rfl) (ea_one ev_int))) fun cell => (b_ifR (et_or (et_not (et_val (ev_call (ea_cons (ev_fn (f := ad 18)) (ea_cons (ev_var (i := 4) rfl) (ea_cons (ev_var (i := 6) rfl) (ea_one (ev_var (i := 7) rfl)))))))) (et_not (et_val (ev_call (ea_cons (ev_fn (f := ad 20)) (ea_cons (ev_var (i := 4) rfl) (ea_cons (ev_var (i := 6) rfl) (ea_one (ev_divc (by decide) (ev_var (i := 7) rfl)))))))))) (b_ret ev_bl) (b_ret (ev_call (ea_cons (ev_var (i := 1) rfl) (ea_one (ev_divc (by decide) (ev_var (i := 7) rfl))))))))))))))))))
end Gd

namespace Gd
open PySem
/-! ### finite sums -/
def Sg (n : Int) (f : Int → Int) : Int := ((rng 0 n).map f).sum
def vec (n : Int) (f : Int → Int) : List Int := (rng 0 n).map f
theorem Sg_0 {n : Int} {f : Int → Int} (h : n ≤ 0) : Sg n f = 0 := by
  unfold Sg
  rw [rng_nil h]
  rfl
theorem Sg_s {n : Int} {f : Int → Int} (h : 0 ≤ n) : Sg (n + 1) f = Sg n f + f n := by
  unfold Sg
  rw [rng_snoc h, List.map_append, List.sum_append]
  simp
/-- by the count -/
theorem Sg_ind {P : Int → Prop} (h0 : P 0) (hs : ∀ n, 0 ≤ n → P n → P (n + 1)) : ∀ {n : Int}, 0 ≤ n → P n := by
  intro n hn
  have : ∀ k : Nat, P (k : Int) := by
    intro k
    induction k with
    | zero => exact h0
    | succ k ih => exact hs _ (by omega) ih
  have e := this n.toNat
  rwa [Int.toNat_of_nonneg hn] at e
theorem Sg_zero {n : Int} (hn : 0 ≤ n) : Sg n (fun _ => 0) = 0 := Sg_ind (P := fun n => Sg n (fun _ => 0) = 0) (Sg_0 (Int.le_refl 0)) (fun k hk ih => by rw [Sg_s hk, ih]; rfl) hn
theorem Sg_congr {n : Int} {f g : Int → Int} (h : ∀ i, 0 ≤ i → i < n → f i = g i) : Sg n f = Sg n g := by
  unfold Sg
  congr 1
  apply List.map_congr_left
  intro a ha
  obtain ⟨q0, q1⟩ := mem_rng.mp ha
  exact h a q0 q1
theorem vec_congr {n : Int} {f g : Int → Int} (h : ∀ i, 0 ≤ i → i < n → f i = g i) : vec n f = vec n g := by
  unfold vec
  apply List.map_congr_left
  intro a ha
  obtain ⟨q0, q1⟩ := mem_rng.mp ha
  exact h a q0 q1
theorem Sg_add {n : Int} {f g : Int → Int} (hn : 0 ≤ n) : Sg n (fun i => f i + g i) = Sg n f + Sg n g := by
  refine Sg_ind (P := fun n => Sg n (fun i => f i + g i) = Sg n f + Sg n g) (by rw [Sg_0 (Int.le_refl 0), Sg_0 (Int.le_refl 0), Sg_0 (Int.le_refl 0)]; rfl) (fun k hk ih => ?_) hn
  rw [Sg_s hk, Sg_s hk, Sg_s hk, ih]
  omega
theorem Sg_mul {n c : Int} {f : Int → Int} (hn : 0 ≤ n) : Sg n (fun i => c * f i) = c * Sg n f := by
  refine Sg_ind (P := fun n => Sg n (fun i => c * f i) = c * Sg n f) (by rw [Sg_0 (Int.le_refl 0), Sg_0 (Int.le_refl 0), Int.mul_zero]) (fun k hk ih => ?_) hn
  rw [Sg_s hk, Sg_s hk, ih, Int.mul_add]
theorem Sg_mulr {n c : Int} {f : Int → Int} (hn : 0 ≤ n) : Sg n (fun i => f i * c) = Sg n f * c := by
  rw [Int.mul_comm, ← Sg_mul hn]
  exact Sg_congr fun i _ _ => Int.mul_comm _ _
theorem Sg_mod {n p : Int} {f g : Int → Int} (hn : 0 ≤ n) (h : ∀ i, 0 ≤ i → i < n → f i % p = g i % p) : Sg n f % p = Sg n g % p := by
  have : (∀ i, 0 ≤ i → i < n → f i % p = g i % p) → Sg n f % p = Sg n g % p := by
    refine Sg_ind (P := fun n => (∀ i, 0 ≤ i → i < n → f i % p = g i % p) → Sg n f % p = Sg n g % p) (fun _ => by rw [Sg_0 (Int.le_refl 0), Sg_0 (Int.le_refl 0)]) (fun k hk ih h => ?_) hn
    rw [Sg_s hk, Sg_s hk, Int.add_emod, ih fun i a b => h i a (by omega), h k hk (by omega), ← Int.add_emod]
  exact this h
theorem Sg_swap {n m : Int} {f : Int → Int → Int} (hn : 0 ≤ n) (hm : 0 ≤ m) : Sg n (fun i => Sg m (fun j => f i j)) = Sg m (fun j => Sg n (fun i => f i j)) := by
  refine Sg_ind (P := fun n => Sg n (fun i => Sg m (fun j => f i j)) = Sg m (fun j => Sg n (fun i => f i j))) ?_ (fun k hk ih => ?_) hn
  · rw [Sg_0 (Int.le_refl 0), ← Sg_congr (f := fun _ => 0) fun j _ _ => (Sg_0 (Int.le_refl 0)).symm]
    exact (Sg_zero hm).symm
  · rw [Sg_s hk, ih, ← Sg_add hm]
    exact Sg_congr fun j _ _ => (Sg_s hk).symm
theorem Sg_cat {n m : Int} {f : Int → Int} (hn : 0 ≤ n) (hm : 0 ≤ m) : Sg (n + m) f = Sg n f + Sg m (fun i => f (n + i)) := by
  refine Sg_ind (P := fun m => Sg (n + m) f = Sg n f + Sg m (fun i => f (n + i))) (by rw [Int.add_zero, Sg_0 (Int.le_refl 0), Int.add_zero]) (fun k hk ih => ?_) hm
  rw [← Int.add_assoc, Sg_s (by omega), Sg_s hk, ih, Int.add_assoc]
/-- a row of rows -/
theorem Sg_rows {n m : Int} {f : Int → Int} (hn : 0 ≤ n) (hm : 0 ≤ m) : Sg (n * m) f = Sg n (fun i => Sg m (fun j => f (i * m + j))) := by
  refine Sg_ind (P := fun n => Sg (n * m) f = Sg n (fun i => Sg m (fun j => f (i * m + j)))) (by rw [Int.zero_mul, Sg_0 (Int.le_refl 0), Sg_0 (Int.le_refl 0)]) (fun k hk ih => ?_) hn
  rw [Int.add_mul, Int.one_mul, Sg_cat (Int.mul_nonneg hk hm) hm, ih, Sg_s hk]
/-! ### rows as functions -/
theorem vec_len {n : Int} {f : Int → Int} : (vec n f).length = n.toNat := rmap_len
theorem gi_vec {n i : Int} {f : Int → Int} (h0 : 0 ≤ i) (h1 : i < n) : gi (vec n f) i = f i := gi_rmap h0 h1
theorem pyIx_vec {n i : Int} {f : Int → Int} (h0 : 0 ≤ i) (h1 : i < n) : pyIx (vec n f) i = .ok (f i) := by
  rw [pyIx_gi h0 (by rw [vec_len]; omega), gi_vec h0 h1]
theorem gi_some' {α : Type} [Inhabited α] {xs : List α} {i : Nat} (h1 : i < xs.length) : xs[i]? = some (gi xs (i : Int)) := by
  rw [List.getElem?_eq_getElem h1, gi_nat (List.getElem?_eq_getElem h1)]
theorem vec_of {xs : List Int} : vec xs.length (gi xs) = xs := by
  apply List.ext_getElem?
  intro j
  by_cases hj : j < xs.length
  · have e : (vec xs.length (gi xs))[j]? = some (gi xs j) := by
      have := gi_some' (xs := vec xs.length (gi xs)) (i := j) (by rw [vec_len]; omega)
      rw [this, gi_vec (by omega) (by omega)]
    rw [e, List.getElem?_eq_getElem hj]
    exact congrArg some (gi_nat (List.getElem?_eq_getElem hj))
  · rw [List.getElem?_eq_none (by rw [vec_len]; omega), List.getElem?_eq_none (by omega)]
end Gd

namespace Gd
open PySem
def mat (m n : Int) (T : Int → Int → Int) : List (List Int) := (rng 0 m).map fun i => vec n (T i)
abbrev SHs := Int × Int × List Int × List (List (List Int)) × List Int
/-- a sum house -/
def hs (p L m : Int) (a : Int → Int) (T : Int → Int → Int → Int) (z : Int → Int) : SHs := (p, L, vec m a, (rng 0 L).map (fun l => mat m m (T l)), vec m z)
def Bd (p n : Int) (f : Int → Int) : Prop := ∀ i, 0 ≤ i → i < n → 0 ≤ f i ∧ f i < p
theorem mat_len {m n : Int} {T : Int → Int → Int} : (mat m n T).length = m.toNat := rmap_len
theorem pyIx_mat {m n i : Int} {T : Int → Int → Int} (h0 : 0 ≤ i) (h1 : i < m) : pyIx (mat m n T) i = .ok (vec n (T i)) := by
  rw [pyIx_gi h0 (by rw [mat_len]; omega)]
  unfold mat
  rw [gi_rmap h0 h1]
section
variable {p : Int}
theorem scaled_eq {c n : Int} {f : Int → Int} (hp : 0 < p) (hc : 0 ≤ c) (hc2 : c ≤ 1000000000000000000) : f_scaled p c (vec n f) = .ok (vec n fun i => c * f i % p) := by
  rw [f_scaled_eq]
  unfold m_scaled
  simp only [Rs.bind_ok, Rs.b2_ok, Rs.b3_ok, Rs.pr_ok, Rs.cs_ok, Rs.an_ok, Rs.or_ok, Rs.nt_ok, Rs.noEx_ok, Rs.ite_ok, Rs.an_t, Rs.an_f, Rs.or_t, Rs.or_f, Rs.op_some, cutR_eq, thn_nx, thn_rt, Rs.bind_ex, Rs.tryR_ok, Rs.tryR_ex]
  rw [mapR_ok (g := fun x => c * x % p) fun x _ => by
    rw [mulR_l (by omega)]
    simp only [Rs.bind_ok, Rs.b2_ok, Rs.b3_ok, Rs.pr_ok, Rs.cs_ok, Rs.an_ok, Rs.or_ok, Rs.nt_ok, Rs.noEx_ok, Rs.ite_ok, Rs.an_t, Rs.an_f, Rs.or_t, Rs.or_f, Rs.op_some, cutR_eq, thn_nx, thn_rt, Rs.bind_ex, Rs.tryR_ok, Rs.tryR_ex, modR_ok hp]]
  unfold vec
  rw [List.map_map]
  rfl
theorem added_eq {n : Int} {f g : Int → Int} (hp : 0 < p) (hn : 0 ≤ n) (hn2 : n ≤ 1000) : f_added p (vec n f) (vec n g) = .ok (vec n fun i => (f i + g i) % p) := by
  rw [f_added_eq]
  unfold m_added
  simp only [Rs.bind_ok, Rs.b2_ok, Rs.b3_ok, Rs.pr_ok, Rs.cs_ok, Rs.an_ok, Rs.or_ok, Rs.nt_ok, Rs.noEx_ok, Rs.ite_ok, Rs.an_t, Rs.an_f, Rs.or_t, Rs.or_f, Rs.op_some, cutR_eq, thn_nx, thn_rt, Rs.bind_ex, Rs.tryR_ok, Rs.tryR_ex, vec_len]
  rw [rngR_small (by omega) (by omega) (by omega) (by omega), Int.toNat_of_nonneg hn]
  simp only [Rs.bind_ok, Rs.b2_ok, Rs.b3_ok, Rs.pr_ok, Rs.cs_ok, Rs.an_ok, Rs.or_ok, Rs.nt_ok, Rs.noEx_ok, Rs.ite_ok, Rs.an_t, Rs.an_f, Rs.or_t, Rs.or_f, Rs.op_some, cutR_eq, thn_nx, thn_rt, Rs.bind_ex, Rs.tryR_ok, Rs.tryR_ex]
  rw [mapR_ok (g := fun i => (f i + g i) % p) fun x hx => by
    obtain ⟨q0, q1⟩ := mem_rng.mp hx
    rw [pyIx_vec q0 q1, pyIx_vec q0 q1]
    simp only [Rs.bind_ok, Rs.b2_ok, Rs.b3_ok, Rs.pr_ok, Rs.cs_ok, Rs.an_ok, Rs.or_ok, Rs.nt_ok, Rs.noEx_ok, Rs.ite_ok, Rs.an_t, Rs.an_f, Rs.or_t, Rs.or_f, Rs.op_some, cutR_eq, thn_nx, thn_rt, Rs.bind_ex, Rs.tryR_ok, Rs.tryR_ex, modR_ok hp]]
  rfl
theorem product_eq {n : Int} {f g : Int → Int} (hp : 0 < p) (hp2 : p ≤ 1000000000000000000) (hn : 0 ≤ n) (hn2 : n ≤ 1000) (hf : Bd p n f) : f_product p (vec n f) (vec n g) = .ok (Sg n (fun i => f i * g i) % p) := by
  rw [f_product_eq]
  unfold m_product
  simp only [Rs.bind_ok, Rs.b2_ok, Rs.b3_ok, Rs.pr_ok, Rs.cs_ok, Rs.an_ok, Rs.or_ok, Rs.nt_ok, Rs.noEx_ok, Rs.ite_ok, Rs.an_t, Rs.an_f, Rs.or_t, Rs.or_f, Rs.op_some, cutR_eq, thn_nx, thn_rt, Rs.bind_ex, Rs.tryR_ok, Rs.tryR_ex, vec_len]
  rw [rngR_small (by omega) (by omega) (by omega) (by omega), Int.toNat_of_nonneg hn]
  simp only [Rs.bind_ok, Rs.b2_ok, Rs.b3_ok, Rs.pr_ok, Rs.cs_ok, Rs.an_ok, Rs.or_ok, Rs.nt_ok, Rs.noEx_ok, Rs.ite_ok, Rs.an_t, Rs.an_f, Rs.or_t, Rs.or_f, Rs.op_some, cutR_eq, thn_nx, thn_rt, Rs.bind_ex, Rs.tryR_ok, Rs.tryR_ex]
  rw [mapR_ok (g := fun i => f i * g i) fun x hx => by
    obtain ⟨q0, q1⟩ := mem_rng.mp hx
    have := hf x q0 q1
    rw [pyIx_vec q0 q1, pyIx_vec q0 q1]
    simp only [Rs.bind_ok, Rs.b2_ok, Rs.b3_ok, Rs.pr_ok, Rs.cs_ok, Rs.an_ok, Rs.or_ok, Rs.nt_ok, Rs.noEx_ok, Rs.ite_ok, Rs.an_t, Rs.an_f, Rs.or_t, Rs.or_f, Rs.op_some, cutR_eq, thn_nx, thn_rt, Rs.bind_ex, Rs.tryR_ok, Rs.tryR_ex]
    exact mulR_l (by omega)]
  simp only [Rs.bind_ok, Rs.b2_ok, Rs.b3_ok, Rs.pr_ok, Rs.cs_ok, Rs.an_ok, Rs.or_ok, Rs.nt_ok, Rs.noEx_ok, Rs.ite_ok, Rs.an_t, Rs.an_f, Rs.or_t, Rs.or_f, Rs.op_some, cutR_eq, thn_nx, thn_rt, Rs.bind_ex, Rs.tryR_ok, Rs.tryR_ex, modR_ok hp]
  rfl
theorem times_eq {n : Int} {f g : Int → Int} (hp : 0 < p) (hp2 : p ≤ 1000000000000000000) (hn : 0 ≤ n) (hn2 : n ≤ 1000) (hf : Bd p n f) : f__law_times p (vec n f) (vec n g) = .ok (Sg n (fun i => f i * g i) % p) := by
  rw [f__law_times_eq]
  unfold m__law_times
  simp only [Rs.bind_ok, Rs.b2_ok, Rs.b3_ok, Rs.pr_ok, Rs.cs_ok, Rs.an_ok, Rs.or_ok, Rs.nt_ok, Rs.noEx_ok, Rs.ite_ok, Rs.an_t, Rs.an_f, Rs.or_t, Rs.or_f, Rs.op_some, cutR_eq, thn_nx, thn_rt, Rs.bind_ex, Rs.tryR_ok, Rs.tryR_ex, vec_len]
  rw [rngR_small (by omega) (by omega) (by omega) (by omega), Int.toNat_of_nonneg hn]
  simp only [Rs.bind_ok, Rs.b2_ok, Rs.b3_ok, Rs.pr_ok, Rs.cs_ok, Rs.an_ok, Rs.or_ok, Rs.nt_ok, Rs.noEx_ok, Rs.ite_ok, Rs.an_t, Rs.an_f, Rs.or_t, Rs.or_f, Rs.op_some, cutR_eq, thn_nx, thn_rt, Rs.bind_ex, Rs.tryR_ok, Rs.tryR_ex]
  rw [mapR_ok (g := fun i => f i * g i) fun x hx => by
    obtain ⟨q0, q1⟩ := mem_rng.mp hx
    have := hf x q0 q1
    rw [pyIx_vec q0 q1, pyIx_vec q0 q1]
    simp only [Rs.bind_ok, Rs.b2_ok, Rs.b3_ok, Rs.pr_ok, Rs.cs_ok, Rs.an_ok, Rs.or_ok, Rs.nt_ok, Rs.noEx_ok, Rs.ite_ok, Rs.an_t, Rs.an_f, Rs.or_t, Rs.or_f, Rs.op_some, cutR_eq, thn_nx, thn_rt, Rs.bind_ex, Rs.tryR_ok, Rs.tryR_ex]
    exact mulR_l (by omega)]
  simp only [Rs.bind_ok, Rs.b2_ok, Rs.b3_ok, Rs.pr_ok, Rs.cs_ok, Rs.an_ok, Rs.or_ok, Rs.nt_ok, Rs.noEx_ok, Rs.ite_ok, Rs.an_t, Rs.an_f, Rs.or_t, Rs.or_f, Rs.op_some, cutR_eq, thn_nx, thn_rt, Rs.bind_ex, Rs.tryR_ok, Rs.tryR_ex, modR_ok hp]
  rfl
/-- one letter's step -/
def stp (p m : Int) (T : Int → Int → Int) (a : Int → Int) : Int → Int := fun c => Sg m (fun k => a k * T k c) % p
theorem vec_rep {n : Int} {c : Int} : List.replicate n.toNat c = vec n fun _ => c := by
  symm
  rw [List.eq_replicate_iff]
  refine ⟨vec_len, fun b hb => ?_⟩
  obtain ⟨x, _, rfl⟩ := List.mem_map.mp hb
  rfl
theorem madeOf_eq {m n : Int} {T : Int → Int → Int} {a : Int → Int} (hp : 0 < p) (hp2 : p ≤ 1000000000000000000) (hm : 0 ≤ m) (hm2 : m ≤ 1000) (hn : 0 ≤ n) (hn2 : n ≤ 1000) (ha : Bd p m a) : f_made_of p (mat m n T) (vec m a) n = .ok (vec n (stp p m T a)) := by
  rw [f_made_of_eq]
  unfold m_made_of
  simp only [Rs.bind_ok, Rs.b2_ok, Rs.b3_ok, Rs.pr_ok, Rs.cs_ok, Rs.an_ok, Rs.or_ok, Rs.nt_ok, Rs.noEx_ok, Rs.ite_ok, Rs.an_t, Rs.an_f, Rs.or_t, Rs.or_f, Rs.op_some, cutR_eq, thn_nx, thn_rt, Rs.bind_ex, Rs.tryR_ok, Rs.tryR_ex, mat_len]
  rw [repR_ok (by omega), vec_rep]
  simp only [Rs.bind_ok, Rs.b2_ok, Rs.b3_ok, Rs.pr_ok, Rs.cs_ok, Rs.an_ok, Rs.or_ok, Rs.nt_ok, Rs.noEx_ok, Rs.ite_ok, Rs.an_t, Rs.an_f, Rs.or_t, Rs.or_f, Rs.op_some, cutR_eq, thn_nx, thn_rt, Rs.bind_ex, Rs.tryR_ok, Rs.tryR_ex]
  rw [rngR_small (by omega) (by omega) (by omega) (by omega), Int.toNat_of_nonneg hm]
  simp only [Rs.bind_ok, Rs.b2_ok, Rs.b3_ok, Rs.pr_ok, Rs.cs_ok, Rs.an_ok, Rs.or_ok, Rs.nt_ok, Rs.noEx_ok, Rs.ite_ok, Rs.an_t, Rs.an_f, Rs.or_t, Rs.or_f, Rs.op_some, cutR_eq, thn_nx, thn_rt, Rs.bind_ex, Rs.tryR_ok, Rs.tryR_ex]
  refine forB (P := fun r => r = _) (fun i s => s = vec n (fun c => Sg i (fun k => a k * T k c) % p)) hm ?_ (fun i s i0 i1 hs => ?_) (fun s hs => ?_)
  · exact vec_congr fun i _ _ => by rw [Sg_0 (Int.le_refl 0), Int.zero_emod]
  · subst hs
    have := ha i i0 i1
    rw [pyIx_vec i0 i1, pyIx_mat i0 i1]
    simp only [Rs.bind_ok, Rs.b2_ok, Rs.b3_ok, Rs.pr_ok, Rs.cs_ok, Rs.an_ok, Rs.or_ok, Rs.nt_ok, Rs.noEx_ok, Rs.ite_ok, Rs.an_t, Rs.an_f, Rs.or_t, Rs.or_f, Rs.op_some, cutR_eq, thn_nx, thn_rt, Rs.bind_ex, Rs.tryR_ok, Rs.tryR_ex]
    rw [scaled_eq hp (by omega) (by omega)]
    simp only [Rs.bind_ok, Rs.b2_ok, Rs.b3_ok, Rs.pr_ok, Rs.cs_ok, Rs.an_ok, Rs.or_ok, Rs.nt_ok, Rs.noEx_ok, Rs.ite_ok, Rs.an_t, Rs.an_f, Rs.or_t, Rs.or_f, Rs.op_some, cutR_eq, thn_nx, thn_rt, Rs.bind_ex, Rs.tryR_ok, Rs.tryR_ex]
    rw [added_eq hp hn hn2]
    refine ⟨_, rfl, ?_⟩
    exact vec_congr fun c _ _ => by rw [Sg_s i0, ← Int.add_emod]
  · subst hs
    rfl
theorem step_eq {m : Int} {T : Int → Int → Int} {a : Int → Int} (hp : 0 < p) (hp2 : p ≤ 1000000000000000000) (hm : 0 ≤ m) (hm2 : m ≤ 1000) (ha : Bd p m a) : f__law_step p (vec m a) (mat m m T) = .ok (vec m (stp p m T a)) := by
  rw [f__law_step_eq]
  unfold m__law_step
  simp only [Rs.bind_ok, Rs.b2_ok, Rs.b3_ok, Rs.pr_ok, Rs.cs_ok, Rs.an_ok, Rs.or_ok, Rs.nt_ok, Rs.noEx_ok, Rs.ite_ok, Rs.an_t, Rs.an_f, Rs.or_t, Rs.or_f, Rs.op_some, cutR_eq, thn_nx, thn_rt, Rs.bind_ex, Rs.tryR_ok, Rs.tryR_ex, vec_len]
  rw [rngR_small (by omega) (by omega) (by omega) (by omega), Int.toNat_of_nonneg hm]
  simp only [Rs.bind_ok, Rs.b2_ok, Rs.b3_ok, Rs.pr_ok, Rs.cs_ok, Rs.an_ok, Rs.or_ok, Rs.nt_ok, Rs.noEx_ok, Rs.ite_ok, Rs.an_t, Rs.an_f, Rs.or_t, Rs.or_f, Rs.op_some, cutR_eq, thn_nx, thn_rt, Rs.bind_ex, Rs.tryR_ok, Rs.tryR_ex]
  refine forB (P := fun r => r = _) (fun i s => s = vec i (stp p m T a)) hm ?_ (fun i s i0 i1 hs => ?_) (fun s hs => ?_)
  · unfold vec
    rw [rng_nil (Int.le_refl 0)]
    rfl
  · subst hs
    rw [mapR_ok (g := fun k => a k * T k i) fun x hx => by
      obtain ⟨q0, q1⟩ := mem_rng.mp hx
      have := ha x q0 q1
      rw [pyIx_vec q0 q1, pyIx_mat q0 q1]
      simp only [Rs.bind_ok, Rs.b2_ok, Rs.b3_ok, Rs.pr_ok, Rs.cs_ok, Rs.an_ok, Rs.or_ok, Rs.nt_ok, Rs.noEx_ok, Rs.ite_ok, Rs.an_t, Rs.an_f, Rs.or_t, Rs.or_f, Rs.op_some, cutR_eq, thn_nx, thn_rt, Rs.bind_ex, Rs.tryR_ok, Rs.tryR_ex]
      rw [pyIx_vec i0 i1]
      simp only [Rs.bind_ok, Rs.b2_ok, Rs.b3_ok, Rs.pr_ok, Rs.cs_ok, Rs.an_ok, Rs.or_ok, Rs.nt_ok, Rs.noEx_ok, Rs.ite_ok, Rs.an_t, Rs.an_f, Rs.or_t, Rs.or_f, Rs.op_some, cutR_eq, thn_nx, thn_rt, Rs.bind_ex, Rs.tryR_ok, Rs.tryR_ex]
      exact mulR_l (by omega)]
    simp only [Rs.bind_ok, Rs.b2_ok, Rs.b3_ok, Rs.pr_ok, Rs.cs_ok, Rs.an_ok, Rs.or_ok, Rs.nt_ok, Rs.noEx_ok, Rs.ite_ok, Rs.an_t, Rs.an_f, Rs.or_t, Rs.or_f, Rs.op_some, cutR_eq, thn_nx, thn_rt, Rs.bind_ex, Rs.tryR_ok, Rs.tryR_ex, modR_ok hp]
    rw [push_ok (by rw [vec_len]; omega)]
    refine ⟨_, rfl, ?_⟩
    unfold vec
    rw [rng_snoc i0, List.map_append]
    rfl
  · subst hs
    rfl
theorem stp_bd {m n : Int} {T : Int → Int → Int} {a : Int → Int} (hp : 0 < p) : Bd p n (stp p m T a) := fun i _ _ => ⟨Int.emod_nonneg _ (by omega), Int.emod_lt_of_pos _ hp⟩
/-- the row behind a word -/
def rb (p m : Int) (T : Int → Int → Int → Int) : List Int → (Int → Int) → Int → Int
  | [], a => a
  | l :: w, a => rb p m T w (stp p m (T l) a)
theorem rb_bd {m : Int} {T : Int → Int → Int → Int} (hp : 0 < p) : ∀ {w : List Int} {a : Int → Int}, Bd p m a → Bd p m (rb p m T w a)
  | [], _, h => h
  | l :: w, a, _ => rb_bd (w := w) (a := stp p m (T l) a) hp (stp_bd (a := a) hp)
def Wd (L : Int) (w : List Int) : Prop := ∀ l, l ∈ w → 0 ≤ l ∧ l < L
theorem isWord_eq {L : Int} {w : List Int} (hw : Wd L w) : f_is_word L w = .ok true := by
  rw [f_is_word_eq]
  unfold m_is_word
  simp only [Rs.bind_ok, Rs.b2_ok, Rs.b3_ok, Rs.pr_ok, Rs.cs_ok, Rs.an_ok, Rs.or_ok, Rs.nt_ok, Rs.noEx_ok, Rs.ite_ok, Rs.an_t, Rs.an_f, Rs.or_t, Rs.or_f, Rs.op_some, cutR_eq, thn_nx, thn_rt, Rs.bind_ex, Rs.tryR_ok, Rs.tryR_ex]
  rw [forF_go fun x hx => by
    have := hw x hx
    rw [if_neg (by simp; omega)]]
  simp
theorem pyIx_tab {L m l : Int} {T : Int → Int → Int → Int} (h0 : 0 ≤ l) (h1 : l < L) : pyIx ((rng 0 L).map (fun l => mat m m (T l))) l = .ok (mat m m (T l)) := by
  rw [pyIx_gi h0 (by rw [rmap_len]; omega), gi_rmap h0 h1]
theorem rowBehind_eq {L m : Int} {a : Int → Int} {T : Int → Int → Int → Int} {z : Int → Int} {w : List Int} (hp : 0 < p) (hp2 : p ≤ 1000000000000000000) (hm : 0 ≤ m) (hm2 : m ≤ 1000) (ha : Bd p m a) (hw : Wd L w) : f_row_behind (hs p L m a T z) w = .ok (vec m (rb p m T w a)) := by
  rw [f_row_behind_eq]
  unfold m_row_behind hs
  simp only [Rs.bind_ok, Rs.b2_ok, Rs.b3_ok, Rs.pr_ok, Rs.cs_ok, Rs.an_ok, Rs.or_ok, Rs.nt_ok, Rs.noEx_ok, Rs.ite_ok, Rs.an_t, Rs.an_f, Rs.or_t, Rs.or_f, Rs.op_some, cutR_eq, thn_nx, thn_rt, Rs.bind_ex, Rs.tryR_ok, Rs.tryR_ex, isWord_eq hw, Rs.nt_ok, Bool.not_true, Bool.false_eq_true, if_false]
  have go : ∀ (w : List Int) (a : Int → Int), Bd p m a → Wd L w → Rs.foldR (fun (s : List Int) letter => (pyIx ((rng 0 L).map (fun l => mat m m (T l))) letter).bind fun x => (f_made_of p x s (s.length : Int)).bind fun row1 => Rs.ok row1) (vec m a) w = .ok (vec m (rb p m T w a)) := by
    intro w
    induction w with
    | nil => intro a _ _; rfl
    | cons l w ih =>
      intro a ha hw
      obtain ⟨q0, q1⟩ := hw l List.mem_cons_self
      show Rs.bind _ _ = _
      simp only [pyIx_tab q0 q1, Rs.bind_ok, Rs.b2_ok, Rs.b3_ok, Rs.pr_ok, Rs.cs_ok, Rs.an_ok, Rs.or_ok, Rs.nt_ok, Rs.noEx_ok, Rs.ite_ok, Rs.an_t, Rs.an_f, Rs.or_t, Rs.or_f, Rs.op_some, cutR_eq, thn_nx, thn_rt, Rs.bind_ex, Rs.tryR_ok, Rs.tryR_ex]
      rw [vec_len, Int.toNat_of_nonneg hm, madeOf_eq hp hp2 hm hm2 hm hm2 ha]
      simp only [Rs.bind_ok, Rs.b2_ok, Rs.b3_ok, Rs.pr_ok, Rs.cs_ok, Rs.an_ok, Rs.or_ok, Rs.nt_ok, Rs.noEx_ok, Rs.ite_ok, Rs.an_t, Rs.an_f, Rs.or_t, Rs.or_f, Rs.op_some, cutR_eq, thn_nx, thn_rt, Rs.bind_ex, Rs.tryR_ok, Rs.tryR_ex]
      exact ih _ (stp_bd hp) fun x hx => hw x (List.mem_cons_of_mem _ hx)
  have e := go w a ha hw
  simp only [Rs.pr, Rs.bind_assoc, Rs.b2, Rs.bind_ok] at e ⊢
  rw [e]
  rfl
theorem behind_eq {L m : Int} {a : Int → Int} {T : Int → Int → Int → Int} {z : Int → Int} {w : List Int} (hp : 0 < p) (hp2 : p ≤ 1000000000000000000) (hm : 0 ≤ m) (hm2 : m ≤ 1000) (ha : Bd p m a) (hw : Wd L w) : f__law_behind (hs p L m a T z) w = .ok (vec m (rb p m T w a)) := by
  rw [f__law_behind_eq]
  unfold m__law_behind hs
  simp only [Rs.bind_ok, Rs.b2_ok, Rs.b3_ok, Rs.pr_ok, Rs.cs_ok, Rs.an_ok, Rs.or_ok, Rs.nt_ok, Rs.noEx_ok, Rs.ite_ok, Rs.an_t, Rs.an_f, Rs.or_t, Rs.or_f, Rs.op_some, cutR_eq, thn_nx, thn_rt, Rs.bind_ex, Rs.tryR_ok, Rs.tryR_ex]
  have go : ∀ (w : List Int) (a : Int → Int), Bd p m a → Wd L w → Rs.foldR (fun (s : List Int) letter => (pyIx ((rng 0 L).map (fun l => mat m m (T l))) letter).bind fun x => (f__law_step p s x).bind fun row1 => Rs.ok row1) (vec m a) w = .ok (vec m (rb p m T w a)) := by
    intro w
    induction w with
    | nil => intro a _ _; rfl
    | cons l w ih =>
      intro a ha hw
      obtain ⟨q0, q1⟩ := hw l List.mem_cons_self
      show Rs.bind _ _ = _
      simp only [pyIx_tab q0 q1, Rs.bind_ok, Rs.b2_ok, Rs.b3_ok, Rs.pr_ok, Rs.cs_ok, Rs.an_ok, Rs.or_ok, Rs.nt_ok, Rs.noEx_ok, Rs.ite_ok, Rs.an_t, Rs.an_f, Rs.or_t, Rs.or_f, Rs.op_some, cutR_eq, thn_nx, thn_rt, Rs.bind_ex, Rs.tryR_ok, Rs.tryR_ex]
      rw [step_eq hp hp2 hm hm2 ha]
      simp only [Rs.bind_ok, Rs.b2_ok, Rs.b3_ok, Rs.pr_ok, Rs.cs_ok, Rs.an_ok, Rs.or_ok, Rs.nt_ok, Rs.noEx_ok, Rs.ite_ok, Rs.an_t, Rs.an_f, Rs.or_t, Rs.or_f, Rs.op_some, cutR_eq, thn_nx, thn_rt, Rs.bind_ex, Rs.tryR_ok, Rs.tryR_ex]
      exact ih _ (stp_bd hp) fun x hx => hw x (List.mem_cons_of_mem _ hx)
  have e := go w a ha hw
  simp only [Rs.pr, Rs.bind_assoc, Rs.b2, Rs.bind_ok] at e ⊢
  rw [e]
  rfl
/-- what a word is worth -/
def wt (p m : Int) (a : Int → Int) (T : Int → Int → Int → Int) (z : Int → Int) (w : List Int) : Int := Sg m (fun k => rb p m T w a k * z k) % p
theorem worth_eq {L m : Int} {a : Int → Int} {T : Int → Int → Int → Int} {z : Int → Int} {w : List Int} (hp : 0 < p) (hp2 : p ≤ 1000000000000000000) (hm : 0 ≤ m) (hm2 : m ≤ 1000) (ha : Bd p m a) (hw : Wd L w) : f_worth (hs p L m a T z) w = .ok (wt p m a T z w) := by
  rw [f_worth_eq]
  unfold m_worth
  simp only [Rs.bind_ok, Rs.b2_ok, Rs.b3_ok, Rs.pr_ok, Rs.cs_ok, Rs.an_ok, Rs.or_ok, Rs.nt_ok, Rs.noEx_ok, Rs.ite_ok, Rs.an_t, Rs.an_f, Rs.or_t, Rs.or_f, Rs.op_some, cutR_eq, thn_nx, thn_rt, Rs.bind_ex, Rs.tryR_ok, Rs.tryR_ex]
  rw [rowBehind_eq hp hp2 hm hm2 ha hw]
  simp only [Rs.bind_ok, Rs.b2_ok, Rs.b3_ok, Rs.pr_ok, Rs.cs_ok, Rs.an_ok, Rs.or_ok, Rs.nt_ok, Rs.noEx_ok, Rs.ite_ok, Rs.an_t, Rs.an_f, Rs.or_t, Rs.or_f, Rs.op_some, cutR_eq, thn_nx, thn_rt, Rs.bind_ex, Rs.tryR_ok, Rs.tryR_ex, hs]
  exact product_eq hp hp2 hm hm2 (rb_bd hp ha)
theorem lawWorth_eq {L m : Int} {a : Int → Int} {T : Int → Int → Int → Int} {z : Int → Int} {w : List Int} (hp : 0 < p) (hp2 : p ≤ 1000000000000000000) (hm : 0 ≤ m) (hm2 : m ≤ 1000) (ha : Bd p m a) (hw : Wd L w) : f__law_worth (hs p L m a T z) w = .ok (wt p m a T z w) := by
  rw [f__law_worth_eq]
  unfold m__law_worth
  simp only [Rs.bind_ok, Rs.b2_ok, Rs.b3_ok, Rs.pr_ok, Rs.cs_ok, Rs.an_ok, Rs.or_ok, Rs.nt_ok, Rs.noEx_ok, Rs.ite_ok, Rs.an_t, Rs.an_f, Rs.or_t, Rs.or_f, Rs.op_some, cutR_eq, thn_nx, thn_rt, Rs.bind_ex, Rs.tryR_ok, Rs.tryR_ex]
  rw [behind_eq hp hp2 hm hm2 ha hw]
  simp only [Rs.bind_ok, Rs.b2_ok, Rs.b3_ok, Rs.pr_ok, Rs.cs_ok, Rs.an_ok, Rs.or_ok, Rs.nt_ok, Rs.noEx_ok, Rs.ite_ok, Rs.an_t, Rs.an_f, Rs.or_t, Rs.or_f, Rs.op_some, cutR_eq, thn_nx, thn_rt, Rs.bind_ex, Rs.tryR_ok, Rs.tryR_ex, hs]
  exact times_eq hp hp2 hm hm2 (rb_bd hp ha)
end
end Gd

namespace Gd
open PySem
section
variable {p : Int}
theorem stp_congr {m : Int} {T U : Int → Int → Int} {a b : Int → Int} {c d : Int} (h : ∀ i, 0 ≤ i → i < m → a i = b i) (hT : ∀ i, 0 ≤ i → i < m → T i c = U i d) : stp p m T a c = stp p m U b d := by
  unfold stp
  rw [Sg_congr fun k h0 h1 => by rw [h k h0 h1, hT k h0 h1]]
theorem rb_congr {m : Int} {T U : Int → Int → Int → Int} : ∀ {w : List Int} {a b : Int → Int}, (∀ i, 0 ≤ i → i < m → a i = b i) → (∀ l i j, 0 ≤ i → i < m → 0 ≤ j → j < m → T l i j = U l i j) → ∀ i, 0 ≤ i → i < m → rb p m T w a i = rb p m U w b i
  | [], _, _, h, _ => h
  | l :: w, a, b, h, hT => by
    show ∀ i, 0 ≤ i → i < m → rb p m T w (stp p m (T l) a) i = rb p m U w (stp p m (U l) b) i
    exact rb_congr (fun i h0 h1 => stp_congr h fun k k0 k1 => hT l k i k0 k1 h0 h1) hT
theorem wt_congr {m : Int} {T U : Int → Int → Int → Int} {a b z y : Int → Int} {w : List Int} (h : ∀ i, 0 ≤ i → i < m → a i = b i) (hz : ∀ i, 0 ≤ i → i < m → z i = y i) (hT : ∀ l i j, 0 ≤ i → i < m → 0 ≤ j → j < m → T l i j = U l i j) : wt p m a T z w = wt p m b U y w := by
  unfold wt
  rw [Sg_congr fun k h0 h1 => by rw [rb_congr h hT k h0 h1, hz k h0 h1]]
/-! less -/
def jn (m : Int) (f g : Int → Int) : Int → Int := fun i => if i < m then f i else g (i - m)
def jnT (m : Int) (T U : Int → Int → Int → Int) : Int → Int → Int → Int := fun l i j => if i < m then (if j < m then T l i j else 0) else (if j < m then 0 else U l (i - m) (j - m))
theorem stp_jn {m n l : Int} {T U : Int → Int → Int → Int} {a b : Int → Int} (hm : 0 ≤ m) (hn : 0 ≤ n) {j : Int} (h0 : 0 ≤ j) : stp p (m + n) (jnT m T U l) (jn m a b) j = jn m (stp p m (T l) a) (stp p n (U l) b) j := by
  unfold stp jn
  rw [Sg_cat hm hn]
  have e1 : Sg m (fun k => (if k < m then a k else b (k - m)) * jnT m T U l k j) = if j < m then Sg m (fun k => a k * T l k j) else 0 := by
    split
    · rename_i hj
      exact Sg_congr fun k k0 k1 => by unfold jnT; rw [if_pos k1, if_pos k1, if_pos hj]
    · rename_i hj
      rw [← Sg_zero hm]
      exact Sg_congr fun k k0 k1 => by unfold jnT; rw [if_pos k1, if_pos k1, if_neg hj, Int.mul_zero]
  have e2 : Sg n (fun i => (if m + i < m then a (m + i) else b (m + i - m)) * jnT m T U l (m + i) j) = if j < m then 0 else Sg n (fun k => b k * U l k (j - m)) := by
    split
    · rename_i hj
      rw [← Sg_zero hn]
      exact Sg_congr fun k k0 k1 => by unfold jnT; rw [if_neg (by omega), if_neg (by omega), if_pos hj, Int.mul_zero]
    · rename_i hj
      exact Sg_congr fun k k0 k1 => by unfold jnT; rw [if_neg (by omega), if_neg (by omega), if_neg hj, show m + k - m = k by omega]
  rw [e1, e2]
  split
  · rw [Int.add_zero]
  · rw [Int.zero_add]
theorem rb_jn {m n : Int} {T U : Int → Int → Int → Int} (hm : 0 ≤ m) (hn : 0 ≤ n) : ∀ {w : List Int} {a b : Int → Int} (i : Int), 0 ≤ i → i < m + n → rb p (m + n) (jnT m T U) w (jn m a b) i = jn m (rb p m T w a) (rb p n U w b) i
  | [], _, _, _, _, _ => rfl
  | l :: w, a, b, i, h0, h1 => by
    show rb p (m + n) (jnT m T U) w (stp p (m + n) (jnT m T U l) (jn m a b)) i = _
    rw [rb_congr (b := jn m (stp p m (T l) a) (stp p n (U l) b)) (fun k k0 _ => stp_jn hm hn k0) (fun _ _ _ _ _ _ _ => rfl) i h0 h1]
    exact rb_jn hm hn i h0 h1
theorem wt_less {m n : Int} {T U : Int → Int → Int → Int} {a b z y : Int → Int} {w : List Int} (hm : 0 ≤ m) (hn : 0 ≤ n) : wt p (m + n) (jn m a b) (jnT m T U) (jn m z fun i => (p - y i) % p) w = (wt p m a T z w - wt p n b U y w) % p := by
  unfold wt
  rw [Sg_cat hm hn]
  rw [Sg_congr (f := fun k => rb p (m + n) (jnT m T U) w (jn m a b) k * jn m z (fun i => (p - y i) % p) k) (g := fun k => rb p m T w a k * z k) fun k k0 k1 => by rw [rb_jn hm hn k k0 (by omega)]; unfold jn; rw [if_pos k1, if_pos k1]]
  rw [Sg_congr (f := fun i => rb p (m + n) (jnT m T U) w (jn m a b) (m + i) * jn m z (fun i => (p - y i) % p) (m + i)) (g := fun k => rb p n U w b k * ((p - y k) % p)) fun k k0 k1 => by rw [rb_jn hm hn _ (by omega) (by omega)]; unfold jn; rw [if_neg (by omega), if_neg (by omega), show m + k - m = k by omega]]
  have e1 : ∀ x q : Int, x * ((p - q) % p) % p = (-1 * (x * q)) % p := fun x q => by
    rw [Int.mul_emod, Int.emod_emod_of_dvd _ (Int.dvd_refl p), ← Int.mul_emod, show x * (p - q) = -1 * (x * q) + x * p by rw [Int.mul_sub]; omega, Int.add_mul_emod_self_right]
  have e2 : Sg n (fun k => rb p n U w b k * ((p - y k) % p)) % p = (-1 * Sg n (fun k => rb p n U w b k * y k)) % p := by
    rw [← Sg_mul hn]
    exact Sg_mod hn fun k _ _ => e1 _ _
  rw [Int.add_emod, e2, ← Int.add_emod, ← Int.sub_emod]
  congr 1
  omega
/-! back -/
theorem wt_back {m : Int} {T : Int → Int → Int → Int} (hm : 0 ≤ m) : ∀ {w : List Int} {a z : Int → Int}, wt p m z (fun l i j => T l j i) a w.reverse = wt p m a T z w := by
  -- W(a, w, z) mod p, with a word read from either end
  have snoc : ∀ (w : List Int) (l : Int) (a : Int → Int) (U : Int → Int → Int → Int), rb p m U (w ++ [l]) a = stp p m (U l) (rb p m U w a) := by
    intro w
    induction w with
    | nil => intro l a U; rfl
    | cons x w ih => intro l a U; exact ih l _ U
  intro w
  induction w with
  | nil =>
    intro a z
    unfold wt
    show Sg m (fun k => z k * a k) % p = Sg m (fun k => a k * z k) % p
    rw [Sg_congr fun k _ _ => Int.mul_comm _ _]
  | cons l w ih =>
    intro a z
    have e := ih (a := stp p m (T l) a) (z := z)
    unfold wt at e ⊢
    rw [List.reverse_cons, snoc]
    show _ = Sg m (fun k => rb p m T w (stp p m (T l) a) k * z k) % p
    rw [← e]
    generalize rb p m (fun l i j => T l j i) w.reverse z = r
    rw [Sg_mod (g := fun k => Sg m (fun i => r i * T l k i) * a k) hm fun k _ _ => by unfold stp; rw [Int.mul_emod, Int.emod_emod_of_dvd _ (Int.dvd_refl p), ← Int.mul_emod]]
    rw [Sg_mod (f := fun k => r k * stp p m (T l) a k) (g := fun k => r k * Sg m (fun i => a i * T l i k)) hm fun k _ _ => by unfold stp; rw [Int.mul_emod, Int.emod_emod_of_dvd _ (Int.dvd_refl p), ← Int.mul_emod]]
    rw [Sg_congr (f := fun k => Sg m (fun i => r i * T l k i) * a k) (g := fun k => Sg m (fun i => r i * T l k i * a k)) fun k _ _ => (Sg_mulr hm).symm]
    rw [Sg_swap hm hm]
    rw [Sg_congr (f := fun k => r k * Sg m (fun i => a i * T l i k)) (g := fun k => Sg m (fun i => r k * T l i k * a i)) fun k _ _ => by
      rw [← Sg_mul hm]
      exact Sg_congr fun i _ _ => by rw [Int.mul_comm (a i), Int.mul_assoc]]
end
end Gd

namespace Gd
open PySem
section
variable {p : Int}
/-! times -/
def kr (p n : Int) (f g : Int → Int) : Int → Int := fun i => f (i / n) * g (i % n) % p
def krT (p n : Int) (T U : Int → Int → Int → Int) : Int → Int → Int → Int := fun l i j => T l (i / n) (j / n) * U l (i % n) (j % n) % p
theorem div_at {n i q : Int} (h0 : 0 ≤ q) (h1 : q < n) : (i * n + q) / n = i ∧ (i * n + q) % n = q := by
  have hn : n ≠ 0 := by omega
  refine ⟨?_, ?_⟩
  · rw [Int.add_comm, Int.add_mul_ediv_right _ _ hn, Int.ediv_eq_zero_of_lt h0 h1, Int.zero_add]
  · rw [Int.add_comm, Int.add_mul_emod_self_right, Int.emod_eq_of_lt h0 h1]
theorem mm4 (a b c d : Int) : (a * b % p) * (c * d % p) % p = ((a * c) * (b * d)) % p := by
  rw [← Int.mul_emod]
  congr 1
  rw [Int.mul_assoc, Int.mul_assoc, Int.mul_left_comm b c d]
/-- a sum over all pairs -/
theorem Sg_pairs {m n : Int} {F : Int → Int} {f g : Int → Int} (hm : 0 ≤ m) (hn : 0 ≤ n) (h : ∀ i q, 0 ≤ i → i < m → 0 ≤ q → q < n → F (i * n + q) % p = f i * g q % p) : Sg (m * n) F % p = (Sg m f % p) * (Sg n g % p) % p := by
  rw [Sg_rows hm hn, Sg_mod (g := fun i => f i * Sg n g) hm fun i i0 i1 => by
    rw [← Sg_mul hn]
    exact Sg_mod hn fun q q0 q1 => h i q i0 i1 q0 q1]
  rw [Sg_mulr hm, Int.mul_emod]
theorem stp_kr {m n l : Int} {T U : Int → Int → Int → Int} {a b : Int → Int} (hm : 0 ≤ m) (hn : 0 ≤ n) {j : Int} : stp p (m * n) (krT p n T U l) (kr p n a b) j = kr p n (stp p m (T l) a) (stp p n (U l) b) j := by
  unfold stp
  show Sg (m * n) _ % p = (Sg m (fun k => a k * T l k (j / n)) % p) * (Sg n (fun k => b k * U l k (j % n)) % p) % p
  exact Sg_pairs hm hn fun i q i0 i1 q0 q1 => by
    obtain ⟨d1, d2⟩ := div_at (i := i) q0 q1
    show (a ((i * n + q) / n) * b ((i * n + q) % n) % p) * (T l ((i * n + q) / n) (j / n) * U l ((i * n + q) % n) (j % n) % p) % p = _
    rw [d1, d2, mm4]
theorem rb_kr {m n : Int} {T U : Int → Int → Int → Int} (hm : 0 ≤ m) (hn : 0 ≤ n) : ∀ {w : List Int} {a b : Int → Int} (i : Int), 0 ≤ i → i < m * n → rb p (m * n) (krT p n T U) w (kr p n a b) i = kr p n (rb p m T w a) (rb p n U w b) i
  | [], _, _, _, _, _ => rfl
  | l :: w, a, b, i, h0, h1 => by
    show rb p (m * n) (krT p n T U) w (stp p (m * n) (krT p n T U l) (kr p n a b)) i = _
    rw [rb_congr (b := kr p n (stp p m (T l) a) (stp p n (U l) b)) (fun k _ _ => stp_kr hm hn) (fun _ _ _ _ _ _ _ => rfl) i h0 h1]
    exact rb_kr hm hn i h0 h1
theorem wt_times {m n : Int} {T U : Int → Int → Int → Int} {a b z y : Int → Int} {w : List Int} (hm : 0 ≤ m) (hn : 0 ≤ n) : wt p (m * n) (kr p n a b) (krT p n T U) (kr p n z y) w = wt p m a T z w * wt p n b U y w % p := by
  unfold wt
  exact Sg_pairs hm hn fun i q i0 i1 q0 q1 => by
    obtain ⟨d1, d2⟩ := div_at (i := i) q0 q1
    have hlt : i * n + q < m * n := by
      have := Int.mul_le_mul_of_nonneg_right (show i + 1 ≤ m by omega) hn
      rw [Int.add_mul, Int.one_mul] at this
      omega
    rw [rb_kr hm hn _ (by have := Int.mul_nonneg i0 hn; omega) hlt]
    show (rb p m T w a ((i * n + q) / n) * rb p n U w b ((i * n + q) % n) % p) * (z ((i * n + q) / n) * y ((i * n + q) % n) % p) % p = _
    rw [d1, d2, mm4]
end
end Gd

namespace Gd
open PySem
/-! ### lists put behind each other -/
theorem rmap_congr {α : Type} {n : Int} {F G : Int → α} (h : ∀ i, 0 ≤ i → i < n → F i = G i) : (rng 0 n).map F = (rng 0 n).map G := by
  apply List.map_congr_left
  intro a ha
  obtain ⟨q0, q1⟩ := mem_rng.mp ha
  exact h a q0 q1
theorem rcat {α : Type} {m n : Int} {F G : Int → α} (hm : 0 ≤ m) (hn : 0 ≤ n) : (rng 0 m).map F ++ (rng 0 n).map G = (rng 0 (m + n)).map fun i => if i < m then F i else G (i - m) := by
  refine Sg_ind (P := fun n => (rng 0 m).map F ++ (rng 0 n).map G = (rng 0 (m + n)).map fun i => if i < m then F i else G (i - m)) ?_ (fun k hk ih => ?_) hn
  · rw [rng_nil (Int.le_refl 0), List.map_nil, List.append_nil, Int.add_zero]
    exact rmap_congr fun i _ h1 => (if_pos h1).symm
  · rw [rng_snoc hk, List.map_append, ← List.append_assoc, ih, ← Int.add_assoc, rng_snoc (by omega), List.map_append]
    congr 1
    show [G k] = [if m + k < m then F (m + k) else G (m + k - m)]
    rw [if_neg (by omega), show m + k - m = k by omega]
theorem rrows {α : Type} {k n : Int} {G : Int → Int → α} (hk : 0 ≤ k) (hn : 0 ≤ n) : ((rng 0 (k * n)).map fun i => G (i / n) (i % n)) ++ (rng 0 n).map (G k) = (rng 0 ((k + 1) * n)).map fun i => G (i / n) (i % n) := by
  rw [rcat (Int.mul_nonneg hk hn) hn, Int.add_mul, Int.one_mul]
  refine rmap_congr fun i i0 i1 => ?_
  split
  · rfl
  · rename_i h
    obtain ⟨d1, d2⟩ := div_at (i := k) (n := n) (q := i - k * n) (by omega) (by omega)
    rw [show k * n + (i - k * n) = i by omega] at d1 d2
    rw [d1, d2]
theorem vec_cat {m n : Int} {f g : Int → Int} (hm : 0 ≤ m) (hn : 0 ≤ n) : vec m f ++ vec n g = vec (m + n) (jn m f g) := rcat hm hn
theorem catR_vec {m n : Int} {f g : Int → Int} (hm : 0 ≤ m) (hn : 0 ≤ n) (h1 : m ≤ 1000) (h2 : n ≤ 1000) : catR (vec m f) (vec n g) = .ok (vec (m + n) (jn m f g)) := by
  rw [catR_ok (by rw [vec_len, vec_len]; omega), vec_cat hm hn]
section
variable {p : Int}
theorem crossed_eq {m n : Int} {f g : Int → Int} (hp : 0 < p) (hp2 : p ≤ 1000000000000000000) (hm : 0 ≤ m) (hm2 : m ≤ 100) (hn : 0 ≤ n) (hn2 : n ≤ 100) (hf : Bd p m f) : f_crossed_row p (vec m f) (vec n g) = .ok (vec (m * n) (kr p n f g)) := by
  rw [f_crossed_row_eq]
  unfold m_crossed_row
  simp only [Rs.bind_ok, Rs.b2_ok, Rs.b3_ok, Rs.pr_ok, Rs.cs_ok, Rs.an_ok, Rs.or_ok, Rs.nt_ok, Rs.noEx_ok, Rs.ite_ok, Rs.an_t, Rs.an_f, Rs.or_t, Rs.or_f, Rs.op_some, cutR_eq, thn_nx, thn_rt, Rs.bind_ex, Rs.tryR_ok, Rs.tryR_ex]
  refine forL (P := fun r => r = _) (fun i s => s = vec ((i : Int) * n) (kr p n f g)) ?_ (fun i x s hx hs => ?_) (fun s hs => ?_)
  · show [] = vec ((0 : Nat) * n) _
    unfold vec
    rw [show ((0 : Nat) : Int) * n = 0 by simp, rng_nil (Int.le_refl 0)]
    rfl
  · have hi := (List.getElem?_eq_some_iff.mp hx).1
    rw [vec_len] at hi
    have hxe : x = f i := by
      have := gi_nat hx
      rw [gi_vec (by omega) (by omega)] at this
      exact this.symm
    have hb := hf i (by omega) (by omega)
    subst hs
    rw [mapR_ok (g := fun y => f i * y % p) fun y _ => by
      rw [hxe, mulR_l (by omega)]
      simp only [Rs.bind_ok, Rs.b2_ok, Rs.b3_ok, Rs.pr_ok, Rs.cs_ok, Rs.an_ok, Rs.or_ok, Rs.nt_ok, Rs.noEx_ok, Rs.ite_ok, Rs.an_t, Rs.an_f, Rs.or_t, Rs.or_f, Rs.op_some, cutR_eq, thn_nx, thn_rt, Rs.bind_ex, Rs.tryR_ok, Rs.tryR_ex, modR_ok hp]]
    simp only [Rs.bind_ok, Rs.b2_ok, Rs.b3_ok, Rs.pr_ok, Rs.cs_ok, Rs.an_ok, Rs.or_ok, Rs.nt_ok, Rs.noEx_ok, Rs.ite_ok, Rs.an_t, Rs.an_f, Rs.or_t, Rs.or_f, Rs.op_some, cutR_eq, thn_nx, thn_rt, Rs.bind_ex, Rs.tryR_ok, Rs.tryR_ex]
    have e : (vec n g).map (fun y => f i * y % p) = (rng 0 n).map (fun j => f i * g j % p) := by
      unfold vec
      rw [List.map_map]
      rfl
    have hin : (i : Int) * n ≤ 100 * 100 := Int.mul_le_mul (by omega) hn2 hn (by omega)
    rw [e, catR_ok (by rw [vec_len, rmap_len]; omega)]
    refine ⟨_, rfl, ?_⟩
    show _ = vec (((i + 1 : Nat) : Int) * n) (kr p n f g)
    rw [show ((i + 1 : Nat) : Int) = (i : Int) + 1 by omega]
    exact rrows (G := fun a b => f a * g b % p) (by omega) hn
  · subst hs
    rw [vec_len, Int.toNat_of_nonneg hm]
theorem cross_eq {m n : Int} {f g : Int → Int} (hp : 0 < p) (hp2 : p ≤ 1000000000000000000) (hm : 0 ≤ m) (hm2 : m ≤ 100) (hn : 0 ≤ n) (hn2 : n ≤ 100) (hf : Bd p m f) : f__law_cross p (vec m f) (vec n g) = .ok (vec (m * n) (kr p n f g)) := by
  have hmn : m * n ≤ 100 * 100 := Int.mul_le_mul hm2 hn2 hn (by omega)
  have hmn0 := Int.mul_nonneg hm hn
  rw [f__law_cross_eq]
  unfold m__law_cross
  simp only [Rs.bind_ok, Rs.b2_ok, Rs.b3_ok, Rs.pr_ok, Rs.cs_ok, Rs.an_ok, Rs.or_ok, Rs.nt_ok, Rs.noEx_ok, Rs.ite_ok, Rs.an_t, Rs.an_f, Rs.or_t, Rs.or_f, Rs.op_some, cutR_eq, thn_nx, thn_rt, Rs.bind_ex, Rs.tryR_ok, Rs.tryR_ex, vec_len]
  rw [Int.toNat_of_nonneg hm, Int.toNat_of_nonneg hn, mulR_l (by omega)]
  simp only [Rs.bind_ok, Rs.b2_ok, Rs.b3_ok, Rs.pr_ok, Rs.cs_ok, Rs.an_ok, Rs.or_ok, Rs.nt_ok, Rs.noEx_ok, Rs.ite_ok, Rs.an_t, Rs.an_f, Rs.or_t, Rs.or_f, Rs.op_some, cutR_eq, thn_nx, thn_rt, Rs.bind_ex, Rs.tryR_ok, Rs.tryR_ex]
  rw [rngR_small (by omega) (by omega) (by omega) (by omega)]
  simp only [Rs.bind_ok, Rs.b2_ok, Rs.b3_ok, Rs.pr_ok, Rs.cs_ok, Rs.an_ok, Rs.or_ok, Rs.nt_ok, Rs.noEx_ok, Rs.ite_ok, Rs.an_t, Rs.an_f, Rs.or_t, Rs.or_f, Rs.op_some, cutR_eq, thn_nx, thn_rt, Rs.bind_ex, Rs.tryR_ok, Rs.tryR_ex]
  rw [mapR_ok (g := kr p n f g) fun x hx => by
    obtain ⟨q0, q1⟩ := mem_rng.mp hx
    have hn1 : 0 < n := by
      rcases Int.lt_or_eq_of_le hn with h | h
      · exact h
      · rw [← h, Int.mul_zero] at q1
        omega
    have d0 := Int.ediv_nonneg q0 hn
    have d1 : x / n < m := Int.ediv_lt_of_lt_mul hn1 q1
    have r0 := Int.emod_nonneg x (by omega : n ≠ 0)
    have r1 := Int.emod_lt_of_pos x hn1
    have hb := hf _ d0 d1
    rw [divR_ok (by omega), modR_ok hn1]
    simp only [Rs.bind_ok, Rs.b2_ok, Rs.b3_ok, Rs.pr_ok, Rs.cs_ok, Rs.an_ok, Rs.or_ok, Rs.nt_ok, Rs.noEx_ok, Rs.ite_ok, Rs.an_t, Rs.an_f, Rs.or_t, Rs.or_f, Rs.op_some, cutR_eq, thn_nx, thn_rt, Rs.bind_ex, Rs.tryR_ok, Rs.tryR_ex, pyIx_vec d0 d1, pyIx_vec r0 r1]
    rw [mulR_l (by omega)]
    simp only [Rs.bind_ok, Rs.b2_ok, Rs.b3_ok, Rs.pr_ok, Rs.cs_ok, Rs.an_ok, Rs.or_ok, Rs.nt_ok, Rs.noEx_ok, Rs.ite_ok, Rs.an_t, Rs.an_f, Rs.or_t, Rs.or_f, Rs.op_some, cutR_eq, thn_nx, thn_rt, Rs.bind_ex, Rs.tryR_ok, Rs.tryR_ex, modR_ok hp]
    rfl]
  rfl
end
end Gd

namespace Gd
open PySem
section
variable {p L m n : Int} {a b z y : Int → Int} {T U : Int → Int → Int → Int}
theorem like_eq : f_ask_like (hs p L m a T z) (hs p L n b U y) = .ok () := by
  rw [f_ask_like_eq]
  unfold m_ask_like hs
  simp
theorem zeros (hn : 0 ≤ n) (h2 : n ≤ 1000) : repT0R [(0 : Int)] n = .ok (vec n fun _ => 0) := by
  rw [repT0R_one ⟨hn, h2⟩, vec_rep]
theorem mat_map {α : Type} {k c : Int} {W : Int → Int → Int} {F : List Int → α} : (mat k c W).map F = (rng 0 k).map fun i => F (vec c (W i)) := by
  unfold mat
  rw [List.map_map]
  rfl
theorem mat_mem {k c : Int} {W : Int → Int → Int} {x : List Int} (h : x ∈ mat k c W) : ∃ i, 0 ≤ i ∧ i < k ∧ x = vec c (W i) := by
  obtain ⟨i, hi, rfl⟩ := List.mem_map.mp h
  obtain ⟨q0, q1⟩ := mem_rng.mp hi
  exact ⟨i, q0, q1, rfl⟩
/-- a table of both -/
theorem jn_tab (hm : 0 ≤ m) (hn : 0 ≤ n) (l : Int) : ((mat m m (T l)).map fun x => x ++ vec n (fun _ => 0)) ++ ((mat n n (U l)).map fun x => vec m (fun _ => 0) ++ x) = mat (m + n) (m + n) (jnT m T U l) := by
  rw [mat_map, mat_map, rcat hm hn]
  unfold mat
  refine rmap_congr fun i i0 i1 => ?_
  split
  · rename_i h
    rw [vec_cat hm hn]
    exact vec_congr fun j j0 j1 => by unfold jn jnT; rw [if_pos h]
  · rename_i h
    rw [vec_cat hm hn]
    exact vec_congr fun j j0 j1 => by unfold jn jnT; rw [if_neg h]
theorem joined_eq (hp : 0 < p) (hL : 0 ≤ L) (hL2 : L ≤ 100) (hm : 0 ≤ m) (hm2 : m ≤ 100) (hn : 0 ≤ n) (hn2 : n ≤ 100) : f_joined_sums (hs p L m a T z) (hs p L n b U y) = .ok (hs p L (m + n) (jn m a b) (jnT m T U) (jn m z fun i => (p - y i) % p)) := by
  rw [f_joined_sums_eq]
  unfold m_joined_sums hs
  simp only [Rs.bind_ok, Rs.b2_ok, Rs.b3_ok, Rs.pr_ok, Rs.cs_ok, Rs.an_ok, Rs.or_ok, Rs.nt_ok, Rs.noEx_ok, Rs.ite_ok, Rs.an_t, Rs.an_f, Rs.or_t, Rs.or_f, Rs.op_some, cutR_eq, thn_nx, thn_rt, Rs.bind_ex, Rs.tryR_ok, Rs.tryR_ex, vec_len]
  rw [Int.toNat_of_nonneg hm, Int.toNat_of_nonneg hn, zeros hm (by omega), zeros hn (by omega)]
  simp only [Rs.bind_ok, Rs.b2_ok, Rs.b3_ok, Rs.pr_ok, Rs.cs_ok, Rs.an_ok, Rs.or_ok, Rs.nt_ok, Rs.noEx_ok, Rs.ite_ok, Rs.an_t, Rs.an_f, Rs.or_t, Rs.or_f, Rs.op_some, cutR_eq, thn_nx, thn_rt, Rs.bind_ex, Rs.tryR_ok, Rs.tryR_ex]
  rw [rngR_small (by omega) (by omega) (by omega) (by omega)]
  simp only [Rs.bind_ok, Rs.b2_ok, Rs.b3_ok, Rs.pr_ok, Rs.cs_ok, Rs.an_ok, Rs.or_ok, Rs.nt_ok, Rs.noEx_ok, Rs.ite_ok, Rs.an_t, Rs.an_f, Rs.or_t, Rs.or_f, Rs.op_some, cutR_eq, thn_nx, thn_rt, Rs.bind_ex, Rs.tryR_ok, Rs.tryR_ex]
  refine forB (P := fun r => r = _) (fun i s => s = (rng 0 i).map (fun l => mat (m + n) (m + n) (jnT m T U l))) hL (by rw [rng_nil (Int.le_refl 0)]; rfl) (fun i s i0 i1 hs => ?_) (fun s hs => ?_)
  · subst hs
    rw [pyIx_tab i0 i1, pyIx_tab i0 i1]
    simp only [Rs.bind_ok, Rs.b2_ok, Rs.b3_ok, Rs.pr_ok, Rs.cs_ok, Rs.an_ok, Rs.or_ok, Rs.nt_ok, Rs.noEx_ok, Rs.ite_ok, Rs.an_t, Rs.an_f, Rs.or_t, Rs.or_f, Rs.op_some, cutR_eq, thn_nx, thn_rt, Rs.bind_ex, Rs.tryR_ok, Rs.tryR_ex]
    rw [mapR_ok (g := fun x => x ++ vec n (fun _ => 0)) fun x hx => by
      obtain ⟨k, k0, k1, rfl⟩ := mat_mem hx
      exact catR_ok (by rw [vec_len, vec_len]; omega)]
    simp only [Rs.bind_ok, Rs.b2_ok, Rs.b3_ok, Rs.pr_ok, Rs.cs_ok, Rs.an_ok, Rs.or_ok, Rs.nt_ok, Rs.noEx_ok, Rs.ite_ok, Rs.an_t, Rs.an_f, Rs.or_t, Rs.or_f, Rs.op_some, cutR_eq, thn_nx, thn_rt, Rs.bind_ex, Rs.tryR_ok, Rs.tryR_ex]
    rw [mapR_ok (g := fun x => vec m (fun _ => 0) ++ x) fun x hx => by
      obtain ⟨k, k0, k1, rfl⟩ := mat_mem hx
      exact catR_ok (by rw [vec_len, vec_len]; omega)]
    simp only [Rs.bind_ok, Rs.b2_ok, Rs.b3_ok, Rs.pr_ok, Rs.cs_ok, Rs.an_ok, Rs.or_ok, Rs.nt_ok, Rs.noEx_ok, Rs.ite_ok, Rs.an_t, Rs.an_f, Rs.or_t, Rs.or_f, Rs.op_some, cutR_eq, thn_nx, thn_rt, Rs.bind_ex, Rs.tryR_ok, Rs.tryR_ex]
    rw [catR_ok (by rw [List.length_map, List.length_map, mat_len, mat_len]; omega), jn_tab hm hn]
    simp only [Rs.bind_ok, Rs.b2_ok, Rs.b3_ok, Rs.pr_ok, Rs.cs_ok, Rs.an_ok, Rs.or_ok, Rs.nt_ok, Rs.noEx_ok, Rs.ite_ok, Rs.an_t, Rs.an_f, Rs.or_t, Rs.or_f, Rs.op_some, cutR_eq, thn_nx, thn_rt, Rs.bind_ex, Rs.tryR_ok, Rs.tryR_ex]
    rw [push_ok (by rw [rmap_len]; omega)]
    refine ⟨_, rfl, ?_⟩
    rw [rng_snoc i0, List.map_append]
    rfl
  · subst hs
    rw [mapR_ok (g := fun x => (p - x) % p) fun x _ => by simp only [Rs.bind_ok, Rs.b2_ok, Rs.b3_ok, Rs.pr_ok, Rs.cs_ok, Rs.an_ok, Rs.or_ok, Rs.nt_ok, Rs.noEx_ok, Rs.ite_ok, Rs.an_t, Rs.an_f, Rs.or_t, Rs.or_f, Rs.op_some, cutR_eq, thn_nx, thn_rt, Rs.bind_ex, Rs.tryR_ok, Rs.tryR_ex, modR_ok hp]]
    simp only [Rs.bind_ok, Rs.b2_ok, Rs.b3_ok, Rs.pr_ok, Rs.cs_ok, Rs.an_ok, Rs.or_ok, Rs.nt_ok, Rs.noEx_ok, Rs.ite_ok, Rs.an_t, Rs.an_f, Rs.or_t, Rs.or_f, Rs.op_some, cutR_eq, thn_nx, thn_rt, Rs.bind_ex, Rs.tryR_ok, Rs.tryR_ex]
    have e : (vec n y).map (fun x => (p - x) % p) = vec n (fun i => (p - y i) % p) := by
      unfold vec
      rw [List.map_map]
      rfl
    rw [e, catR_vec hm hn (by omega) (by omega), catR_vec hm hn (by omega) (by omega)]
    rfl
theorem less_eq (hp : 0 < p) (hL : 0 ≤ L) (hL2 : L ≤ 100) (hm : 0 ≤ m) (hn : 0 ≤ n) (h16 : m + n ≤ 16) : f_sums_less (hs p L m a T z) (hs p L n b U y) = .ok (hs p L (m + n) (jn m a b) (jnT m T U) (jn m z fun i => (p - y i) % p)) := by
  rw [f_sums_less_eq]
  unfold m_sums_less
  simp only [Rs.bind_ok, Rs.b2_ok, Rs.b3_ok, Rs.pr_ok, Rs.cs_ok, Rs.an_ok, Rs.or_ok, Rs.nt_ok, Rs.noEx_ok, Rs.ite_ok, Rs.an_t, Rs.an_f, Rs.or_t, Rs.or_f, Rs.op_some, cutR_eq, thn_nx, thn_rt, Rs.bind_ex, Rs.tryR_ok, Rs.tryR_ex, like_eq]
  rw [joined_eq hp hL hL2 hm (by omega) hn (by omega)]
  simp only [hs, vec_len, Rs.bind_ok, Rs.b2_ok, Rs.b3_ok, Rs.pr_ok, Rs.cs_ok, Rs.an_ok, Rs.or_ok, Rs.nt_ok, Rs.noEx_ok, Rs.ite_ok, Rs.an_t, Rs.an_f, Rs.or_t, Rs.or_f, Rs.op_some, cutR_eq, thn_nx, thn_rt, Rs.bind_ex, Rs.tryR_ok, Rs.tryR_ex]
  rw [Int.toNat_of_nonneg hm, Int.toNat_of_nonneg hn, if_neg (by simp; omega)]
theorem lawLess_eq (hp : 0 < p) (hL : 0 ≤ L) (hL2 : L ≤ 100) (hm : 0 ≤ m) (hm2 : m ≤ 100) (hn : 0 ≤ n) (hn2 : n ≤ 100) : f__law_less (hs p L m a T z) (hs p L n b U y) = .ok (hs p L (m + n) (jn m a b) (jnT m T U) (jn m z fun i => (p - y i) % p)) := by
  rw [f__law_less_eq]
  unfold m__law_less hs
  simp only [Rs.bind_ok, Rs.b2_ok, Rs.b3_ok, Rs.pr_ok, Rs.cs_ok, Rs.an_ok, Rs.or_ok, Rs.nt_ok, Rs.noEx_ok, Rs.ite_ok, Rs.an_t, Rs.an_f, Rs.or_t, Rs.or_f, Rs.op_some, cutR_eq, thn_nx, thn_rt, Rs.bind_ex, Rs.tryR_ok, Rs.tryR_ex, vec_len]
  rw [rngR_small (by omega) (by omega) (by omega) (by omega), Int.toNat_of_nonneg hm, Int.toNat_of_nonneg hn, zeros hm (by omega), zeros hn (by omega)]
  simp only [Rs.bind_ok, Rs.b2_ok, Rs.b3_ok, Rs.pr_ok, Rs.cs_ok, Rs.an_ok, Rs.or_ok, Rs.nt_ok, Rs.noEx_ok, Rs.ite_ok, Rs.an_t, Rs.an_f, Rs.or_t, Rs.or_f, Rs.op_some, cutR_eq, thn_nx, thn_rt, Rs.bind_ex, Rs.tryR_ok, Rs.tryR_ex]
  refine forB (P := fun r => r = _) (fun i s => s = (rng 0 i).map (fun l => mat (m + n) (m + n) (jnT m T U l))) hL (by rw [rng_nil (Int.le_refl 0)]; rfl) (fun i s i0 i1 hs => ?_) (fun s hs => ?_)
  · subst hs
    rw [pyIx_tab i0 i1, pyIx_tab i0 i1]
    simp only [Rs.bind_ok, Rs.b2_ok, Rs.b3_ok, Rs.pr_ok, Rs.cs_ok, Rs.an_ok, Rs.or_ok, Rs.nt_ok, Rs.noEx_ok, Rs.ite_ok, Rs.an_t, Rs.an_f, Rs.or_t, Rs.or_f, Rs.op_some, cutR_eq, thn_nx, thn_rt, Rs.bind_ex, Rs.tryR_ok, Rs.tryR_ex]
    rw [mapR_ok (g := fun x => x ++ vec n (fun _ => 0)) fun x hx => by
      obtain ⟨k, k0, k1, rfl⟩ := mat_mem hx
      exact catR_ok (by rw [vec_len, vec_len]; omega)]
    simp only [Rs.bind_ok, Rs.b2_ok, Rs.b3_ok, Rs.pr_ok, Rs.cs_ok, Rs.an_ok, Rs.or_ok, Rs.nt_ok, Rs.noEx_ok, Rs.ite_ok, Rs.an_t, Rs.an_f, Rs.or_t, Rs.or_f, Rs.op_some, cutR_eq, thn_nx, thn_rt, Rs.bind_ex, Rs.tryR_ok, Rs.tryR_ex]
    rw [mapR_ok (g := fun x => vec m (fun _ => 0) ++ x) fun x hx => by
      obtain ⟨k, k0, k1, rfl⟩ := mat_mem hx
      exact catR_ok (by rw [vec_len, vec_len]; omega)]
    simp only [Rs.bind_ok, Rs.b2_ok, Rs.b3_ok, Rs.pr_ok, Rs.cs_ok, Rs.an_ok, Rs.or_ok, Rs.nt_ok, Rs.noEx_ok, Rs.ite_ok, Rs.an_t, Rs.an_f, Rs.or_t, Rs.or_f, Rs.op_some, cutR_eq, thn_nx, thn_rt, Rs.bind_ex, Rs.tryR_ok, Rs.tryR_ex]
    rw [catR_ok (by rw [List.length_map, List.length_map, mat_len, mat_len]; omega), jn_tab hm hn]
    simp only [Rs.bind_ok, Rs.b2_ok, Rs.b3_ok, Rs.pr_ok, Rs.cs_ok, Rs.an_ok, Rs.or_ok, Rs.nt_ok, Rs.noEx_ok, Rs.ite_ok, Rs.an_t, Rs.an_f, Rs.or_t, Rs.or_f, Rs.op_some, cutR_eq, thn_nx, thn_rt, Rs.bind_ex, Rs.tryR_ok, Rs.tryR_ex]
    rw [push_ok (by rw [rmap_len]; omega)]
    refine ⟨_, rfl, ?_⟩
    rw [rng_snoc i0, List.map_append]
    rfl
  · subst hs
    rw [mapR_ok (g := fun x => (p - x) % p) fun x _ => by
      simp only [Rs.bind_ok, Rs.b2_ok, Rs.b3_ok, Rs.pr_ok, Rs.cs_ok, Rs.an_ok, Rs.or_ok, Rs.nt_ok, Rs.noEx_ok, Rs.ite_ok, Rs.an_t, Rs.an_f, Rs.or_t, Rs.or_f, Rs.op_some, cutR_eq, thn_nx, thn_rt, Rs.bind_ex, Rs.tryR_ok, Rs.tryR_ex, modR_ok hp]
      rw [show p - x = -x + p by omega, Int.add_emod (-x) p p, Int.emod_self, Int.add_zero, Int.emod_emod_of_dvd _ (Int.dvd_refl p)]]
    simp only [Rs.bind_ok, Rs.b2_ok, Rs.b3_ok, Rs.pr_ok, Rs.cs_ok, Rs.an_ok, Rs.or_ok, Rs.nt_ok, Rs.noEx_ok, Rs.ite_ok, Rs.an_t, Rs.an_f, Rs.or_t, Rs.or_f, Rs.op_some, cutR_eq, thn_nx, thn_rt, Rs.bind_ex, Rs.tryR_ok, Rs.tryR_ex]
    have e : (vec n y).map (fun x => (p - x) % p) = vec n (fun i => (p - y i) % p) := by
      unfold vec
      rw [List.map_map]
      rfl
    rw [e, catR_vec hm hn (by omega) (by omega), catR_vec hm hn (by omega) (by omega)]
    rfl
/-! back -/
theorem column_eq {W : Int → Int → Int} {j : Int} (j0 : 0 ≤ j) (j1 : j < m) : f_table_column (mat m m W) j = .ok (vec m fun i => W i j) := by
  rw [f_table_column_eq]
  unfold m_table_column
  simp only [Rs.bind_ok, Rs.b2_ok, Rs.b3_ok, Rs.pr_ok, Rs.cs_ok, Rs.an_ok, Rs.or_ok, Rs.nt_ok, Rs.noEx_ok, Rs.ite_ok, Rs.an_t, Rs.an_f, Rs.or_t, Rs.or_f, Rs.op_some, cutR_eq, thn_nx, thn_rt, Rs.bind_ex, Rs.tryR_ok, Rs.tryR_ex]
  rw [mapR_ok (g := fun x => gi x j) fun x hx => by
    obtain ⟨k, k0, k1, rfl⟩ := mat_mem hx
    rw [pyIx_vec j0 j1, gi_vec j0 j1], mat_map]
  exact congrArg _ (rmap_congr fun i _ _ => gi_vec j0 j1)
theorem back_eq (hL : 0 ≤ L) (hL2 : L ≤ 100) (hm : 0 ≤ m) (hm2 : m ≤ 100) : f_sums_back (hs p L m a T z) = .ok (hs p L m z (fun l i j => T l j i) a) := by
  rw [f_sums_back_eq]
  unfold m_sums_back hs
  simp only [Rs.bind_ok, Rs.b2_ok, Rs.b3_ok, Rs.pr_ok, Rs.cs_ok, Rs.an_ok, Rs.or_ok, Rs.nt_ok, Rs.noEx_ok, Rs.ite_ok, Rs.an_t, Rs.an_f, Rs.or_t, Rs.or_f, Rs.op_some, cutR_eq, thn_nx, thn_rt, Rs.bind_ex, Rs.tryR_ok, Rs.tryR_ex]
  refine forL (P := fun r => r = _) (fun i s => s = (rng 0 (i : Int)).map (fun l => mat m m (fun i j => T l j i))) (by rw [show ((0 : Nat) : Int) = 0 from rfl, rng_nil (Int.le_refl 0)]; rfl) (fun i x s hx hs => ?_) (fun s hs => ?_)
  · have hi := (List.getElem?_eq_some_iff.mp hx).1
    rw [rmap_len] at hi
    have hxe : x = mat m m (T i) := by
      have := gi_nat hx
      rw [gi_rmap (by omega) (by omega)] at this
      exact this.symm
    subst hs hxe
    simp only [mat_len]
    rw [Int.toNat_of_nonneg hm, rngR_small (by omega) (by omega) (by omega) (by omega)]
    simp only [Rs.bind_ok, Rs.b2_ok, Rs.b3_ok, Rs.pr_ok, Rs.cs_ok, Rs.an_ok, Rs.or_ok, Rs.nt_ok, Rs.noEx_ok, Rs.ite_ok, Rs.an_t, Rs.an_f, Rs.or_t, Rs.or_f, Rs.op_some, cutR_eq, thn_nx, thn_rt, Rs.bind_ex, Rs.tryR_ok, Rs.tryR_ex]
    rw [mapR_ok (g := fun j => vec m fun k => T i k j) fun j hj => by
      obtain ⟨q0, q1⟩ := mem_rng.mp hj
      rw [column_eq q0 q1]
      rfl]
    simp only [Rs.bind_ok, Rs.b2_ok, Rs.b3_ok, Rs.pr_ok, Rs.cs_ok, Rs.an_ok, Rs.or_ok, Rs.nt_ok, Rs.noEx_ok, Rs.ite_ok, Rs.an_t, Rs.an_f, Rs.or_t, Rs.or_f, Rs.op_some, cutR_eq, thn_nx, thn_rt, Rs.bind_ex, Rs.tryR_ok, Rs.tryR_ex]
    rw [push_ok (by rw [rmap_len]; omega)]
    refine ⟨_, rfl, ?_⟩
    rw [show ((i + 1 : Nat) : Int) = (i : Int) + 1 by omega, rng_snoc (by omega), List.map_append]
    rfl
  · subst hs
    rw [rmap_len, Int.toNat_of_nonneg (by omega)]
theorem lawBack_eq (hL : 0 ≤ L) (hL2 : L ≤ 100) (hm : 0 ≤ m) (hm2 : m ≤ 100) : f__law_back (hs p L m a T z) = .ok (hs p L m z (fun l i j => T l j i) a) := by
  rw [f__law_back_eq]
  unfold m__law_back hs
  simp only [Rs.bind_ok, Rs.b2_ok, Rs.b3_ok, Rs.pr_ok, Rs.cs_ok, Rs.an_ok, Rs.or_ok, Rs.nt_ok, Rs.noEx_ok, Rs.ite_ok, Rs.an_t, Rs.an_f, Rs.or_t, Rs.or_f, Rs.op_some, cutR_eq, thn_nx, thn_rt, Rs.bind_ex, Rs.tryR_ok, Rs.tryR_ex]
  refine forL (P := fun r => r = _) (fun i s => s = (rng 0 (i : Int)).map (fun l => mat m m (fun i j => T l j i))) (by rw [show ((0 : Nat) : Int) = 0 from rfl, rng_nil (Int.le_refl 0)]; rfl) (fun i x s hx hs => ?_) (fun s hs => ?_)
  · have hi := (List.getElem?_eq_some_iff.mp hx).1
    rw [rmap_len] at hi
    have hxe : x = mat m m (T i) := by
      have := gi_nat hx
      rw [gi_rmap (by omega) (by omega)] at this
      exact this.symm
    subst hs hxe
    simp only [mat_len]
    rw [Int.toNat_of_nonneg hm, rngR_small (by omega) (by omega) (by omega) (by omega)]
    simp only [Rs.bind_ok, Rs.b2_ok, Rs.b3_ok, Rs.pr_ok, Rs.cs_ok, Rs.an_ok, Rs.or_ok, Rs.nt_ok, Rs.noEx_ok, Rs.ite_ok, Rs.an_t, Rs.an_f, Rs.or_t, Rs.or_f, Rs.op_some, cutR_eq, thn_nx, thn_rt, Rs.bind_ex, Rs.tryR_ok, Rs.tryR_ex]
    refine forB (P := fun r : Rs (List (List (List Int))) => ∃ s', r = .ok s' ∧ s' = (rng 0 ((i + 1 : Nat) : Int)).map (fun l => mat m m fun i j => T l j i)) (fun j (s : List (List Int)) => s = (rng 0 j).map fun j => vec m fun k => T i k j) hm (by rw [rng_nil (Int.le_refl 0)]; rfl) (fun j s j0 j1 hs => ?_) (fun s hs => ?_)
    · subst hs
      rw [mapR_ok (g := fun x => gi x j) fun x hx => by
        obtain ⟨k, k0, k1, rfl⟩ := mat_mem hx
        rw [pyIx_vec j0 j1, gi_vec j0 j1], mat_map, rmap_congr (G := fun k => T i k j) fun k _ _ => gi_vec j0 j1]
      simp only [Rs.bind_ok, Rs.b2_ok, Rs.b3_ok, Rs.pr_ok, Rs.cs_ok, Rs.an_ok, Rs.or_ok, Rs.nt_ok, Rs.noEx_ok, Rs.ite_ok, Rs.an_t, Rs.an_f, Rs.or_t, Rs.or_f, Rs.op_some, cutR_eq, thn_nx, thn_rt, Rs.bind_ex, Rs.tryR_ok, Rs.tryR_ex]
      rw [push_ok (by rw [rmap_len]; omega)]
      refine ⟨_, rfl, ?_⟩
      rw [rng_snoc j0, List.map_append]
      rfl
    · subst hs
      rw [push_ok (by rw [rmap_len]; omega)]
      refine ⟨_, rfl, ?_⟩
      rw [show ((i + 1 : Nat) : Int) = (i : Int) + 1 by omega, rng_snoc (by omega), List.map_append]
      rfl
  · subst hs
    rw [rmap_len, Int.toNat_of_nonneg (by omega)]
end
end Gd

namespace Gd
open PySem
theorem whole_eq (x : Int) : f__law_whole x = .ok true := f__law_whole_eq x
theorem row_refl {a : List Int} (h : a.length ≤ 100000) : f__law_row_is a a = .ok true := by
  rw [f__law_row_is_eq]
  unfold m__law_row_is
  simp only [Rs.bind_ok, Rs.b2_ok, Rs.b3_ok, Rs.pr_ok, Rs.cs_ok, Rs.an_ok, Rs.or_ok, Rs.nt_ok, Rs.noEx_ok, Rs.ite_ok, Rs.an_t, Rs.an_f, Rs.or_t, Rs.or_f, Rs.op_some, cutR_eq, thn_nx, thn_rt, Rs.bind_ex, Rs.tryR_ok, Rs.tryR_ex]
  rw [rngR_small (by omega) (by omega) (by omega) (by omega)]
  simp only [Rs.bind_ok, Rs.b2_ok, Rs.b3_ok, Rs.pr_ok, Rs.cs_ok, Rs.an_ok, Rs.or_ok, Rs.nt_ok, Rs.noEx_ok, Rs.ite_ok, Rs.an_t, Rs.an_f, Rs.or_t, Rs.or_f, Rs.op_some, cutR_eq, thn_nx, thn_rt, Rs.bind_ex, Rs.tryR_ok, Rs.tryR_ex]
  rw [forF_go fun x hx => by
    obtain ⟨q0, q1⟩ := mem_rng.mp hx
    rw [pyIx_gi q0 q1]
    simp [whole_eq]]
  simp
section
variable {p L m n : Int} {a b z y : Int → Int} {T U : Int → Int → Int → Int}
theorem is_refl (hL : 0 ≤ L) (hL2 : L ≤ 100) (hm : 0 ≤ m) (hm2 : m ≤ 1000) : f__law_house_is (hs p L m a T z) (hs p L m a T z) = .ok true := by
  rw [f__law_house_is_eq]
  unfold m__law_house_is hs
  simp only [Rs.bind_ok, Rs.b2_ok, Rs.b3_ok, Rs.pr_ok, Rs.cs_ok, Rs.an_ok, Rs.or_ok, Rs.nt_ok, Rs.noEx_ok, Rs.ite_ok, Rs.an_t, Rs.an_f, Rs.or_t, Rs.or_f, Rs.op_some, cutR_eq, thn_nx, thn_rt, Rs.bind_ex, Rs.tryR_ok, Rs.tryR_ex]
  rw [row_refl (by simp), row_refl (by rw [vec_len]; omega), row_refl (by rw [vec_len]; omega)]
  simp only [Rs.bind_ok, Rs.b2_ok, Rs.b3_ok, Rs.pr_ok, Rs.cs_ok, Rs.an_ok, Rs.or_ok, Rs.nt_ok, Rs.noEx_ok, Rs.ite_ok, Rs.an_t, Rs.an_f, Rs.or_t, Rs.or_f, Rs.op_some, cutR_eq, thn_nx, thn_rt, Rs.bind_ex, Rs.tryR_ok, Rs.tryR_ex, rmap_len]
  rw [rngR_small (by omega) (by omega) (by omega) (by omega)]
  simp only [Rs.bind_ok, Rs.b2_ok, Rs.b3_ok, Rs.pr_ok, Rs.cs_ok, Rs.an_ok, Rs.or_ok, Rs.nt_ok, Rs.noEx_ok, Rs.ite_ok, Rs.an_t, Rs.an_f, Rs.or_t, Rs.or_f, Rs.op_some, cutR_eq, thn_nx, thn_rt, Rs.bind_ex, Rs.tryR_ok, Rs.tryR_ex]
  rw [forF_go fun l hl => by
    obtain ⟨q0, q1⟩ := mem_rng.mp hl
    rw [pyIx_tab q0 (by omega)]
    simp only [Rs.bind_ok, Rs.b2_ok, Rs.b3_ok, Rs.pr_ok, Rs.cs_ok, Rs.an_ok, Rs.or_ok, Rs.nt_ok, Rs.noEx_ok, Rs.ite_ok, Rs.an_t, Rs.an_f, Rs.or_t, Rs.or_f, Rs.op_some, cutR_eq, thn_nx, thn_rt, Rs.bind_ex, Rs.tryR_ok, Rs.tryR_ex, mat_len]
    rw [rngR_small (by omega) (by omega) (by omega) (by omega)]
    simp only [Rs.bind_ok, Rs.b2_ok, Rs.b3_ok, Rs.pr_ok, Rs.cs_ok, Rs.an_ok, Rs.or_ok, Rs.nt_ok, Rs.noEx_ok, Rs.ite_ok, Rs.an_t, Rs.an_f, Rs.or_t, Rs.or_f, Rs.op_some, cutR_eq, thn_nx, thn_rt, Rs.bind_ex, Rs.tryR_ok, Rs.tryR_ex]
    rw [forF_go fun k hk => by
      obtain ⟨p0, p1⟩ := mem_rng.mp hk
      rw [pyIx_mat p0 (by omega)]
      simp only [Rs.bind_ok, Rs.b2_ok, Rs.b3_ok, Rs.pr_ok, Rs.cs_ok, Rs.an_ok, Rs.or_ok, Rs.nt_ok, Rs.noEx_ok, Rs.ite_ok, Rs.an_t, Rs.an_f, Rs.or_t, Rs.or_f, Rs.op_some, cutR_eq, thn_nx, thn_rt, Rs.bind_ex, Rs.tryR_ok, Rs.tryR_ex]
      rw [row_refl (by rw [vec_len]; omega)]
      simp]
    simp]
  simp
theorem times_h (hp : 0 < p) (hp2 : p ≤ 1000000000000000000) (hL : 0 ≤ L) (hL2 : L ≤ 100) (hm : 0 ≤ m) (hm2 : m ≤ 100) (hn : 0 ≤ n) (hn2 : n ≤ 100) (h16 : m * n ≤ 16) (ha : Bd p m a) (hz : Bd p m z) (hT : ∀ l i, 0 ≤ l → l < L → 0 ≤ i → i < m → Bd p m (T l i)) : f_sums_times (hs p L m a T z) (hs p L n b U y) = .ok (hs p L (m * n) (kr p n a b) (krT p n T U) (kr p n z y)) := by
  have hmn := Int.mul_nonneg hm hn
  rw [f_sums_times_eq]
  unfold m_sums_times
  simp only [Rs.bind_ok, Rs.b2_ok, Rs.b3_ok, Rs.pr_ok, Rs.cs_ok, Rs.an_ok, Rs.or_ok, Rs.nt_ok, Rs.noEx_ok, Rs.ite_ok, Rs.an_t, Rs.an_f, Rs.or_t, Rs.or_f, Rs.op_some, cutR_eq, thn_nx, thn_rt, Rs.bind_ex, Rs.tryR_ok, Rs.tryR_ex, like_eq]
  simp only [hs, vec_len, Rs.bind_ok, Rs.b2_ok, Rs.b3_ok, Rs.pr_ok, Rs.cs_ok, Rs.an_ok, Rs.or_ok, Rs.nt_ok, Rs.noEx_ok, Rs.ite_ok, Rs.an_t, Rs.an_f, Rs.or_t, Rs.or_f, Rs.op_some, cutR_eq, thn_nx, thn_rt, Rs.bind_ex, Rs.tryR_ok, Rs.tryR_ex]
  rw [Int.toNat_of_nonneg hm, Int.toNat_of_nonneg hn, mulR_l (by omega)]
  simp only [Rs.bind_ok, Rs.b2_ok, Rs.b3_ok, Rs.pr_ok, Rs.cs_ok, Rs.an_ok, Rs.or_ok, Rs.nt_ok, Rs.noEx_ok, Rs.ite_ok, Rs.an_t, Rs.an_f, Rs.or_t, Rs.or_f, Rs.op_some, cutR_eq, thn_nx, thn_rt, Rs.bind_ex, Rs.tryR_ok, Rs.tryR_ex]
  rw [if_neg (by simp; omega), rngR_small (by omega) (by omega) (by omega) (by omega)]
  simp only [Rs.bind_ok, Rs.b2_ok, Rs.b3_ok, Rs.pr_ok, Rs.cs_ok, Rs.an_ok, Rs.or_ok, Rs.nt_ok, Rs.noEx_ok, Rs.ite_ok, Rs.an_t, Rs.an_f, Rs.or_t, Rs.or_f, Rs.op_some, cutR_eq, thn_nx, thn_rt, Rs.bind_ex, Rs.tryR_ok, Rs.tryR_ex]
  refine forB (P := fun r => r = _) (fun i s => s = (rng 0 i).map (fun l => mat (m * n) (m * n) (krT p n T U l))) hL (by rw [rng_nil (Int.le_refl 0)]; rfl) (fun i s i0 i1 hs => ?_) (fun s hs => ?_)
  · subst hs
    simp only [pyIx_tab i0 i1, Rs.bind_ok, Rs.b2_ok, Rs.b3_ok, Rs.pr_ok, Rs.cs_ok, Rs.an_ok, Rs.or_ok, Rs.nt_ok, Rs.noEx_ok, Rs.ite_ok, Rs.an_t, Rs.an_f, Rs.or_t, Rs.or_f, Rs.op_some, cutR_eq, thn_nx, thn_rt, Rs.bind_ex, Rs.tryR_ok, Rs.tryR_ex]
    refine forL (P := fun r : Rs (List (List (List Int))) => ∃ s', r = .ok s' ∧ s' = (rng 0 (i + 1)).map (fun l => mat (m * n) (m * n) (krT p n T U l))) (fun k (s : List (List Int)) => s = (rng 0 ((k : Int) * n)).map fun j => vec (m * n) (kr p n (T i (j / n)) (U i (j % n)))) (by rw [show ((0 : Nat) : Int) * n = 0 by simp, rng_nil (Int.le_refl 0)]; rfl) (fun k x s hx hs => ?_) (fun s hs => ?_)
    · have hk := (List.getElem?_eq_some_iff.mp hx).1
      rw [mat_len] at hk
      have hxe : x = vec m (T i k) := by
        have := gi_nat hx
        unfold mat at this
        rw [gi_rmap (by omega) (by omega)] at this
        exact this.symm
      subst hs hxe
      rw [mapR_ok (g := fun x => vec (m * n) (kr p n (T i k) (gi x))) fun x hx => by
        obtain ⟨q, q0, q1, rfl⟩ := mat_mem hx
        rw [crossed_eq hp hp2 hm hm2 hn hn2 (hT i k i0 i1 (by omega) (by omega))]
        simp only [Rs.bind_ok, Rs.b2_ok, Rs.b3_ok, Rs.pr_ok, Rs.cs_ok, Rs.an_ok, Rs.or_ok, Rs.nt_ok, Rs.noEx_ok, Rs.ite_ok, Rs.an_t, Rs.an_f, Rs.or_t, Rs.or_f, Rs.op_some, cutR_eq, thn_nx, thn_rt, Rs.bind_ex, Rs.tryR_ok, Rs.tryR_ex]
        congr 1
        refine vec_congr fun j j0 j1 => ?_
        have hn1 : 0 < n := by
          rcases Int.lt_or_eq_of_le hn with h | h
          · exact h
          · rw [← h, Int.mul_zero] at j1
            omega
        show T i k (j / n) * U i q (j % n) % p = T i k (j / n) * gi (vec n (U i q)) (j % n) % p
        rw [gi_vec (Int.emod_nonneg _ (by omega)) (Int.emod_lt_of_pos _ hn1)]]
      have e : (mat n n (U i)).map (fun x => vec (m * n) (kr p n (T i k) (gi x))) = (rng 0 n).map (fun q => vec (m * n) (kr p n (T i k) (U i q))) := by
        rw [mat_map]
        refine rmap_congr fun q q0 q1 => vec_congr fun j j0 j1 => ?_
        show T i k (j / n) * gi (vec n (U i q)) (j % n) % p = T i k (j / n) * U i q (j % n) % p
        rw [gi_vec (Int.emod_nonneg _ (by omega)) (Int.emod_lt_of_pos _ (by omega))]
      have hin : (k : Int) * n ≤ 100 * 100 := Int.mul_le_mul (by omega) hn2 hn (by omega)
      simp only [Rs.bind_ok, Rs.b2_ok, Rs.b3_ok, Rs.pr_ok, Rs.cs_ok, Rs.an_ok, Rs.or_ok, Rs.nt_ok, Rs.noEx_ok, Rs.ite_ok, Rs.an_t, Rs.an_f, Rs.or_t, Rs.or_f, Rs.op_some, cutR_eq, thn_nx, thn_rt, Rs.bind_ex, Rs.tryR_ok, Rs.tryR_ex]
      rw [e, catR_ok (by rw [rmap_len, rmap_len]; omega)]
      refine ⟨_, rfl, ?_⟩
      rw [show ((k + 1 : Nat) : Int) = (k : Int) + 1 by omega]
      exact rrows (G := fun c d => vec (m * n) (kr p n (T i c) (U i d))) (by omega) hn
    · subst hs
      rw [push_ok (by rw [rmap_len]; omega)]
      refine ⟨_, rfl, ?_⟩
      rw [rng_snoc i0, List.map_append, mat_len, Int.toNat_of_nonneg hm]
      rfl
  · subst hs
    rw [crossed_eq hp hp2 hm hm2 hn hn2 ha, crossed_eq hp hp2 hm hm2 hn hn2 hz]
    rfl
theorem lawTimes_eq (hp : 0 < p) (hp2 : p ≤ 1000000000000000000) (hL : 0 ≤ L) (hL2 : L ≤ 100) (hm : 0 ≤ m) (hm2 : m ≤ 100) (hn : 0 ≤ n) (hn2 : n ≤ 100) (ha : Bd p m a) (hz : Bd p m z) (hT : ∀ l i, 0 ≤ l → l < L → 0 ≤ i → i < m → Bd p m (T l i)) : f__law_times_of (hs p L m a T z) (hs p L n b U y) = .ok (hs p L (m * n) (kr p n a b) (krT p n T U) (kr p n z y)) := by
  have hmn := Int.mul_nonneg hm hn
  have hmn2 : m * n ≤ 100 * 100 := Int.mul_le_mul hm2 hn2 hn (by omega)
  rw [f__law_times_of_eq]
  unfold m__law_times_of
  simp only [hs, vec_len, Rs.bind_ok, Rs.b2_ok, Rs.b3_ok, Rs.pr_ok, Rs.cs_ok, Rs.an_ok, Rs.or_ok, Rs.nt_ok, Rs.noEx_ok, Rs.ite_ok, Rs.an_t, Rs.an_f, Rs.or_t, Rs.or_f, Rs.op_some, cutR_eq, thn_nx, thn_rt, Rs.bind_ex, Rs.tryR_ok, Rs.tryR_ex]
  rw [Int.toNat_of_nonneg hm, Int.toNat_of_nonneg hn, rngR_small (by omega) (by omega) (by omega) (by omega)]
  simp only [Rs.bind_ok, Rs.b2_ok, Rs.b3_ok, Rs.pr_ok, Rs.cs_ok, Rs.an_ok, Rs.or_ok, Rs.nt_ok, Rs.noEx_ok, Rs.ite_ok, Rs.an_t, Rs.an_f, Rs.or_t, Rs.or_f, Rs.op_some, cutR_eq, thn_nx, thn_rt, Rs.bind_ex, Rs.tryR_ok, Rs.tryR_ex]
  refine forB (P := fun r => r = _) (fun i s => s = (rng 0 i).map (fun l => mat (m * n) (m * n) (krT p n T U l))) hL (by rw [rng_nil (Int.le_refl 0)]; rfl) (fun i s i0 i1 hs => ?_) (fun s hs => ?_)
  · subst hs
    simp only [pyIx_tab i0 i1, Rs.bind_ok, Rs.b2_ok, Rs.b3_ok, Rs.pr_ok, Rs.cs_ok, Rs.an_ok, Rs.or_ok, Rs.nt_ok, Rs.noEx_ok, Rs.ite_ok, Rs.an_t, Rs.an_f, Rs.or_t, Rs.or_f, Rs.op_some, cutR_eq, thn_nx, thn_rt, Rs.bind_ex, Rs.tryR_ok, Rs.tryR_ex]
    rw [mulR_l (by omega)]
    simp only [Rs.bind_ok, Rs.b2_ok, Rs.b3_ok, Rs.pr_ok, Rs.cs_ok, Rs.an_ok, Rs.or_ok, Rs.nt_ok, Rs.noEx_ok, Rs.ite_ok, Rs.an_t, Rs.an_f, Rs.or_t, Rs.or_f, Rs.op_some, cutR_eq, thn_nx, thn_rt, Rs.bind_ex, Rs.tryR_ok, Rs.tryR_ex]
    rw [rngR_small (by omega) (by omega) (by omega) (by omega)]
    simp only [Rs.bind_ok, Rs.b2_ok, Rs.b3_ok, Rs.pr_ok, Rs.cs_ok, Rs.an_ok, Rs.or_ok, Rs.nt_ok, Rs.noEx_ok, Rs.ite_ok, Rs.an_t, Rs.an_f, Rs.or_t, Rs.or_f, Rs.op_some, cutR_eq, thn_nx, thn_rt, Rs.bind_ex, Rs.tryR_ok, Rs.tryR_ex]
    refine forB (P := fun r : Rs (List (List (List Int))) => ∃ s', r = .ok s' ∧ s' = (rng 0 (i + 1)).map (fun l => mat (m * n) (m * n) (krT p n T U l))) (fun k (s : List (List Int)) => s = (rng 0 k).map fun j => vec (m * n) (krT p n T U i j)) hmn (by rw [rng_nil (Int.le_refl 0)]; rfl) (fun k s k0 k1 hs => ?_) (fun s hs => ?_)
    · subst hs
      have hn1 : 0 < n := by
        rcases Int.lt_or_eq_of_le hn with h | h
        · exact h
        · rw [← h, Int.mul_zero] at k1
          omega
      have d0 := Int.ediv_nonneg k0 hn
      have d1 : k / n < m := Int.ediv_lt_of_lt_mul hn1 k1
      have r0 := Int.emod_nonneg k (by omega : n ≠ 0)
      have r1 := Int.emod_lt_of_pos k hn1
      rw [divR_ok (by omega), modR_ok hn1]
      simp only [Rs.bind_ok, Rs.b2_ok, Rs.b3_ok, Rs.pr_ok, Rs.cs_ok, Rs.an_ok, Rs.or_ok, Rs.nt_ok, Rs.noEx_ok, Rs.ite_ok, Rs.an_t, Rs.an_f, Rs.or_t, Rs.or_f, Rs.op_some, cutR_eq, thn_nx, thn_rt, Rs.bind_ex, Rs.tryR_ok, Rs.tryR_ex, pyIx_mat d0 d1, pyIx_mat r0 r1]
      rw [cross_eq hp hp2 hm hm2 hn hn2 (hT i _ i0 i1 d0 d1)]
      simp only [Rs.bind_ok, Rs.b2_ok, Rs.b3_ok, Rs.pr_ok, Rs.cs_ok, Rs.an_ok, Rs.or_ok, Rs.nt_ok, Rs.noEx_ok, Rs.ite_ok, Rs.an_t, Rs.an_f, Rs.or_t, Rs.or_f, Rs.op_some, cutR_eq, thn_nx, thn_rt, Rs.bind_ex, Rs.tryR_ok, Rs.tryR_ex]
      rw [push_ok (by rw [rmap_len]; omega)]
      refine ⟨_, rfl, ?_⟩
      rw [rng_snoc k0, List.map_append]
      rfl
    · subst hs
      rw [push_ok (by rw [rmap_len]; omega)]
      refine ⟨_, rfl, ?_⟩
      rw [rng_snoc i0, List.map_append]
      rfl
  · subst hs
    rw [cross_eq hp hp2 hm hm2 hn hn2 ha, cross_eq hp hp2 hm hm2 hn hn2 hz]
    rfl
end
end Gd

namespace Gd
open PySem
def cellv (s : List Int) (k : Int) : Int := if k < s.length then gi s k else 0
theorem cell_eq {s : List Int} {k : Int} (h : 0 ≤ k) : f__law_cell s k = .ok (cellv s k) := by
  rw [f__law_cell_eq]
  unfold cellv
  unfold m__law_cell
  simp only [Rs.bind_ok, Rs.b2_ok, Rs.b3_ok, Rs.pr_ok, Rs.cs_ok, Rs.an_ok, Rs.or_ok, Rs.nt_ok, Rs.noEx_ok, Rs.ite_ok, Rs.an_t, Rs.an_f, Rs.or_t, Rs.or_f, Rs.op_some, cutR_eq, thn_nx, thn_rt, Rs.bind_ex, Rs.tryR_ok, Rs.tryR_ex, decide_eq_true_eq]
  split
  · rename_i hk
    rw [pyIx_gi h hk]
  · rfl
theorem num_ex {s : List Int} {k p : Int} (hp : 0 < p) (h0 : 0 ≤ k) (h1 : k ≤ 1000000) : ∃ v, f__law_number s k p = .ok v ∧ 0 ≤ v ∧ v < p := by
  rw [f__law_number_eq]
  unfold m__law_number
  simp only [Rs.bind_ok, Rs.b2_ok, Rs.b3_ok, Rs.pr_ok, Rs.cs_ok, Rs.an_ok, Rs.or_ok, Rs.nt_ok, Rs.noEx_ok, Rs.ite_ok, Rs.an_t, Rs.an_f, Rs.or_t, Rs.or_f, Rs.op_some, cutR_eq, thn_nx, thn_rt, Rs.bind_ex, Rs.tryR_ok, Rs.tryR_ex, decide_eq_true_eq]
  split
  · rename_i hk
    rw [pyIx_gi h0 hk]
    simp only [Rs.bind_ok, Rs.b2_ok, Rs.b3_ok, Rs.pr_ok, Rs.cs_ok, Rs.an_ok, Rs.or_ok, Rs.nt_ok, Rs.noEx_ok, Rs.ite_ok, Rs.an_t, Rs.an_f, Rs.or_t, Rs.or_f, Rs.op_some, cutR_eq, thn_nx, thn_rt, Rs.bind_ex, Rs.tryR_ok, Rs.tryR_ex]
    rw [modR_ok hp]
    exact ⟨_, rfl, Int.emod_nonneg _ (by omega), Int.emod_lt_of_pos _ hp⟩
  · have hm : (0 : Int) < (if (s.length : Int) > 1 then (s.length : Int) else 1) := by split <;> omega
    rw [modR_ok hm]
    simp only [Rs.bind_ok, Rs.b2_ok, Rs.b3_ok, Rs.pr_ok, Rs.cs_ok, Rs.an_ok, Rs.or_ok, Rs.nt_ok, Rs.noEx_ok, Rs.ite_ok, Rs.an_t, Rs.an_f, Rs.or_t, Rs.or_f, Rs.op_some, cutR_eq, thn_nx, thn_rt, Rs.bind_ex, Rs.tryR_ok, Rs.tryR_ex]
    rw [cell_eq (Int.emod_nonneg _ (by omega)), mulR_l (by omega)]
    simp only [Rs.bind_ok, Rs.b2_ok, Rs.b3_ok, Rs.pr_ok, Rs.cs_ok, Rs.an_ok, Rs.or_ok, Rs.nt_ok, Rs.noEx_ok, Rs.ite_ok, Rs.an_t, Rs.an_f, Rs.or_t, Rs.or_f, Rs.op_some, cutR_eq, thn_nx, thn_rt, Rs.bind_ex, Rs.tryR_ok, Rs.tryR_ex]
    rw [modR_ok hp]
    exact ⟨_, rfl, Int.emod_nonneg _ (by omega), Int.emod_lt_of_pos _ hp⟩
noncomputable def num (s : List Int) (p k : Int) : Int := (f__law_number s k p).val
theorem num_eq {s : List Int} {k p : Int} (hp : 0 < p) (h0 : 0 ≤ k) (h1 : k ≤ 1000000) : f__law_number s k p = .ok (num s p k) := by
  obtain ⟨v, e, _⟩ := num_ex (s := s) hp h0 h1
  exact ok_val ⟨v, e⟩
theorem num_bd {s : List Int} {k p : Int} (hp : 0 < p) (h0 : 0 ≤ k) (h1 : k ≤ 1000000) : 0 ≤ num s p k ∧ num s p k < p := by
  obtain ⟨v, e, h⟩ := num_ex (s := s) hp h0 h1
  have : num s p k = v := val_ok e
  rw [this]
  exact h
theorem rowOf_eq {s : List Int} {at_ k p : Int} (hp : 0 < p) (h0 : 0 ≤ at_) (h1 : at_ ≤ 10000) (k0 : 0 ≤ k) (k1 : k ≤ 100) : f__law_row s at_ k p = .ok (vec k fun x => num s p (at_ + x)) := by
  rw [f__law_row_eq]
  unfold m__law_row
  simp only [Rs.bind_ok, Rs.b2_ok, Rs.b3_ok, Rs.pr_ok, Rs.cs_ok, Rs.an_ok, Rs.or_ok, Rs.nt_ok, Rs.noEx_ok, Rs.ite_ok, Rs.an_t, Rs.an_f, Rs.or_t, Rs.or_f, Rs.op_some, cutR_eq, thn_nx, thn_rt, Rs.bind_ex, Rs.tryR_ok, Rs.tryR_ex]
  rw [rngR_small (by omega) (by omega) (by omega) (by omega)]
  simp only [Rs.bind_ok, Rs.b2_ok, Rs.b3_ok, Rs.pr_ok, Rs.cs_ok, Rs.an_ok, Rs.or_ok, Rs.nt_ok, Rs.noEx_ok, Rs.ite_ok, Rs.an_t, Rs.an_f, Rs.or_t, Rs.or_f, Rs.op_some, cutR_eq, thn_nx, thn_rt, Rs.bind_ex, Rs.tryR_ok, Rs.tryR_ex]
  rw [mapR_ok (g := fun x => num s p (at_ + x)) fun x hx => by
    obtain ⟨q0, q1⟩ := mem_rng.mp hx
    rw [num_eq hp (by omega) (by omega)]
    rfl]
  rfl
theorem house_eq {s : List Int} {at_ k p L : Int} (hp : 0 < p) (h0 : 0 ≤ at_) (h1 : at_ ≤ 1000) (k0 : 0 ≤ k) (k1 : k ≤ 3) (hL : 0 ≤ L) (hL2 : L ≤ 6) : ∃ a T z, f__law_house s at_ p L k = .ok (hs p L k a T z) ∧ Bd p k a ∧ Bd p k z ∧ ∀ l i, 0 ≤ l → l < L → 0 ≤ i → i < k → Bd p k (T l i) := by
  have bk : ∀ l i : Int, 0 ≤ l → l ≤ 6 → 0 ≤ i → i ≤ 3 → 0 ≤ l * k * k ∧ l * k * k ≤ 54 ∧ 0 ≤ k * i ∧ k * i ≤ 9 ∧ 0 ≤ l * k ∧ l * k ≤ 18 := fun l i l0 l1 i0 i1 => by
    have a1 := Int.mul_nonneg l0 k0
    have a2 : l * k ≤ 6 * 3 := Int.mul_le_mul l1 k1 k0 (by omega)
    have a3 := Int.mul_nonneg a1 k0
    have a4 : l * k * k ≤ 18 * 3 := Int.mul_le_mul a2 k1 k0 (by omega)
    have a5 := Int.mul_nonneg k0 i0
    have a6 : k * i ≤ 3 * 3 := Int.mul_le_mul k1 i1 i0 (by omega)
    omega
  refine ⟨fun x => num s p (at_ + x), fun l i x => num s p (at_ + 2 * k + l * k * k + k * i + x), fun x => num s p (at_ + k + x), ?_, fun i i0 i1 => num_bd hp (by omega) (by omega), fun i i0 i1 => num_bd hp (by omega) (by omega), fun l i l0 l1 i0 i1 j j0 j1 => ?_⟩
  · rw [f__law_house_eq]
    unfold m__law_house
    simp only [Rs.bind_ok, Rs.b2_ok, Rs.b3_ok, Rs.pr_ok, Rs.cs_ok, Rs.an_ok, Rs.or_ok, Rs.nt_ok, Rs.noEx_ok, Rs.ite_ok, Rs.an_t, Rs.an_f, Rs.or_t, Rs.or_f, Rs.op_some, cutR_eq, thn_nx, thn_rt, Rs.bind_ex, Rs.tryR_ok, Rs.tryR_ex]
    rw [rngR_small (by omega) (by omega) (by omega) (by omega)]
    simp only [Rs.bind_ok, Rs.b2_ok, Rs.b3_ok, Rs.pr_ok, Rs.cs_ok, Rs.an_ok, Rs.or_ok, Rs.nt_ok, Rs.noEx_ok, Rs.ite_ok, Rs.an_t, Rs.an_f, Rs.or_t, Rs.or_f, Rs.op_some, cutR_eq, thn_nx, thn_rt, Rs.bind_ex, Rs.tryR_ok, Rs.tryR_ex]
    refine forB (P := fun r => r = _) (fun i st => st = (rng 0 i).map (fun l => mat k k fun i x => num s p (at_ + 2 * k + l * k * k + k * i + x))) hL (by rw [rng_nil (Int.le_refl 0)]; rfl) (fun i st i0 i1 hst => ?_) (fun st hst => ?_)
    · subst hst
      obtain ⟨b1, b2, _, _, b5, b6⟩ := bk i 0 i0 (by omega) (by omega) (by omega)
      rw [mulR_l (by omega)]
      simp only [Rs.bind_ok, Rs.b2_ok, Rs.b3_ok, Rs.pr_ok, Rs.cs_ok, Rs.an_ok, Rs.or_ok, Rs.nt_ok, Rs.noEx_ok, Rs.ite_ok, Rs.an_t, Rs.an_f, Rs.or_t, Rs.or_f, Rs.op_some, cutR_eq, thn_nx, thn_rt, Rs.bind_ex, Rs.tryR_ok, Rs.tryR_ex]
      rw [mulR_l (by omega)]
      simp only [Rs.bind_ok, Rs.b2_ok, Rs.b3_ok, Rs.pr_ok, Rs.cs_ok, Rs.an_ok, Rs.or_ok, Rs.nt_ok, Rs.noEx_ok, Rs.ite_ok, Rs.an_t, Rs.an_f, Rs.or_t, Rs.or_f, Rs.op_some, cutR_eq, thn_nx, thn_rt, Rs.bind_ex, Rs.tryR_ok, Rs.tryR_ex]
      rw [rngR_small (by omega) (by omega) (by omega) (by omega)]
      simp only [Rs.bind_ok, Rs.b2_ok, Rs.b3_ok, Rs.pr_ok, Rs.cs_ok, Rs.an_ok, Rs.or_ok, Rs.nt_ok, Rs.noEx_ok, Rs.ite_ok, Rs.an_t, Rs.an_f, Rs.or_t, Rs.or_f, Rs.op_some, cutR_eq, thn_nx, thn_rt, Rs.bind_ex, Rs.tryR_ok, Rs.tryR_ex]
      rw [mapR_ok (g := fun q => vec k fun x => num s p (at_ + 2 * k + i * k * k + k * q + x)) fun q hq => by
        obtain ⟨q0, q1⟩ := mem_rng.mp hq
        obtain ⟨_, _, b3, b4, _, _⟩ := bk i q i0 (by omega) q0 (by omega)
        rw [mulR_l (by omega)]
        simp only [Rs.bind_ok, Rs.b2_ok, Rs.b3_ok, Rs.pr_ok, Rs.cs_ok, Rs.an_ok, Rs.or_ok, Rs.nt_ok, Rs.noEx_ok, Rs.ite_ok, Rs.an_t, Rs.an_f, Rs.or_t, Rs.or_f, Rs.op_some, cutR_eq, thn_nx, thn_rt, Rs.bind_ex, Rs.tryR_ok, Rs.tryR_ex]
        rw [rowOf_eq hp (by omega) (by omega) k0 (by omega)]
        rfl]
      simp only [Rs.bind_ok, Rs.b2_ok, Rs.b3_ok, Rs.pr_ok, Rs.cs_ok, Rs.an_ok, Rs.or_ok, Rs.nt_ok, Rs.noEx_ok, Rs.ite_ok, Rs.an_t, Rs.an_f, Rs.or_t, Rs.or_f, Rs.op_some, cutR_eq, thn_nx, thn_rt, Rs.bind_ex, Rs.tryR_ok, Rs.tryR_ex]
      rw [push_ok (by rw [rmap_len]; omega)]
      refine ⟨_, rfl, ?_⟩
      rw [rng_snoc i0, List.map_append]
      rfl
    · subst hst
      rw [rowOf_eq hp h0 (by omega) k0 (by omega), rowOf_eq hp (by omega) (by omega) k0 (by omega)]
      rfl
  · obtain ⟨b1, b2, b3, b4, _, _⟩ := bk l i l0 (by omega) i0 (by omega)
    exact num_bd hp (by omega) (by omega)
/-! the modulus -/
theorem forF_ex {α ρ : Type} {f : Unit → α → Rs (Fl Unit ρ)} : ∀ {xs : List α}, (∀ y, y ∈ xs → ∃ r, f () y = .ok r ∧ (r = .nx () ∨ ∃ b, r = .rt b)) → ∃ r, Rs.forF f () xs = .ok r ∧ (r = .nx () ∨ ∃ b, r = .rt b)
  | [], _ => ⟨_, rfl, .inl rfl⟩
  | y :: ys, h => by
    obtain ⟨r, e, hr⟩ := h y List.mem_cons_self
    obtain ⟨q, e2, hq⟩ := forF_ex fun z hz => h z (List.mem_cons_of_mem _ hz)
    show ∃ r, Rs.bind _ _ = .ok r ∧ _
    rw [e]
    rcases hr with rfl | ⟨b, rfl⟩
    · exact ⟨q, e2, hq⟩
    · exact ⟨_, rfl, .inr ⟨b, rfl⟩⟩
theorem prime_ex {x : Int} (h0 : 2 ≤ x) (h1 : x ≤ 1000) : ∃ b, f__law_is_prime x = .ok b := by
  rw [f__law_is_prime_eq]
  unfold m__law_is_prime
  simp only [Rs.bind_ok, Rs.b2_ok, Rs.b3_ok, Rs.pr_ok, Rs.cs_ok, Rs.an_ok, Rs.or_ok, Rs.nt_ok, Rs.noEx_ok, Rs.ite_ok, Rs.an_t, Rs.an_f, Rs.or_t, Rs.or_f, Rs.op_some, cutR_eq, thn_nx, thn_rt, Rs.bind_ex, Rs.tryR_ok, Rs.tryR_ex]
  rw [rngR_small (by omega) (by omega) (by omega) (by omega)]
  simp only [Rs.bind_ok, Rs.b2_ok, Rs.b3_ok, Rs.pr_ok, Rs.cs_ok, Rs.an_ok, Rs.or_ok, Rs.nt_ok, Rs.noEx_ok, Rs.ite_ok, Rs.an_t, Rs.an_f, Rs.or_t, Rs.or_f, Rs.op_some, cutR_eq, thn_nx, thn_rt, Rs.bind_ex, Rs.tryR_ok, Rs.tryR_ex]
  generalize hf : (fun (s : Unit) (part : Int) => (Rs.b2 (mulR part part) (Rs.ok x) fun x y => Rs.ok (decide (y < x))).bind fun b => if b = true then (Rs.ok (Fl.rt true) : Rs (Fl Unit Bool)) else (Rs.b2 (modR x part) (Rs.ok 0) fun x y => Rs.ok (decide (x = y))).bind fun b => if b = true then Rs.ok (Fl.rt false) else Rs.ok (Fl.nx ())) = f
  obtain ⟨r, e, hr⟩ := forF_ex (f := f) (xs := rng 2 x) fun y hy => by
    obtain ⟨q0, q1⟩ := mem_rng.mp hy
    subst hf
    show ∃ r, Rs.bind _ _ = .ok r ∧ _
    rw [mulR_l (by omega)]
    simp only [Rs.bind_ok, Rs.b2_ok, Rs.b3_ok, Rs.pr_ok, Rs.cs_ok, Rs.an_ok, Rs.or_ok, Rs.nt_ok, Rs.noEx_ok, Rs.ite_ok, Rs.an_t, Rs.an_f, Rs.or_t, Rs.or_f, Rs.op_some, cutR_eq, thn_nx, thn_rt, Rs.bind_ex, Rs.tryR_ok, Rs.tryR_ex]
    split
    · exact ⟨_, rfl, .inr ⟨_, rfl⟩⟩
    · rw [modR_ok (by omega)]
      simp only [Rs.bind_ok, Rs.b2_ok, Rs.b3_ok, Rs.pr_ok, Rs.cs_ok, Rs.an_ok, Rs.or_ok, Rs.nt_ok, Rs.noEx_ok, Rs.ite_ok, Rs.an_t, Rs.an_f, Rs.or_t, Rs.or_f, Rs.op_some, cutR_eq, thn_nx, thn_rt, Rs.bind_ex, Rs.tryR_ok, Rs.tryR_ex]
      split
      · exact ⟨_, rfl, .inr ⟨_, rfl⟩⟩
      · exact ⟨_, rfl, .inl rfl⟩
  rw [e]
  rcases hr with rfl | ⟨b, rfl⟩
  · exact ⟨true, rfl⟩
  · exact ⟨b, rfl⟩
theorem forF_stop {S α ρ : Type} {f : S → α → Rs (Fl S ρ)} {s : S} {y : α} {r : ρ} {ys : List α} (hy : f s y = .ok (.rt r)) : ∀ {xs : List α}, (∀ x, x ∈ xs → f s x = .ok (.nx s)) → Rs.forF f s (xs ++ y :: ys) = .ok (.rt r)
  | [], _ => by
    show Rs.bind _ _ = _
    rw [hy]
    rfl
  | x :: xs, h => by
    show Rs.bind _ _ = _
    rw [h x List.mem_cons_self]
    exact forF_stop hy fun z hz => h z (List.mem_cons_of_mem _ hz)
theorem prime211 : f__law_is_prime 211 = .ok true := by
  rw [f__law_is_prime_eq]
  unfold m__law_is_prime
  simp only [Rs.bind_ok, Rs.b2_ok, Rs.b3_ok, Rs.pr_ok, Rs.cs_ok, Rs.an_ok, Rs.or_ok, Rs.nt_ok, Rs.noEx_ok, Rs.ite_ok, Rs.an_t, Rs.an_f, Rs.or_t, Rs.or_f, Rs.op_some, cutR_eq, thn_nx, thn_rt, Rs.bind_ex, Rs.tryR_ok, Rs.tryR_ex]
  rw [rngR_small (by omega) (by omega) (by omega) (by omega)]
  simp only [Rs.bind_ok, Rs.b2_ok, Rs.b3_ok, Rs.pr_ok, Rs.cs_ok, Rs.an_ok, Rs.or_ok, Rs.nt_ok, Rs.noEx_ok, Rs.ite_ok, Rs.an_t, Rs.an_f, Rs.or_t, Rs.or_f, Rs.op_some, cutR_eq, thn_nx, thn_rt, Rs.bind_ex, Rs.tryR_ok, Rs.tryR_ex]
  rw [show rng 2 211 = rng 2 15 ++ 15 :: rng 16 211 from by decide +kernel]
  rw [forF_stop (r := true) (by
    rw [mulR_l (by omega)]
    rfl) fun x hx => by
    obtain ⟨q0, q1⟩ := mem_rng.mp hx
    have hx2 : x = 2 ∨ x = 3 ∨ x = 4 ∨ x = 5 ∨ x = 6 ∨ x = 7 ∨ x = 8 ∨ x = 9 ∨ x = 10 ∨ x = 11 ∨ x = 12 ∨ x = 13 ∨ x = 14 := by omega
    rcases hx2 with rfl | rfl | rfl | rfl | rfl | rfl | rfl | rfl | rfl | rfl | rfl | rfl | rfl <;> (rw [mulR_l (by omega), modR_ok (by omega)]; rfl)]
  rfl
theorem eight {A : List Int} {i : Int} (h : i % 8 < A.length) : pyIx A (i % 8) = .ok (gi A (i % 8)) := pyIx_gi (by omega) h
theorem law_p (c : Int) : ∃ p, f__law_prime c = .ok p ∧ 0 < p ∧ p ≤ 1000000000000000000 := by
  rw [f__law_prime_eq]
  unfold m__law_prime
  simp only [Rs.bind_ok, Rs.b2_ok, Rs.b3_ok, Rs.pr_ok, Rs.cs_ok, Rs.an_ok, Rs.or_ok, Rs.nt_ok, Rs.noEx_ok, Rs.ite_ok, Rs.an_t, Rs.an_f, Rs.or_t, Rs.or_f, Rs.op_some, cutR_eq, thn_nx, thn_rt, Rs.bind_ex, Rs.tryR_ok, Rs.tryR_ex]
  split
  · have h8 : c / 4 % 8 = 0 ∨ c / 4 % 8 = 1 ∨ c / 4 % 8 = 2 ∨ c / 4 % 8 = 3 ∨ c / 4 % 8 = 4 ∨ c / 4 % 8 = 5 ∨ c / 4 % 8 = 6 ∨ c / 4 % 8 = 7 := by omega
    rw [pyIx_gi (by omega) (by show c / 4 % 8 < 8; omega)]
    refine ⟨_, rfl, ?_⟩
    rcases h8 with h | h | h | h | h | h | h | h <;> rw [h] <;> decide
  · refine whB (P := fun r => ∃ p, r = .ok p ∧ 0 < p ∧ p ≤ 1000000000000000000) (fun s => 2 ≤ s ∧ s ≤ 211) (fun s => (211 - s).toNat) (by omega) (fun s hi => ?_) (fun s hi _ => ⟨s, rfl, by omega, by omega⟩)
    obtain ⟨b, e⟩ := prime_ex (x := s) hi.1 (by omega)
    rw [e]
    refine ⟨!b, rfl, fun hb => ⟨s + 1, rfl, ?_, ?_⟩⟩
    · have : s ≠ 211 := fun h => by
        rw [h, prime211] at e
        cases e
        cases hb
      omega
    · have : s ≠ 211 := fun h => by
        rw [h, prime211] at e
        cases e
        cases hb
      omega
end Gd

namespace Gd
open PySem
theorem hs_congr {p L m : Int} {a b z y : Int → Int} {T U : Int → Int → Int → Int} (ha : ∀ i, 0 ≤ i → i < m → a i = b i) (hz : ∀ i, 0 ≤ i → i < m → z i = y i) (hT : ∀ l i j, 0 ≤ i → i < m → 0 ≤ j → j < m → T l i j = U l i j) : hs p L m a T z = hs p L m b U y := by
  unfold hs
  rw [vec_congr ha, vec_congr hz, rmap_congr (n := L) (F := fun l => mat m m (T l)) (G := fun l => mat m m (U l)) fun l _ _ => rmap_congr fun i i0 i1 => vec_congr fun j j0 j1 => hT l i j i0 i1 j0 j1]
/-! refusals -/
theorem like_ex {h k : SHs} (e : h.1 ≠ k.1 ∨ h.2.1 ≠ k.2.1) : f_ask_like h k = .ex 2 := by
  rw [f_ask_like_eq]
  unfold m_ask_like
  simp only [Rs.bind_ok, Rs.b2_ok, Rs.b3_ok, Rs.pr_ok, Rs.cs_ok, Rs.an_ok, Rs.or_ok, Rs.nt_ok, Rs.noEx_ok, Rs.ite_ok, Rs.an_t, Rs.an_f, Rs.or_t, Rs.or_f, Rs.op_some, cutR_eq, thn_nx, thn_rt, Rs.bind_ex, Rs.tryR_ok, Rs.tryR_ex]
  rw [if_pos (by
    rcases e with e | e
    · simp [e]
    · simp [e])]
  rfl
theorem less_ex {h k : SHs} (e : h.1 ≠ k.1 ∨ h.2.1 ≠ k.2.1) : f_sums_less h k = .ex 2 := by
  rw [f_sums_less_eq]
  unfold m_sums_less
  simp only [Rs.bind_ok, Rs.b2_ok, Rs.b3_ok, Rs.pr_ok, Rs.cs_ok, Rs.an_ok, Rs.or_ok, Rs.nt_ok, Rs.noEx_ok, Rs.ite_ok, Rs.an_t, Rs.an_f, Rs.or_t, Rs.or_f, Rs.op_some, cutR_eq, thn_nx, thn_rt, Rs.bind_ex, Rs.tryR_ok, Rs.tryR_ex, like_ex e]
theorem times_ex {h k : SHs} (e : h.1 ≠ k.1 ∨ h.2.1 ≠ k.2.1) : f_sums_times h k = .ex 2 := by
  rw [f_sums_times_eq]
  unfold m_sums_times
  simp only [Rs.bind_ok, Rs.b2_ok, Rs.b3_ok, Rs.pr_ok, Rs.cs_ok, Rs.an_ok, Rs.or_ok, Rs.nt_ok, Rs.noEx_ok, Rs.ite_ok, Rs.an_t, Rs.an_f, Rs.or_t, Rs.or_f, Rs.op_some, cutR_eq, thn_nx, thn_rt, Rs.bind_ex, Rs.tryR_ok, Rs.tryR_ex, like_ex e]
section
variable {p L m n : Int} {a b z y : Int → Int} {T U : Int → Int → Int → Int}
theorem less_wide (hm : 0 ≤ m) (hn : 0 ≤ n) (h16 : 16 < m + n) : f_sums_less (hs p L m a T z) (hs p L n b U y) = .ex 2 := by
  rw [f_sums_less_eq]
  unfold m_sums_less
  simp only [Rs.bind_ok, Rs.b2_ok, Rs.b3_ok, Rs.pr_ok, Rs.cs_ok, Rs.an_ok, Rs.or_ok, Rs.nt_ok, Rs.noEx_ok, Rs.ite_ok, Rs.an_t, Rs.an_f, Rs.or_t, Rs.or_f, Rs.op_some, cutR_eq, thn_nx, thn_rt, Rs.bind_ex, Rs.tryR_ok, Rs.tryR_ex, like_eq]
  simp only [hs, vec_len, Rs.bind_ok, Rs.b2_ok, Rs.b3_ok, Rs.pr_ok, Rs.cs_ok, Rs.an_ok, Rs.or_ok, Rs.nt_ok, Rs.noEx_ok, Rs.ite_ok, Rs.an_t, Rs.an_f, Rs.or_t, Rs.or_f, Rs.op_some, cutR_eq, thn_nx, thn_rt, Rs.bind_ex, Rs.tryR_ok, Rs.tryR_ex]
  rw [Int.toNat_of_nonneg hm, Int.toNat_of_nonneg hn, if_pos (by simp; omega)]
theorem times_wide (hm : 0 ≤ m) (hm2 : m ≤ 100) (hn : 0 ≤ n) (h16 : 16 < m * n) : f_sums_times (hs p L m a T z) (hs p L n b U y) = .ex 2 := by
  rw [f_sums_times_eq]
  unfold m_sums_times
  simp only [Rs.bind_ok, Rs.b2_ok, Rs.b3_ok, Rs.pr_ok, Rs.cs_ok, Rs.an_ok, Rs.or_ok, Rs.nt_ok, Rs.noEx_ok, Rs.ite_ok, Rs.an_t, Rs.an_f, Rs.or_t, Rs.or_f, Rs.op_some, cutR_eq, thn_nx, thn_rt, Rs.bind_ex, Rs.tryR_ok, Rs.tryR_ex, like_eq]
  simp only [hs, vec_len, Rs.bind_ok, Rs.b2_ok, Rs.b3_ok, Rs.pr_ok, Rs.cs_ok, Rs.an_ok, Rs.or_ok, Rs.nt_ok, Rs.noEx_ok, Rs.ite_ok, Rs.an_t, Rs.an_f, Rs.or_t, Rs.or_f, Rs.op_some, cutR_eq, thn_nx, thn_rt, Rs.bind_ex, Rs.tryR_ok, Rs.tryR_ex]
  rw [Int.toNat_of_nonneg hm, Int.toNat_of_nonneg hn, mulR_l (by omega)]
  simp only [Rs.bind_ok, Rs.b2_ok, Rs.b3_ok, Rs.pr_ok, Rs.cs_ok, Rs.an_ok, Rs.or_ok, Rs.nt_ok, Rs.noEx_ok, Rs.ite_ok, Rs.an_t, Rs.an_f, Rs.or_t, Rs.or_f, Rs.op_some, cutR_eq, thn_nx, thn_rt, Rs.bind_ex, Rs.tryR_ok, Rs.tryR_ex]
  rw [if_pos (by simp; omega)]
end
theorem ref0 {h k : SHs} (e : f_sums_less h k = .ex 2) : f__law_refused () h k = .ok true := by
  rw [f__law_refused_eq]
  unfold m__law_refused
  simp only [Rs.bind_ok, Rs.b2_ok, Rs.b3_ok, Rs.pr_ok, Rs.cs_ok, Rs.an_ok, Rs.or_ok, Rs.nt_ok, Rs.noEx_ok, Rs.ite_ok, Rs.an_t, Rs.an_f, Rs.or_t, Rs.or_f, Rs.op_some, cutR_eq, thn_nx, thn_rt, Rs.bind_ex, Rs.tryR_ok, Rs.tryR_ex, e]
  rfl
theorem ref1 {h k : SHs} (e : f_sums_times h k = .ex 2) : f__law_refused'1 () h k = .ok true := by
  rw [f__law_refused'1_eq]
  unfold m__law_refused'1
  simp only [Rs.bind_ok, Rs.b2_ok, Rs.b3_ok, Rs.pr_ok, Rs.cs_ok, Rs.an_ok, Rs.or_ok, Rs.nt_ok, Rs.noEx_ok, Rs.ite_ok, Rs.an_t, Rs.an_f, Rs.or_t, Rs.or_f, Rs.op_some, cutR_eq, thn_nx, thn_rt, Rs.bind_ex, Rs.tryR_ok, Rs.tryR_ex, e]
  rfl
theorem any0 {h k : SHs} (e : f_sums_less h k = .ex 2) : f__law_refused_by_any () h k = .ok true := by
  rw [f__law_refused_by_any_eq]
  unfold m__law_refused_by_any
  simp only [Rs.bind_ok, Rs.b2_ok, Rs.b3_ok, Rs.pr_ok, Rs.cs_ok, Rs.an_ok, Rs.or_ok, Rs.nt_ok, Rs.noEx_ok, Rs.ite_ok, Rs.an_t, Rs.an_f, Rs.or_t, Rs.or_f, Rs.op_some, cutR_eq, thn_nx, thn_rt, Rs.bind_ex, Rs.tryR_ok, Rs.tryR_ex, e]
  rfl
theorem any1 {h k : SHs} (e : f_sums_times h k = .ex 2) : f__law_refused_by_any'1 () h k = .ok true := by
  rw [f__law_refused_by_any'1_eq]
  unfold m__law_refused_by_any'1
  simp only [Rs.bind_ok, Rs.b2_ok, Rs.b3_ok, Rs.pr_ok, Rs.cs_ok, Rs.an_ok, Rs.or_ok, Rs.nt_ok, Rs.noEx_ok, Rs.ite_ok, Rs.an_t, Rs.an_f, Rs.or_t, Rs.or_f, Rs.op_some, cutR_eq, thn_nx, thn_rt, Rs.bind_ex, Rs.tryR_ok, Rs.tryR_ex, e]
  rfl
/-! noughts -/
def z0 : Int → Int := fun _ => 0
def z3 : Int → Int → Int → Int := fun _ _ _ => 0
theorem blank_eq {p k : Int} (h0 : 0 ≤ k) (h1 : k ≤ 1000) : f__law_blank p k = .ok (hs p 1 k z0 z3 z0) := by
  rw [f__law_blank_eq]
  unfold m__law_blank
  simp only [Rs.bind_ok, Rs.b2_ok, Rs.b3_ok, Rs.pr_ok, Rs.cs_ok, Rs.an_ok, Rs.or_ok, Rs.nt_ok, Rs.noEx_ok, Rs.ite_ok, Rs.an_t, Rs.an_f, Rs.or_t, Rs.or_f, Rs.op_some, cutR_eq, thn_nx, thn_rt, Rs.bind_ex, Rs.tryR_ok, Rs.tryR_ex]
  rw [rngR_small (by omega) (by omega) (by omega) (by omega), zeros h0 h1]
  simp only [Rs.bind_ok, Rs.b2_ok, Rs.b3_ok, Rs.pr_ok, Rs.cs_ok, Rs.an_ok, Rs.or_ok, Rs.nt_ok, Rs.noEx_ok, Rs.ite_ok, Rs.an_t, Rs.an_f, Rs.or_t, Rs.or_f, Rs.op_some, cutR_eq, thn_nx, thn_rt, Rs.bind_ex, Rs.tryR_ok, Rs.tryR_ex]
  rw [mapR_ok (g := fun _ => vec k fun _ => (0 : Int)) fun x _ => rfl]
  rfl
theorem edges_eq {p c : Int} (hp : 0 < p) (hp2 : p ≤ 1000000000000000000) : f__law_edges p c = .ok true := by
  obtain ⟨m, hm⟩ : ∃ m, m = 1 + c % 16 := ⟨_, rfl⟩
  have m1 : 1 ≤ m := by omega
  have m2 : m ≤ 16 := by omega
  obtain ⟨f, hf⟩ : ∃ f, f = 16 / m := ⟨_, rfl⟩
  have f0 : 0 ≤ f := by rw [hf]; exact Int.ediv_nonneg (by omega) (by omega)
  have f1 : f * m ≤ 16 := by rw [hf]; exact Int.ediv_mul_le 16 (by omega)
  have f2 : 16 < (f + 1) * m := by rw [hf]; exact Int.lt_ediv_add_one_mul_self 16 (by omega)
  have f3 : f ≤ 16 := by
    have := Int.mul_le_mul_of_nonneg_left m1 f0
    omega
  have fc : m * f = f * m := Int.mul_comm _ _
  have fd : m * (f + 1) = (f + 1) * m := Int.mul_comm _ _
  have mf0 := Int.mul_nonneg f0 (show 0 ≤ m by omega)
  have b0 : ∀ k, Bd p k z0 := fun k i _ _ => ⟨Int.le_refl 0, hp⟩
  have e1 : hs p 1 (m + (16 - m)) (jn m z0 z0) (jnT m z3 z3) (jn m z0 fun i => (p - z0 i) % p) = hs p 1 16 z0 z3 z0 := by
    rw [show m + (16 - m) = 16 by omega]
    refine hs_congr (fun i _ _ => ?_) (fun i _ _ => ?_) fun l i j _ _ _ _ => ?_
    · unfold jn z0; split <;> rfl
    · unfold jn z0
      split
      · rfl
      · show (p - 0) % p = 0
        rw [Int.sub_zero, Int.emod_self]
    · unfold jnT z3; split <;> split <;> rfl
  have e2 : hs p 1 (m * f) (kr p f z0 z0) (krT p f z3 z3) (kr p f z0 z0) = hs p 1 (m * f) z0 z3 z0 := by
    refine hs_congr (fun i _ _ => ?_) (fun i _ _ => ?_) fun l i j _ _ _ _ => ?_
    · show (0 : Int) * 0 % p = 0
      rw [Int.mul_zero, Int.zero_emod]
    · show (0 : Int) * 0 % p = 0
      rw [Int.mul_zero, Int.zero_emod]
    · show (0 : Int) * 0 % p = 0
      rw [Int.mul_zero, Int.zero_emod]
  rw [f__law_edges_eq]
  unfold m__law_edges
  simp only [Rs.bind_ok, Rs.b2_ok, Rs.b3_ok, Rs.pr_ok, Rs.cs_ok, Rs.an_ok, Rs.or_ok, Rs.nt_ok, Rs.noEx_ok, Rs.ite_ok, Rs.an_t, Rs.an_f, Rs.or_t, Rs.or_f, Rs.op_some, cutR_eq, thn_nx, thn_rt, Rs.bind_ex, Rs.tryR_ok, Rs.tryR_ex]
  rw [← hm, blank_eq (by omega) (by omega), blank_eq (k := 16 - m) (by omega) (by omega), blank_eq (k := 16) (by omega) (by omega)]
  simp only [Rs.bind_ok, Rs.b2_ok, Rs.b3_ok, Rs.pr_ok, Rs.cs_ok, Rs.an_ok, Rs.or_ok, Rs.nt_ok, Rs.noEx_ok, Rs.ite_ok, Rs.an_t, Rs.an_f, Rs.or_t, Rs.or_f, Rs.op_some, cutR_eq, thn_nx, thn_rt, Rs.bind_ex, Rs.tryR_ok, Rs.tryR_ex]
  rw [less_eq hp (by omega) (by omega) (by omega) (by omega) (by omega), e1]
  simp only [Rs.bind_ok, Rs.b2_ok, Rs.b3_ok, Rs.pr_ok, Rs.cs_ok, Rs.an_ok, Rs.or_ok, Rs.nt_ok, Rs.noEx_ok, Rs.ite_ok, Rs.an_t, Rs.an_f, Rs.or_t, Rs.or_f, Rs.op_some, cutR_eq, thn_nx, thn_rt, Rs.bind_ex, Rs.tryR_ok, Rs.tryR_ex]
  rw [is_refl (by omega) (by omega) (by omega) (by omega)]
  simp only [Rs.nt_ok, Bool.not_true, Bool.false_eq_true, if_false]
  rw [divR_ok (by omega), ← hf]
  simp only [Rs.bind_ok, Rs.b2_ok, Rs.b3_ok, Rs.pr_ok, Rs.cs_ok, Rs.an_ok, Rs.or_ok, Rs.nt_ok, Rs.noEx_ok, Rs.ite_ok, Rs.an_t, Rs.an_f, Rs.or_t, Rs.or_f, Rs.op_some, cutR_eq, thn_nx, thn_rt, Rs.bind_ex, Rs.tryR_ok, Rs.tryR_ex]
  rw [blank_eq (k := f) (by omega) (by omega)]
  simp only [Rs.bind_ok, Rs.b2_ok, Rs.b3_ok, Rs.pr_ok, Rs.cs_ok, Rs.an_ok, Rs.or_ok, Rs.nt_ok, Rs.noEx_ok, Rs.ite_ok, Rs.an_t, Rs.an_f, Rs.or_t, Rs.or_f, Rs.op_some, cutR_eq, thn_nx, thn_rt, Rs.bind_ex, Rs.tryR_ok, Rs.tryR_ex]
  rw [times_h (T := z3) (U := z3) hp hp2 (by omega) (by omega) (by omega) (by omega) (by omega) (by omega) (by omega) (b0 _) (b0 _) (fun _ _ _ _ _ _ => b0 _), e2, mulR_l (by omega)]
  simp only [Rs.bind_ok, Rs.b2_ok, Rs.b3_ok, Rs.pr_ok, Rs.cs_ok, Rs.an_ok, Rs.or_ok, Rs.nt_ok, Rs.noEx_ok, Rs.ite_ok, Rs.an_t, Rs.an_f, Rs.or_t, Rs.or_f, Rs.op_some, cutR_eq, thn_nx, thn_rt, Rs.bind_ex, Rs.tryR_ok, Rs.tryR_ex]
  rw [blank_eq (k := m * f) (by omega) (by omega)]
  simp only [Rs.bind_ok, Rs.b2_ok, Rs.b3_ok, Rs.pr_ok, Rs.cs_ok, Rs.an_ok, Rs.or_ok, Rs.nt_ok, Rs.noEx_ok, Rs.ite_ok, Rs.an_t, Rs.an_f, Rs.or_t, Rs.or_f, Rs.op_some, cutR_eq, thn_nx, thn_rt, Rs.bind_ex, Rs.tryR_ok, Rs.tryR_ex]
  rw [is_refl (by omega) (by omega) (by omega) (by omega)]
  simp only [Rs.nt_ok, Bool.not_true, Bool.false_eq_true, if_false]
  rw [blank_eq (k := 17 - m) (by omega) (by omega)]
  simp only [Rs.bind_ok, Rs.b2_ok, Rs.b3_ok, Rs.pr_ok, Rs.cs_ok, Rs.an_ok, Rs.or_ok, Rs.nt_ok, Rs.noEx_ok, Rs.ite_ok, Rs.an_t, Rs.an_f, Rs.or_t, Rs.or_f, Rs.op_some, cutR_eq, thn_nx, thn_rt, Rs.bind_ex, Rs.tryR_ok, Rs.tryR_ex]
  rw [ref0 (less_wide (by omega) (by omega) (by omega))]
  simp only [Rs.nt_ok, Bool.not_true, Bool.false_eq_true, if_false, Rs.bind_ok]
  split
  · rw [blank_eq (k := 2) (by omega) (by omega), blank_eq (k := 9) (by omega) (by omega)]
    simp only [Rs.bind_ok, Rs.b2_ok, Rs.b3_ok, Rs.pr_ok, Rs.cs_ok, Rs.an_ok, Rs.or_ok, Rs.nt_ok, Rs.noEx_ok, Rs.ite_ok, Rs.an_t, Rs.an_f, Rs.or_t, Rs.or_f, Rs.op_some, cutR_eq, thn_nx, thn_rt, Rs.bind_ex, Rs.tryR_ok, Rs.tryR_ex]
    exact ref1 (times_wide (by omega) (by omega) (by omega) (by omega))
  · rw [blank_eq (k := f + 1) (by omega) (by omega)]
    simp only [Rs.bind_ok, Rs.b2_ok, Rs.b3_ok, Rs.pr_ok, Rs.cs_ok, Rs.an_ok, Rs.or_ok, Rs.nt_ok, Rs.noEx_ok, Rs.ite_ok, Rs.an_t, Rs.an_f, Rs.or_t, Rs.or_f, Rs.op_some, cutR_eq, thn_nx, thn_rt, Rs.bind_ex, Rs.tryR_ok, Rs.tryR_ex]
    exact ref1 (times_wide (by omega) (by omega) (by omega) (by omega))
section
variable {p L m n : Int} {a b z y : Int → Int} {T U : Int → Int → Int → Int}
theorem beside_ex (hL : 1 ≤ L) (hL2 : L ≤ 6) (hn : 0 ≤ n) (hn2 : n ≤ 100) (c : Int) : ∃ X : SHs, (X.1 ≠ p ∨ X.2.1 ≠ L) ∧ (∀ k : SHs → Rs Bool, ((Rs.pr (Rs.ok (7 : Int)) (Rs.pr (Rs.ok L) (Rs.pr (Rs.ok [(0 : Int)]) (Rs.pr (repT0R [[[(0 : Int)]]] L) (Rs.ok [(0 : Int)]))))).bind fun beside =>
    ((if decide (p = 7) = true then (Rs.pr (Rs.ok (5 : Int)) (Rs.pr (Rs.ok L) (Rs.pr (Rs.ok [(0 : Int)]) (Rs.pr (repT0R [[[(0 : Int)]]] L) (Rs.ok [(0 : Int)]))))).bind fun beside1 => Rs.ok beside1 else Rs.ok beside).bind fun s =>
    ((if decide (c % 2 = 1) = true then (((rngR 0 ((vec n b).length : Int)).bind fun xs => Rs.mapR (fun x => repT0R [(0 : Int)] ((vec n b).length : Int)) xs).bind fun blank_table => (Rs.pr (Rs.ok p) (Rs.pr (Rs.ok (L % 6 + 1)) (Rs.pr (Rs.ok (vec n b)) (Rs.pr (repT0R [blank_table] (L % 6 + 1)) (Rs.ok (vec n y)))))).bind fun beside2 => Rs.ok beside2) else Rs.ok s).bind k))) = k X) := by
  by_cases hc : c % 2 = 1
  · refine ⟨(p, L % 6 + 1, vec n b, List.replicate (L % 6 + 1).toNat ((rng 0 n).map fun _ => vec n fun _ => (0 : Int)), vec n y), .inr (by show L % 6 + 1 ≠ L; omega), fun k => ?_⟩
    rw [repT0R_one (by omega)]
    simp only [Rs.bind_ok, Rs.b2_ok, Rs.b3_ok, Rs.pr_ok, Rs.cs_ok, Rs.an_ok, Rs.or_ok, Rs.nt_ok, Rs.noEx_ok, Rs.ite_ok, Rs.an_t, Rs.an_f, Rs.or_t, Rs.or_f, Rs.op_some, cutR_eq, thn_nx, thn_rt, Rs.bind_ex, Rs.tryR_ok, Rs.tryR_ex, vec_len]
    rw [Int.toNat_of_nonneg hn, rngR_small (by omega) (by omega) (by omega) (by omega), zeros hn (by omega)]
    simp only [Rs.bind_ok, Rs.b2_ok, Rs.b3_ok, Rs.pr_ok, Rs.cs_ok, Rs.an_ok, Rs.or_ok, Rs.nt_ok, Rs.noEx_ok, Rs.ite_ok, Rs.an_t, Rs.an_f, Rs.or_t, Rs.or_f, Rs.op_some, cutR_eq, thn_nx, thn_rt, Rs.bind_ex, Rs.tryR_ok, Rs.tryR_ex]
    rw [mapR_ok (g := fun _ => vec n fun _ => (0 : Int)) fun x _ => rfl]
    simp only [Rs.bind_ok, Rs.b2_ok, Rs.b3_ok, Rs.pr_ok, Rs.cs_ok, Rs.an_ok, Rs.or_ok, Rs.nt_ok, Rs.noEx_ok, Rs.ite_ok, Rs.an_t, Rs.an_f, Rs.or_t, Rs.or_f, Rs.op_some, cutR_eq, thn_nx, thn_rt, Rs.bind_ex, Rs.tryR_ok, Rs.tryR_ex]
    rw [repT0R_one (by omega)]
    simp only [hc, decide_true, if_true, Rs.bind_ok, Rs.b2_ok, Rs.b3_ok, Rs.pr_ok, Rs.cs_ok, Rs.an_ok, Rs.or_ok, Rs.nt_ok, Rs.noEx_ok, Rs.ite_ok, Rs.an_t, Rs.an_f, Rs.or_t, Rs.or_f, Rs.op_some, cutR_eq, thn_nx, thn_rt, Rs.bind_ex, Rs.tryR_ok, Rs.tryR_ex]
    split <;> rfl
  · by_cases h7 : p = 7
    · refine ⟨(5, L, [0], List.replicate L.toNat [[0]], [0]), .inl (by show (5 : Int) ≠ p; omega), fun k => ?_⟩
      rw [repT0R_one (by omega)]
      simp only [Rs.bind_ok, Rs.b2_ok, Rs.b3_ok, Rs.pr_ok, Rs.cs_ok, Rs.an_ok, Rs.or_ok, Rs.nt_ok, Rs.noEx_ok, Rs.ite_ok, Rs.an_t, Rs.an_f, Rs.or_t, Rs.or_f, Rs.op_some, cutR_eq, thn_nx, thn_rt, Rs.bind_ex, Rs.tryR_ok, Rs.tryR_ex]
      rw [if_pos (by simp [h7]), Rs.bind_ok, if_neg (by simp; omega), Rs.bind_ok]
    · refine ⟨(7, L, [0], List.replicate L.toNat [[0]], [0]), .inl (by show (7 : Int) ≠ p; omega), fun k => ?_⟩
      rw [repT0R_one (by omega)]
      simp only [Rs.bind_ok, Rs.b2_ok, Rs.b3_ok, Rs.pr_ok, Rs.cs_ok, Rs.an_ok, Rs.or_ok, Rs.nt_ok, Rs.noEx_ok, Rs.ite_ok, Rs.an_t, Rs.an_f, Rs.or_t, Rs.or_f, Rs.op_some, cutR_eq, thn_nx, thn_rt, Rs.bind_ex, Rs.tryR_ok, Rs.tryR_ex]
      rw [if_neg (by simp [h7]), Rs.bind_ok, if_neg (by simp; omega), Rs.bind_ok]
theorem unlike0 (hL : 1 ≤ L) (hL2 : L ≤ 6) (hn : 0 ≤ n) (hn2 : n ≤ 100) (c : Int) : f__law_unlike () (hs p L m a T z) (hs p L n b U y) c = .ok true := by
  obtain ⟨X, hX, e⟩ := beside_ex (p := p) (L := L) (b := b) (y := y) hL hL2 hn hn2 c
  rw [f__law_unlike_eq]
  unfold m__law_unlike
  have e2 := e fun s1 => Rs.an ((Rs.pr (Rs.ok ()) (Rs.pr (Rs.ok (hs p L m a T z)) (Rs.ok s1))).bind (fun p => f__law_refused p.1 p.2.1 p.2.2)) ((Rs.pr (Rs.ok ()) (Rs.pr (Rs.ok s1) (Rs.ok (hs p L m a T z)))).bind (fun p => f__law_refused_by_any p.1 p.2.1 p.2.2))
  simp only [hs, Rs.b2_ok, Rs.cs_ok, Rs.bind_ok, Rs.b2, Rs.bind_assoc] at e2 ⊢
  refine e2.trans ?_
  simp only [Rs.bind_ok, Rs.b2_ok, Rs.b3_ok, Rs.pr_ok, Rs.cs_ok, Rs.an_ok, Rs.or_ok, Rs.nt_ok, Rs.noEx_ok, Rs.ite_ok, Rs.an_t, Rs.an_f, Rs.or_t, Rs.or_f, Rs.op_some, cutR_eq, thn_nx, thn_rt, Rs.bind_ex, Rs.tryR_ok, Rs.tryR_ex]
  show Rs.an (f__law_refused () (hs p L m a T z) X) (f__law_refused_by_any () X (hs p L m a T z)) = _
  rw [ref0 (less_ex (h := hs p L m a T z) (k := X) (hX.imp (fun q => Ne.symm q) fun q => Ne.symm q)), any0 (less_ex (h := X) (k := hs p L m a T z) hX)]
  rfl
theorem unlike1 (hL : 1 ≤ L) (hL2 : L ≤ 6) (hn : 0 ≤ n) (hn2 : n ≤ 100) (c : Int) : f__law_unlike'1 () (hs p L m a T z) (hs p L n b U y) c = .ok true := by
  obtain ⟨X, hX, e⟩ := beside_ex (p := p) (L := L) (b := b) (y := y) hL hL2 hn hn2 c
  rw [f__law_unlike'1_eq]
  unfold m__law_unlike'1
  have e2 := e fun s1 => Rs.an ((Rs.pr (Rs.ok ()) (Rs.pr (Rs.ok (hs p L m a T z)) (Rs.ok s1))).bind (fun p => f__law_refused'1 p.1 p.2.1 p.2.2)) ((Rs.pr (Rs.ok ()) (Rs.pr (Rs.ok s1) (Rs.ok (hs p L m a T z)))).bind (fun p => f__law_refused_by_any'1 p.1 p.2.1 p.2.2))
  simp only [hs, Rs.b2_ok, Rs.cs_ok, Rs.bind_ok, Rs.b2, Rs.bind_assoc] at e2 ⊢
  refine e2.trans ?_
  simp only [Rs.bind_ok, Rs.b2_ok, Rs.b3_ok, Rs.pr_ok, Rs.cs_ok, Rs.an_ok, Rs.or_ok, Rs.nt_ok, Rs.noEx_ok, Rs.ite_ok, Rs.an_t, Rs.an_f, Rs.or_t, Rs.or_f, Rs.op_some, cutR_eq, thn_nx, thn_rt, Rs.bind_ex, Rs.tryR_ok, Rs.tryR_ex]
  show Rs.an (f__law_refused'1 () (hs p L m a T z) X) (f__law_refused_by_any'1 () X (hs p L m a T z)) = _
  rw [ref1 (times_ex (h := hs p L m a T z) (k := X) (hX.imp (fun q => Ne.symm q) fun q => Ne.symm q)), any1 (times_ex (h := X) (k := hs p L m a T z) hX)]
  rfl
theorem values_eq {w : List Int} (hp : 0 < p) (hp2 : p ≤ 1000000000000000000) (hL : 0 ≤ L) (hL2 : L ≤ 100) (hm : 0 ≤ m) (hm2 : m ≤ 4) (hn : 0 ≤ n) (hn2 : n ≤ 4) (ha : Bd p m a) (hz : Bd p m z) (hT : ∀ l i, 0 ≤ l → l < L → 0 ≤ i → i < m → Bd p m (T l i)) (hb : Bd p n b) (hw : Wd L w) : f__law_values (hs p L m a T z) (hs p L n b U y) w = .ok true := by
  have h16 : m * n ≤ 4 * 4 := Int.mul_le_mul hm2 hn2 hn (by omega)
  have mn0 := Int.mul_nonneg hm hn
  have hw' : Wd L w.reverse := fun l hl => hw l (List.mem_reverse.mp hl)
  have bj : Bd p (m + n) (jn m a b) := fun i i0 i1 => by
    unfold jn
    split
    · rename_i h
      exact ha i i0 h
    · exact hb _ (by omega) (by omega)
  have bk : Bd p (m * n) (kr p n a b) := fun i _ _ => ⟨Int.emod_nonneg _ (by omega), Int.emod_lt_of_pos _ hp⟩
  have w0 : 0 ≤ wt p m a T z w := Int.emod_nonneg _ (by omega)
  have w1 : wt p m a T z w < p := Int.emod_lt_of_pos _ hp
  rw [f__law_values_eq]
  unfold m__law_values
  simp only [Rs.bind_ok, Rs.b2_ok, Rs.b3_ok, Rs.pr_ok, Rs.cs_ok, Rs.an_ok, Rs.or_ok, Rs.nt_ok, Rs.noEx_ok, Rs.ite_ok, Rs.an_t, Rs.an_f, Rs.or_t, Rs.or_f, Rs.op_some, cutR_eq, thn_nx, thn_rt, Rs.bind_ex, Rs.tryR_ok, Rs.tryR_ex, lawWorth_eq hp hp2 hm (by omega) ha hw, lawWorth_eq hp hp2 hn (by omega) hb hw]
  rw [less_eq hp hL hL2 hm hn (by omega), times_h hp hp2 hL hL2 hm (by omega) hn (by omega) (by omega) ha hz hT, back_eq hL hL2 hm (by omega)]
  simp only [Rs.bind_ok, Rs.b2_ok, Rs.b3_ok, Rs.pr_ok, Rs.cs_ok, Rs.an_ok, Rs.or_ok, Rs.nt_ok, Rs.noEx_ok, Rs.ite_ok, Rs.an_t, Rs.an_f, Rs.or_t, Rs.or_f, Rs.op_some, cutR_eq, thn_nx, thn_rt, Rs.bind_ex, Rs.tryR_ok, Rs.tryR_ex, worth_eq hp hp2 (show 0 ≤ m + n by omega) (by omega) bj hw, worth_eq hp hp2 mn0 (by omega) bk hw, worth_eq hp hp2 hm (by omega) hz hw']
  rw [wt_less hm hn, wt_times hm hn, wt_back hm, mulR_l (by omega)]
  simp only [hs, Rs.bind_ok, Rs.b2_ok, Rs.b3_ok, Rs.pr_ok, Rs.cs_ok, Rs.an_ok, Rs.or_ok, Rs.nt_ok, Rs.noEx_ok, Rs.ite_ok, Rs.an_t, Rs.an_f, Rs.or_t, Rs.or_f, Rs.op_some, cutR_eq, thn_nx, thn_rt, Rs.bind_ex, Rs.tryR_ok, Rs.tryR_ex, modR_ok hp, decide_true, Bool.not_true, Bool.false_eq_true, if_false]
end
theorem word_eq {s : List Int} {L : Int} (hL : 0 < L) (hs : s.length ≤ 1000) : ∃ w, f__law_word s L 30 = .ok w ∧ Wd L w := by
  rw [f__law_word_eq]
  unfold m__law_word
  simp only [Rs.bind_ok, Rs.b2_ok, Rs.b3_ok, Rs.pr_ok, Rs.cs_ok, Rs.an_ok, Rs.or_ok, Rs.nt_ok, Rs.noEx_ok, Rs.ite_ok, Rs.an_t, Rs.an_f, Rs.or_t, Rs.or_f, Rs.op_some, cutR_eq, thn_nx, thn_rt, Rs.bind_ex, Rs.tryR_ok, Rs.tryR_ex]
  rw [rngR_small (by omega) (by omega) (by split <;> omega) (by split <;> omega)]
  simp only [Rs.bind_ok, Rs.b2_ok, Rs.b3_ok, Rs.pr_ok, Rs.cs_ok, Rs.an_ok, Rs.or_ok, Rs.nt_ok, Rs.noEx_ok, Rs.ite_ok, Rs.an_t, Rs.an_f, Rs.or_t, Rs.or_f, Rs.op_some, cutR_eq, thn_nx, thn_rt, Rs.bind_ex, Rs.tryR_ok, Rs.tryR_ex]
  rw [mapR_ok (g := fun x => (gi s x / 3 + x) % L) fun x hx => by
    obtain ⟨q0, q1⟩ := mem_rng.mp hx
    rw [pyIx_gi q0 (by split at q1 <;> omega)]
    simp only [Rs.bind_ok, Rs.b2_ok, Rs.b3_ok, Rs.pr_ok, Rs.cs_ok, Rs.an_ok, Rs.or_ok, Rs.nt_ok, Rs.noEx_ok, Rs.ite_ok, Rs.an_t, Rs.an_f, Rs.or_t, Rs.or_f, Rs.op_some, cutR_eq, thn_nx, thn_rt, Rs.bind_ex, Rs.tryR_ok, Rs.tryR_ex]
    exact modR_ok hL]
  refine ⟨_, rfl, fun l hl => ?_⟩
  obtain ⟨x, _, rfl⟩ := List.mem_map.mp hl
  exact ⟨Int.emod_nonneg _ (by omega), Int.emod_lt_of_pos _ hL⟩
theorem law_true (ns : List Int) (hns : ns.length ≤ 63) : f_law ns = .ok true := by
  obtain ⟨p, ep, hp, hp2⟩ := law_p (cellv ns 0)
  rw [f_law_eq]
  unfold m_law
  simp only [Rs.bind_ok, Rs.b2_ok, Rs.b3_ok, Rs.pr_ok, Rs.cs_ok, Rs.an_ok, Rs.or_ok, Rs.nt_ok, Rs.noEx_ok, Rs.ite_ok, Rs.an_t, Rs.an_f, Rs.or_t, Rs.or_f, Rs.op_some, cutR_eq, thn_nx, thn_rt, Rs.bind_ex, Rs.tryR_ok, Rs.tryR_ex, cell_eq (show (0 : Int) ≤ 0 by omega), cell_eq (show (0 : Int) ≤ 1 by omega), cell_eq (show (0 : Int) ≤ 2 by omega), cell_eq (show (0 : Int) ≤ 3 by omega), cell_eq (show (0 : Int) ≤ 4 by omega), ep]
  obtain ⟨L, hLe⟩ : ∃ L, L = 1 + cellv ns 1 % 3 + cellv ns 1 / 3 % 4 / 3 * 3 := ⟨_, rfl⟩
  have hL : 1 ≤ L := by omega
  have hL2 : L ≤ 6 := by omega
  rw [← hLe]
  have h4 : 3 ≤ 4 - L / 4 ∧ 4 - L / 4 ≤ 4 := by omega
  rw [modR_ok (by omega), modR_ok (by omega)]
  simp only [Rs.bind_ok, Rs.b2_ok, Rs.b3_ok, Rs.pr_ok, Rs.cs_ok, Rs.an_ok, Rs.or_ok, Rs.nt_ok, Rs.noEx_ok, Rs.ite_ok, Rs.an_t, Rs.an_f, Rs.or_t, Rs.or_f, Rs.op_some, cutR_eq, thn_nx, thn_rt, Rs.bind_ex, Rs.tryR_ok, Rs.tryR_ex]
  obtain ⟨m, hm⟩ : ∃ m, m = cellv ns 2 % (4 - L / 4) := ⟨_, rfl⟩
  obtain ⟨n, hn⟩ : ∃ n, n = cellv ns 3 % (4 - L / 4) := ⟨_, rfl⟩
  have m0 : 0 ≤ m := by rw [hm]; exact Int.emod_nonneg _ (by omega)
  have m1 : m ≤ 3 := by have := Int.emod_lt_of_pos (cellv ns 2) (show 0 < 4 - L / 4 by omega); omega
  have n0 : 0 ≤ n := by rw [hn]; exact Int.emod_nonneg _ (by omega)
  have n1 : n ≤ 3 := by have := Int.emod_lt_of_pos (cellv ns 3) (show 0 < 4 - L / 4 by omega); omega
  rw [← hm, ← hn]
  have b1 := Int.mul_nonneg (show 0 ≤ L by omega) m0
  have b2 : L * m ≤ 6 * 3 := Int.mul_le_mul hL2 m1 m0 (by omega)
  have b3 := Int.mul_nonneg b1 m0
  have b4 : L * m * m ≤ 18 * 3 := Int.mul_le_mul b2 m1 m0 (by omega)
  have mn : m * n ≤ 3 * 3 := Int.mul_le_mul m1 n1 n0 (by omega)
  obtain ⟨a, T, z, e1, ha, hz, hT⟩ := house_eq (s := ns) (at_ := 5) (k := m) (p := p) (L := L) hp (by omega) (by omega) m0 (by omega) (by omega) hL2
  rw [e1]
  simp only [Rs.bind_ok, Rs.b2_ok, Rs.b3_ok, Rs.pr_ok, Rs.cs_ok, Rs.an_ok, Rs.or_ok, Rs.nt_ok, Rs.noEx_ok, Rs.ite_ok, Rs.an_t, Rs.an_f, Rs.or_t, Rs.or_f, Rs.op_some, cutR_eq, thn_nx, thn_rt, Rs.bind_ex, Rs.tryR_ok, Rs.tryR_ex]
  rw [mulR_l (by omega)]
  simp only [Rs.bind_ok, Rs.b2_ok, Rs.b3_ok, Rs.pr_ok, Rs.cs_ok, Rs.an_ok, Rs.or_ok, Rs.nt_ok, Rs.noEx_ok, Rs.ite_ok, Rs.an_t, Rs.an_f, Rs.or_t, Rs.or_f, Rs.op_some, cutR_eq, thn_nx, thn_rt, Rs.bind_ex, Rs.tryR_ok, Rs.tryR_ex]
  rw [mulR_l (by omega)]
  simp only [Rs.bind_ok, Rs.b2_ok, Rs.b3_ok, Rs.pr_ok, Rs.cs_ok, Rs.an_ok, Rs.or_ok, Rs.nt_ok, Rs.noEx_ok, Rs.ite_ok, Rs.an_t, Rs.an_f, Rs.or_t, Rs.or_f, Rs.op_some, cutR_eq, thn_nx, thn_rt, Rs.bind_ex, Rs.tryR_ok, Rs.tryR_ex]
  obtain ⟨b, U, y, e2, hb, hy, hU⟩ := house_eq (s := ns) (at_ := 5 + 2 * m + L * m * m) (k := n) (p := p) (L := L) hp (by omega) (by omega) n0 (by omega) (by omega) hL2
  rw [e2]
  simp only [Rs.bind_ok, Rs.b2_ok, Rs.b3_ok, Rs.pr_ok, Rs.cs_ok, Rs.an_ok, Rs.or_ok, Rs.nt_ok, Rs.noEx_ok, Rs.ite_ok, Rs.an_t, Rs.an_f, Rs.or_t, Rs.or_f, Rs.op_some, cutR_eq, thn_nx, thn_rt, Rs.bind_ex, Rs.tryR_ok, Rs.tryR_ex]
  obtain ⟨w, ew, hw⟩ := word_eq (s := ns) (L := L) (by omega) (by omega)
  rw [less_eq hp (by omega) (by omega) m0 n0 (by omega), lawLess_eq hp (by omega) (by omega) m0 (by omega) n0 (by omega)]
  simp only [Rs.bind_ok, Rs.b2_ok, Rs.b3_ok, Rs.pr_ok, Rs.cs_ok, Rs.an_ok, Rs.or_ok, Rs.nt_ok, Rs.noEx_ok, Rs.ite_ok, Rs.an_t, Rs.an_f, Rs.or_t, Rs.or_f, Rs.op_some, cutR_eq, thn_nx, thn_rt, Rs.bind_ex, Rs.tryR_ok, Rs.tryR_ex]
  rw [is_refl (by omega) (by omega) (by omega) (by omega)]
  simp only [Rs.nt_ok, Bool.not_true, Bool.false_eq_true, if_false]
  rw [times_h hp hp2 (by omega) (by omega) m0 (by omega) n0 (by omega) (by omega) ha hz hT, lawTimes_eq hp hp2 (by omega) (by omega) m0 (by omega) n0 (by omega) ha hz hT]
  simp only [Rs.bind_ok, Rs.b2_ok, Rs.b3_ok, Rs.pr_ok, Rs.cs_ok, Rs.an_ok, Rs.or_ok, Rs.nt_ok, Rs.noEx_ok, Rs.ite_ok, Rs.an_t, Rs.an_f, Rs.or_t, Rs.or_f, Rs.op_some, cutR_eq, thn_nx, thn_rt, Rs.bind_ex, Rs.tryR_ok, Rs.tryR_ex]
  rw [is_refl (by omega) (by omega) (Int.mul_nonneg m0 n0) (by omega)]
  simp only [Rs.nt_ok, Bool.not_true, Bool.false_eq_true, if_false]
  rw [back_eq (by omega) (by omega) m0 (by omega), lawBack_eq (by omega) (by omega) m0 (by omega)]
  simp only [Rs.bind_ok, Rs.b2_ok, Rs.b3_ok, Rs.pr_ok, Rs.cs_ok, Rs.an_ok, Rs.or_ok, Rs.nt_ok, Rs.noEx_ok, Rs.ite_ok, Rs.an_t, Rs.an_f, Rs.or_t, Rs.or_f, Rs.op_some, cutR_eq, thn_nx, thn_rt, Rs.bind_ex, Rs.tryR_ok, Rs.tryR_ex]
  rw [is_refl (by omega) (by omega) (by omega) (by omega), back_eq (by omega) (by omega) n0 (by omega)]
  simp only [Rs.bind_ok, Rs.b2_ok, Rs.b3_ok, Rs.pr_ok, Rs.cs_ok, Rs.an_ok, Rs.or_ok, Rs.nt_ok, Rs.noEx_ok, Rs.ite_ok, Rs.an_t, Rs.an_f, Rs.or_t, Rs.or_f, Rs.op_some, cutR_eq, thn_nx, thn_rt, Rs.bind_ex, Rs.tryR_ok, Rs.tryR_ex]
  rw [back_eq (by omega) (by omega) n0 (by omega)]
  simp only [Rs.bind_ok, Rs.b2_ok, Rs.b3_ok, Rs.pr_ok, Rs.cs_ok, Rs.an_ok, Rs.or_ok, Rs.nt_ok, Rs.noEx_ok, Rs.ite_ok, Rs.an_t, Rs.an_f, Rs.or_t, Rs.or_f, Rs.op_some, cutR_eq, thn_nx, thn_rt, Rs.bind_ex, Rs.tryR_ok, Rs.tryR_ex]
  rw [is_refl (by omega) (by omega) (by omega) (by omega), ew]
  simp only [Rs.bind_ok, Rs.b2_ok, Rs.b3_ok, Rs.pr_ok, Rs.cs_ok, Rs.an_ok, Rs.or_ok, Rs.nt_ok, Rs.noEx_ok, Rs.ite_ok, Rs.an_t, Rs.an_f, Rs.or_t, Rs.or_f, Rs.op_some, cutR_eq, thn_nx, thn_rt, Rs.bind_ex, Rs.tryR_ok, Rs.tryR_ex, Rs.nt_ok, Bool.not_true, Bool.or_self, Bool.false_eq_true, if_false]
  rw [values_eq hp hp2 (by omega) (by omega) m0 (by omega) n0 (by omega) ha hz hT hb hw]
  simp only [Rs.bind_ok, Rs.b2_ok, Rs.b3_ok, Rs.pr_ok, Rs.cs_ok, Rs.an_ok, Rs.or_ok, Rs.nt_ok, Rs.noEx_ok, Rs.ite_ok, Rs.an_t, Rs.an_f, Rs.or_t, Rs.or_f, Rs.op_some, cutR_eq, thn_nx, thn_rt, Rs.bind_ex, Rs.tryR_ok, Rs.tryR_ex, Rs.nt_ok, Bool.not_true, Bool.false_eq_true, if_false]
  rw [unlike0 hL hL2 n0 (by omega), unlike1 hL hL2 n0 (by omega)]
  simp only [Rs.bind_ok, Rs.b2_ok, Rs.b3_ok, Rs.pr_ok, Rs.cs_ok, Rs.an_ok, Rs.or_ok, Rs.nt_ok, Rs.noEx_ok, Rs.ite_ok, Rs.an_t, Rs.an_f, Rs.or_t, Rs.or_f, Rs.op_some, cutR_eq, thn_nx, thn_rt, Rs.bind_ex, Rs.tryR_ok, Rs.tryR_ex, Rs.nt_ok, Bool.not_true, Bool.or_self, Bool.false_eq_true, if_false]
  exact edges_eq hp hp2
end Gd

namespace Gd
open PySem PySem.Spec PyProof.Rows L2
theorem dEx {K : PySem.W.Frag} {x : Str} {st : Stmt} {f : Addr} {od an : Option Addr} {sl : Array (Option Value)} {oc kV dc pm cd ct : Value} (a : PySem.W.nsIn K mainGlobals x = some (some (.ref f)))
    (l : K.lookup f = some ⟨oc, od, .func (PySem.W.fnOf x x (defArgs st) (defBody st) (defScope st) .none kV dc pm an cd ct), sl⟩) (c : PySem.W.codeIn K cd x = true) (k : PySem.W.keepIn K (.ref f) = true) :
    ∃ (f : Addr) (fd : FuncData), PySem.W.nsIn K mainGlobals x = some (some (.ref f)) ∧ Fun K x x st f fd := ⟨f, _, a, fun_mk l c k⟩
theorem lEx {K : PySem.W.Frag} {x : Str} {st : Stmt} {f : Addr} {od an : Option Addr} {sl : Array (Option Value)} {oc kV dc pm cd ct : Value} (a : PySem.W.nsIn K mainGlobals x = some (some (.ref f)))
    (l : K.lookup f = some ⟨oc, od, .func (PySem.W.fnOf x x (defArgs st) (defBody st) (defScope st) .none kV dc pm an cd ct), sl⟩) (c : PySem.W.codeIn K cd x = true) (k : PySem.W.keepIn K (.ref f) = true) (p : Str)
    (hb : ∀ (s : Shared) (v : Value), BindsTo s (PySem.W.fnOf x x (defArgs st) (defBody st) (defScope st) .none kV dc pm an cd ct) ⟨[v], []⟩ [(p, v)]) :
    ∃ (f : Addr) (fd : FuncData), (PySem.W.nsIn K mainGlobals x = some (some (.ref f)) ∧ Fun K x x st f fd) ∧ ∀ (s : Shared) (v : Value), BindsTo s fd ⟨[v], []⟩ [(p, v)] := ⟨f, _, ⟨a, fun_mk l c k⟩, hb⟩
def CEx (K : PySem.W.Frag) (x : Str) (C : Addr) : Prop := PySem.W.nsIn K mainGlobals x = some (some (.ref C)) ∧ PySem.W.keepIn K (.ref C) = true ∧ PySem.W.subIn K (.ref C) (.type "BaseException") = some true ∧ PySem.W.typeIn K (.ref C) = some (.type "type") ∧ PySem.W.excIn K C [.type "ValueError", .type "Exception", .type "BaseException", .type "object"] "ValueError.__new__" = true ∧ PySem.W.subIn K (.ref C) (.type "ValueError") = some true ∧ ExcC K C
theorem cMk {K : PySem.W.Frag} {x : Str} {C : Addr} (a : PySem.W.nsIn K mainGlobals x = some (some (.ref C))) (k : PySem.W.keepIn K (.ref C) = true) (b : PySem.W.subIn K (.ref C) (.type "BaseException") = some true) (t : PySem.W.typeIn K (.ref C) = some (.type "type"))
    (e : PySem.W.excIn K C [.type "ValueError", .type "Exception", .type "BaseException", .type "object"] "ValueError.__new__" = true) (v : PySem.W.subIn K (.ref C) (.type "ValueError") = some true)
    (hg : PySem.W.findIn K (.ref C) "__getattribute__" = some (some (.builtin "BaseException.__getattribute__"))) (hk : PySem.W.findIn K (.ref C) "__getattr__" = some none) (hd : PySem.W.hasDictIn K C = true) (ha : PySem.W.findIn K (.ref C) "__class__" = some (some (.builtin "object.__class__")))
    (hn : PySem.W.specialIn K (.builtin "object.__class__") "__get__" = some (some (.builtin "getset_descriptor.__get__"))) (ht : PySem.W.takesIn K (.builtin "object.__class__") = some true) (hm : PySem.W.mroIn K C (.type "object") = some true) : CEx K x C := ⟨a, k, b, t, e, v, hg, hk, b, hd, ha, hn, ht, hm⟩
theorem kit_sub {K : PySem.W.Frag} {C : Addr} {b : Bool} (h : PySem.W.subIn K (.ref C) (.type "ValueError") = some b) : PySem.W.kitOne K (.ref C) (.type "ValueError") = some b := by
  unfold PySem.W.kitOne PySem.W.kitCls
  rw [if_neg (by simp)]
  show (if PySem.W.kitMeta "ValueError" = true then PySem.W.subIn K (.ref C) (.type "ValueError") else none) = some b
  rw [if_pos (by decide +kernel)]
  exact h
theorem kit_of_exm {K : PySem.W.Frag} {C D : Addr} {b : Bool} (h : PySem.W.exmOne K (.ref D) (.ref C) = some b) (hb : PySem.W.subIn K (.ref C) (.type "BaseException") = some true) (hcc : PySem.W.exmOne K (.ref C) (.ref C) = some true) : PySem.W.kitOne K (.ref D) (.ref C) = some b := by
  have h1 : PySem.W.exmOne K (.ref D) (.ref C) = PySem.W.kitCls K (.ref D) (.ref C) := by
    unfold PySem.W.exmOne
    rw [hb] <;> rfl
  unfold PySem.W.kitOne
  by_cases e : D = C
  · subst e
    rw [if_pos (by simp)]
    exact hcc.symm.trans h
  · rw [if_neg (by simpa using e), ← h1]
    exact h
theorem xEx {K : PySem.W.Frag} {C1 C2 C3 : Addr} (y1 : CEx K "AskError" C1) (y2 : CEx K "BadHouse" C2) (y3 : CEx K "BadWord" C3) (p1_1 : PySem.W.subIn K (.ref C1) (.ref C1) = some true) (p1_2 : PySem.W.subIn K (.ref C2) (.ref C1) = some true) (p1_3 : PySem.W.subIn K (.ref C3) (.ref C1) = some true) (p2_1 : PySem.W.subIn K (.ref C1) (.ref C2) = some false) (p2_2 : PySem.W.subIn K (.ref C2) (.ref C2) = some true) (p2_3 : PySem.W.subIn K (.ref C3) (.ref C2) = some false) (p3_1 : PySem.W.subIn K (.ref C1) (.ref C3) = some false) (p3_2 : PySem.W.subIn K (.ref C2) (.ref C3) = some false) (p3_3 : PySem.W.subIn K (.ref C3) (.ref C3) = some true) : ∃ C1 C2 C3, CEx K "AskError" C1 ∧ CEx K "BadHouse" C2 ∧ CEx K "BadWord" C3 ∧ PySem.W.exmOne K (.ref C1) (.ref C1) = some true ∧ PySem.W.exmOne K (.ref C2) (.ref C1) = some true ∧ PySem.W.exmOne K (.ref C3) (.ref C1) = some true ∧ PySem.W.exmOne K (.ref C1) (.ref C2) = some false ∧ PySem.W.exmOne K (.ref C2) (.ref C2) = some true ∧ PySem.W.exmOne K (.ref C3) (.ref C2) = some false ∧ PySem.W.exmOne K (.ref C1) (.ref C3) = some false ∧ PySem.W.exmOne K (.ref C2) (.ref C3) = some false ∧ PySem.W.exmOne K (.ref C3) (.ref C3) = some true := ⟨C1, C2, C3, y1, y2, y3, PySem.W.exm_ref y1.2.2.1 y1.2.2.2.2.2.2.hd y1.2.2.2.1 p1_1, PySem.W.exm_ref y1.2.2.1 y1.2.2.2.2.2.2.hd y1.2.2.2.1 p1_2, PySem.W.exm_ref y1.2.2.1 y1.2.2.2.2.2.2.hd y1.2.2.2.1 p1_3, PySem.W.exm_ref y2.2.2.1 y2.2.2.2.2.2.2.hd y2.2.2.2.1 p2_1, PySem.W.exm_ref y2.2.2.1 y2.2.2.2.2.2.2.hd y2.2.2.2.1 p2_2, PySem.W.exm_ref y2.2.2.1 y2.2.2.2.2.2.2.hd y2.2.2.2.1 p2_3, PySem.W.exm_ref y3.2.2.1 y3.2.2.2.2.2.2.hd y3.2.2.2.1 p3_1, PySem.W.exm_ref y3.2.2.1 y3.2.2.2.2.2.2.hd y3.2.2.2.1 p3_2, PySem.W.exm_ref y3.2.2.1 y3.2.2.2.2.2.2.hd y3.2.2.2.1 p3_3⟩
theorem cx_no {P : Program} {w : World} {H : Hp} {s : Shared} {e : Value} {s' : Shared} {l : List Env} (h : L2.CX P w l H s (fun _ _ _ => False) e s') : False := by
  obtain ⟨_, _, _, _, _, _, _, _, _, _, _, _, z⟩ := h
  exact z
def spLaw (K : PySem.W.Frag) : Sp := fun vs H Q _ => ∃ (a : Addr) (ns : List Int), vs = [.ref a] ∧ SqL K H a (ns.map V.int) ∧ ns.length ≤ 63 ∧ ∀ H', Q (.bl true) H'
theorem all_mk {l : PySem.W.OpenLaw} {w : World} {K : PySem.W.Frag} {h : Heap} {mg : Str → Option Value} {fa : Addr} (X : K.In h) (G : h.Ns mainGlobals mg) (hfa : mg "law" = some (.ref fa))
    (h_is_word : ∃ (f : Addr) (fd : FuncData), PySem.W.nsIn K mainGlobals "is_word" = some (some (.ref f)) ∧ Fun K "is_word" "is_word" (topS 5) f fd)
    (h_scaled : ∃ (f : Addr) (fd : FuncData), PySem.W.nsIn K mainGlobals "scaled" = some (some (.ref f)) ∧ Fun K "scaled" "scaled" (topS 7) f fd)
    (h_added : ∃ (f : Addr) (fd : FuncData), PySem.W.nsIn K mainGlobals "added" = some (some (.ref f)) ∧ Fun K "added" "added" (topS 8) f fd)
    (h_product : ∃ (f : Addr) (fd : FuncData), PySem.W.nsIn K mainGlobals "product" = some (some (.ref f)) ∧ Fun K "product" "product" (topS 9) f fd)
    (h_made_of : ∃ (f : Addr) (fd : FuncData), PySem.W.nsIn K mainGlobals "made_of" = some (some (.ref f)) ∧ Fun K "made_of" "made_of" (topS 11) f fd)
    (h_row_behind : ∃ (f : Addr) (fd : FuncData), PySem.W.nsIn K mainGlobals "row_behind" = some (some (.ref f)) ∧ Fun K "row_behind" "row_behind" (topS 14) f fd)
    (h_worth : ∃ (f : Addr) (fd : FuncData), PySem.W.nsIn K mainGlobals "worth" = some (some (.ref f)) ∧ Fun K "worth" "worth" (topS 15) f fd)
    (h_ask_like : ∃ (f : Addr) (fd : FuncData), PySem.W.nsIn K mainGlobals "ask_like" = some (some (.ref f)) ∧ Fun K "ask_like" "ask_like" (topS 16) f fd)
    (h_joined_sums : ∃ (f : Addr) (fd : FuncData), PySem.W.nsIn K mainGlobals "joined_sums" = some (some (.ref f)) ∧ Fun K "joined_sums" "joined_sums" (topS 17) f fd)
    (h_sums_less : ∃ (f : Addr) (fd : FuncData), PySem.W.nsIn K mainGlobals "sums_less" = some (some (.ref f)) ∧ Fun K "sums_less" "sums_less" (topS 18) f fd)
    (h_crossed_row : ∃ (f : Addr) (fd : FuncData), PySem.W.nsIn K mainGlobals "crossed_row" = some (some (.ref f)) ∧ Fun K "crossed_row" "crossed_row" (topS 19) f fd)
    (h_sums_times : ∃ (f : Addr) (fd : FuncData), PySem.W.nsIn K mainGlobals "sums_times" = some (some (.ref f)) ∧ Fun K "sums_times" "sums_times" (topS 20) f fd)
    (h_table_column : ∃ (f : Addr) (fd : FuncData), PySem.W.nsIn K mainGlobals "table_column" = some (some (.ref f)) ∧ Fun K "table_column" "table_column" (topS 21) f fd)
    (h_sums_back : ∃ (f : Addr) (fd : FuncData), PySem.W.nsIn K mainGlobals "sums_back" = some (some (.ref f)) ∧ Fun K "sums_back" "sums_back" (topS 22) f fd)
    (h__law_cell : ∃ (f : Addr) (fd : FuncData), PySem.W.nsIn K mainGlobals "_law_cell" = some (some (.ref f)) ∧ Fun K "_law_cell" "_law_cell" (topS 24) f fd)
    (h__law_is_prime : ∃ (f : Addr) (fd : FuncData), PySem.W.nsIn K mainGlobals "_law_is_prime" = some (some (.ref f)) ∧ Fun K "_law_is_prime" "_law_is_prime" (topS 25) f fd)
    (h__law_prime : ∃ (f : Addr) (fd : FuncData), PySem.W.nsIn K mainGlobals "_law_prime" = some (some (.ref f)) ∧ Fun K "_law_prime" "_law_prime" (topS 26) f fd)
    (h__law_whole : ∃ (f : Addr) (fd : FuncData), PySem.W.nsIn K mainGlobals "_law_whole" = some (some (.ref f)) ∧ Fun K "_law_whole" "_law_whole" (topS 27) f fd)
    (h__law_number : ∃ (f : Addr) (fd : FuncData), PySem.W.nsIn K mainGlobals "_law_number" = some (some (.ref f)) ∧ Fun K "_law_number" "_law_number" (topS 28) f fd)
    (h__law_row : ∃ (f : Addr) (fd : FuncData), PySem.W.nsIn K mainGlobals "_law_row" = some (some (.ref f)) ∧ Fun K "_law_row" "_law_row" (topS 29) f fd)
    (h__law_row_is : ∃ (f : Addr) (fd : FuncData), PySem.W.nsIn K mainGlobals "_law_row_is" = some (some (.ref f)) ∧ Fun K "_law_row_is" "_law_row_is" (topS 30) f fd)
    (h__law_house : ∃ (f : Addr) (fd : FuncData), PySem.W.nsIn K mainGlobals "_law_house" = some (some (.ref f)) ∧ Fun K "_law_house" "_law_house" (topS 31) f fd)
    (h__law_step : ∃ (f : Addr) (fd : FuncData), PySem.W.nsIn K mainGlobals "_law_step" = some (some (.ref f)) ∧ Fun K "_law_step" "_law_step" (topS 32) f fd)
    (h__law_times : ∃ (f : Addr) (fd : FuncData), PySem.W.nsIn K mainGlobals "_law_times" = some (some (.ref f)) ∧ Fun K "_law_times" "_law_times" (topS 33) f fd)
    (h__law_behind : ∃ (f : Addr) (fd : FuncData), PySem.W.nsIn K mainGlobals "_law_behind" = some (some (.ref f)) ∧ Fun K "_law_behind" "_law_behind" (topS 34) f fd)
    (h__law_word : ∃ (f : Addr) (fd : FuncData), PySem.W.nsIn K mainGlobals "_law_word" = some (some (.ref f)) ∧ Fun K "_law_word" "_law_word" (topS 35) f fd)
    (h__law_house_is : ∃ (f : Addr) (fd : FuncData), PySem.W.nsIn K mainGlobals "_law_house_is" = some (some (.ref f)) ∧ Fun K "_law_house_is" "_law_house_is" (topS 36) f fd)
    (h__law_less : ∃ (f : Addr) (fd : FuncData), PySem.W.nsIn K mainGlobals "_law_less" = some (some (.ref f)) ∧ Fun K "_law_less" "_law_less" (topS 37) f fd)
    (h__law_cross : ∃ (f : Addr) (fd : FuncData), PySem.W.nsIn K mainGlobals "_law_cross" = some (some (.ref f)) ∧ Fun K "_law_cross" "_law_cross" (topS 38) f fd)
    (h__law_times_of : ∃ (f : Addr) (fd : FuncData), PySem.W.nsIn K mainGlobals "_law_times_of" = some (some (.ref f)) ∧ Fun K "_law_times_of" "_law_times_of" (topS 39) f fd)
    (h__law_back : ∃ (f : Addr) (fd : FuncData), PySem.W.nsIn K mainGlobals "_law_back" = some (some (.ref f)) ∧ Fun K "_law_back" "_law_back" (topS 40) f fd)
    (h__law_blank : ∃ (f : Addr) (fd : FuncData), PySem.W.nsIn K mainGlobals "_law_blank" = some (some (.ref f)) ∧ Fun K "_law_blank" "_law_blank" (topS 41) f fd)
    (h__law_refused : ∃ (f : Addr) (fd : FuncData), PySem.W.nsIn K mainGlobals "_law_refused" = some (some (.ref f)) ∧ Fun K "_law_refused" "_law_refused" (topS 42) f fd)
    (h__law_refused_by_any : ∃ (f : Addr) (fd : FuncData), PySem.W.nsIn K mainGlobals "_law_refused_by_any" = some (some (.ref f)) ∧ Fun K "_law_refused_by_any" "_law_refused_by_any" (topS 43) f fd)
    (h__law_edges : ∃ (f : Addr) (fd : FuncData), PySem.W.nsIn K mainGlobals "_law_edges" = some (some (.ref f)) ∧ Fun K "_law_edges" "_law_edges" (topS 44) f fd)
    (h__law_worth : ∃ (f : Addr) (fd : FuncData), PySem.W.nsIn K mainGlobals "_law_worth" = some (some (.ref f)) ∧ Fun K "_law_worth" "_law_worth" (topS 45) f fd)
    (h__law_values : ∃ (f : Addr) (fd : FuncData), PySem.W.nsIn K mainGlobals "_law_values" = some (some (.ref f)) ∧ Fun K "_law_values" "_law_values" (topS 46) f fd)
    (h__law_unlike : ∃ (f : Addr) (fd : FuncData), PySem.W.nsIn K mainGlobals "_law_unlike" = some (some (.ref f)) ∧ Fun K "_law_unlike" "_law_unlike" (topS 47) f fd)
    (h_law : ∃ (f : Addr) (fd : FuncData), (PySem.W.nsIn K mainGlobals "law" = some (some (.ref f)) ∧ Fun K "law" "law" (topS 48) f fd) ∧ ∀ (s : Shared) (v : Value), BindsTo s fd ⟨[v], []⟩ [("script", v)])
    (hx : ∃ C1 C2 C3 : Addr, CEx K "AskError" C1 ∧ CEx K "BadHouse" C2 ∧ CEx K "BadWord" C3 ∧ PySem.W.exmOne K (.ref C1) (.ref C1) = some true ∧ PySem.W.exmOne K (.ref C2) (.ref C1) = some true ∧ PySem.W.exmOne K (.ref C3) (.ref C1) = some true ∧ PySem.W.exmOne K (.ref C1) (.ref C2) = some false ∧ PySem.W.exmOne K (.ref C2) (.ref C2) = some true ∧ PySem.W.exmOne K (.ref C3) (.ref C2) = some false ∧ PySem.W.exmOne K (.ref C1) (.ref C3) = some false ∧ PySem.W.exmOne K (.ref C2) (.ref C3) = some false ∧ PySem.W.exmOne K (.ref C3) (.ref C3) = some true)
    (z_ValueError : PySem.W.nsIn K mainGlobals "ValueError" = some none)
    (z_bool : PySem.W.nsIn K mainGlobals "bool" = some none)
    (z_int : PySem.W.nsIn K mainGlobals "int" = some none)
    (z_isinstance : PySem.W.nsIn K mainGlobals "isinstance" = some none)
    (z_len : PySem.W.nsIn K mainGlobals "len" = some none)
    (z_max : PySem.W.nsIn K mainGlobals "max" = some none)
    (z_min : PySem.W.nsIn K mainGlobals "min" = some none)
    (z_range : PySem.W.nsIn K mainGlobals "range" = some none)
    (z_reversed : PySem.W.nsIn K mainGlobals "reversed" = some none)
    (z_sum : PySem.W.nsIn K mainGlobals "sum" = some none)
    (z_tuple : PySem.W.nsIn K mainGlobals "tuple" = some none)
    (c_WIDEST : ∃ t, PySem.W.nsIn K mainGlobals "WIDEST" = some (some (.int 16 t))) :
    ∃ fd : FuncData, (∀ (s : Shared) (v : Value), BindsTo s fd ⟨[v], []⟩ [("script", v)]) ∧ ∀ base : Heap, K.In base → base.Ns mainGlobals mg → FnOk l.prog w K mg base (L2.CX l.prog w) 6 fa fd ["script"] (spLaw K) := by
  obtain ⟨f5, d5, n5, F5⟩ := h_is_word
  obtain ⟨f7, d7, n7, F7⟩ := h_scaled
  obtain ⟨f8, d8, n8, F8⟩ := h_added
  obtain ⟨f9, d9, n9, F9⟩ := h_product
  obtain ⟨f11, d11, n11, F11⟩ := h_made_of
  obtain ⟨f14, d14, n14, F14⟩ := h_row_behind
  obtain ⟨f15, d15, n15, F15⟩ := h_worth
  obtain ⟨f16, d16, n16, F16⟩ := h_ask_like
  obtain ⟨f17, d17, n17, F17⟩ := h_joined_sums
  obtain ⟨f18, d18, n18, F18⟩ := h_sums_less
  obtain ⟨f19, d19, n19, F19⟩ := h_crossed_row
  obtain ⟨f20, d20, n20, F20⟩ := h_sums_times
  obtain ⟨f21, d21, n21, F21⟩ := h_table_column
  obtain ⟨f22, d22, n22, F22⟩ := h_sums_back
  obtain ⟨f24, d24, n24, F24⟩ := h__law_cell
  obtain ⟨f25, d25, n25, F25⟩ := h__law_is_prime
  obtain ⟨f26, d26, n26, F26⟩ := h__law_prime
  obtain ⟨f27, d27, n27, F27⟩ := h__law_whole
  obtain ⟨f28, d28, n28, F28⟩ := h__law_number
  obtain ⟨f29, d29, n29, F29⟩ := h__law_row
  obtain ⟨f30, d30, n30, F30⟩ := h__law_row_is
  obtain ⟨f31, d31, n31, F31⟩ := h__law_house
  obtain ⟨f32, d32, n32, F32⟩ := h__law_step
  obtain ⟨f33, d33, n33, F33⟩ := h__law_times
  obtain ⟨f34, d34, n34, F34⟩ := h__law_behind
  obtain ⟨f35, d35, n35, F35⟩ := h__law_word
  obtain ⟨f36, d36, n36, F36⟩ := h__law_house_is
  obtain ⟨f37, d37, n37, F37⟩ := h__law_less
  obtain ⟨f38, d38, n38, F38⟩ := h__law_cross
  obtain ⟨f39, d39, n39, F39⟩ := h__law_times_of
  obtain ⟨f40, d40, n40, F40⟩ := h__law_back
  obtain ⟨f41, d41, n41, F41⟩ := h__law_blank
  obtain ⟨f42, d42, n42, F42⟩ := h__law_refused
  obtain ⟨f43, d43, n43, F43⟩ := h__law_refused_by_any
  obtain ⟨f44, d44, n44, F44⟩ := h__law_edges
  obtain ⟨f45, d45, n45, F45⟩ := h__law_worth
  obtain ⟨f46, d46, n46, F46⟩ := h__law_values
  obtain ⟨f47, d47, n47, F47⟩ := h__law_unlike
  obtain ⟨f48, d48, ⟨n48, F48⟩, bl⟩ := h_law
  obtain ⟨C1, C2, C3, y1, y2, y3, p1_1, p1_2, p1_3, p2_1, p2_2, p2_3, p3_1, p3_2, p3_3⟩ := hx
  have e : f48 = fa := Value.ref.inj (Option.some.inj ((PySem.W.mg_of X G n48).symm.trans hfa))
  subst e
  let ad : Nat → Addr := fun n => match n with | 5 => f5 | 7 => f7 | 8 => f8 | 9 => f9 | 11 => f11 | 14 => f14 | 15 => f15 | 16 => f16 | 17 => f17 | 18 => f18 | 19 => f19 | 20 => f20 | 21 => f21 | 22 => f22 | 24 => f24 | 25 => f25 | 26 => f26 | 27 => f27 | 28 => f28 | 29 => f29 | 30 => f30 | 31 => f31 | 32 => f32 | 33 => f33 | 34 => f34 | 35 => f35 | 36 => f36 | 37 => f37 | 38 => f38 | 39 => f39 | 40 => f40 | 41 => f41 | 42 => f42 | 43 => f43 | 44 => f44 | 45 => f45 | 46 => f46 | 47 => f47 | 48 => f48 | _ => 0
  let fdn : Nat → FuncData := fun n => match n with | 5 => d5 | 7 => d7 | 8 => d8 | 9 => d9 | 11 => d11 | 14 => d14 | 15 => d15 | 16 => d16 | 17 => d17 | 18 => d18 | 19 => d19 | 20 => d20 | 21 => d21 | 22 => d22 | 24 => d24 | 25 => d25 | 26 => d26 | 27 => d27 | 28 => d28 | 29 => d29 | 30 => d30 | 31 => d31 | 32 => d32 | 33 => d33 | 34 => d34 | 35 => d35 | 36 => d36 | 37 => d37 | 38 => d38 | 39 => d39 | 40 => d40 | 41 => d41 | 42 => d42 | 43 => d43 | 44 => d44 | 45 => d45 | 46 => d46 | 47 => d47 | 48 => d48 | _ => d48
  let cm : Nat → Addr := fun n => match n with | 2 => C2 | 3 => C3 | _ => C1
  have T : Txt K mg cm ad fdn := {
    F_is_word := F5,
    g_is_word := PySem.W.mg_of X G n5,
    b_is_word := F5.binds (ps := ["letters", "word"]) fun _ _ _ _ _ _ us hl => match us, hl with | [_, _], _ => rfl,
    F_scaled := F7,
    g_scaled := PySem.W.mg_of X G n7,
    b_scaled := F7.binds (ps := ["p", "factor", "row"]) fun _ _ _ _ _ _ us hl => match us, hl with | [_, _, _], _ => rfl,
    F_added := F8,
    g_added := PySem.W.mg_of X G n8,
    b_added := F8.binds (ps := ["p", "row", "other"]) fun _ _ _ _ _ _ us hl => match us, hl with | [_, _, _], _ => rfl,
    F_product := F9,
    g_product := PySem.W.mg_of X G n9,
    b_product := F9.binds (ps := ["p", "row", "other"]) fun _ _ _ _ _ _ us hl => match us, hl with | [_, _, _], _ => rfl,
    F_made_of := F11,
    g_made_of := PySem.W.mg_of X G n11,
    b_made_of := F11.binds (ps := ["p", "rows", "parts", "size"]) fun _ _ _ _ _ _ us hl => match us, hl with | [_, _, _, _], _ => rfl,
    F_row_behind := F14,
    g_row_behind := PySem.W.mg_of X G n14,
    b_row_behind := F14.binds (ps := ["house", "word"]) fun _ _ _ _ _ _ us hl => match us, hl with | [_, _], _ => rfl,
    F_worth := F15,
    g_worth := PySem.W.mg_of X G n15,
    b_worth := F15.binds (ps := ["house", "word"]) fun _ _ _ _ _ _ us hl => match us, hl with | [_, _], _ => rfl,
    F_ask_like := F16,
    g_ask_like := PySem.W.mg_of X G n16,
    b_ask_like := F16.binds (ps := ["house", "other"]) fun _ _ _ _ _ _ us hl => match us, hl with | [_, _], _ => rfl,
    F_joined_sums := F17,
    g_joined_sums := PySem.W.mg_of X G n17,
    b_joined_sums := F17.binds (ps := ["house", "other"]) fun _ _ _ _ _ _ us hl => match us, hl with | [_, _], _ => rfl,
    F_sums_less := F18,
    g_sums_less := PySem.W.mg_of X G n18,
    b_sums_less := F18.binds (ps := ["house", "other"]) fun _ _ _ _ _ _ us hl => match us, hl with | [_, _], _ => rfl,
    F_crossed_row := F19,
    g_crossed_row := PySem.W.mg_of X G n19,
    b_crossed_row := F19.binds (ps := ["p", "row", "other"]) fun _ _ _ _ _ _ us hl => match us, hl with | [_, _, _], _ => rfl,
    F_sums_times := F20,
    g_sums_times := PySem.W.mg_of X G n20,
    b_sums_times := F20.binds (ps := ["house", "other"]) fun _ _ _ _ _ _ us hl => match us, hl with | [_, _], _ => rfl,
    F_table_column := F21,
    g_table_column := PySem.W.mg_of X G n21,
    b_table_column := F21.binds (ps := ["table", "at"]) fun _ _ _ _ _ _ us hl => match us, hl with | [_, _], _ => rfl,
    F_sums_back := F22,
    g_sums_back := PySem.W.mg_of X G n22,
    b_sums_back := F22.binds (ps := ["house"]) fun _ _ _ _ _ _ us hl => match us, hl with | [_], _ => rfl,
    F__law_cell := F24,
    g__law_cell := PySem.W.mg_of X G n24,
    b__law_cell := F24.binds (ps := ["script", "k"]) fun _ _ _ _ _ _ us hl => match us, hl with | [_, _], _ => rfl,
    F__law_is_prime := F25,
    g__law_is_prime := PySem.W.mg_of X G n25,
    b__law_is_prime := F25.binds (ps := ["number"]) fun _ _ _ _ _ _ us hl => match us, hl with | [_], _ => rfl,
    F__law_prime := F26,
    g__law_prime := PySem.W.mg_of X G n26,
    b__law_prime := F26.binds (ps := ["cell"]) fun _ _ _ _ _ _ us hl => match us, hl with | [_], _ => rfl,
    F__law_whole := F27,
    g__law_whole := PySem.W.mg_of X G n27,
    b__law_whole := F27.binds (ps := ["found"]) fun _ _ _ _ _ _ us hl => match us, hl with | [_], _ => rfl,
    F__law_number := F28,
    g__law_number := PySem.W.mg_of X G n28,
    b__law_number := F28.binds (ps := ["script", "k", "p"]) fun _ _ _ _ _ _ us hl => match us, hl with | [_, _, _], _ => rfl,
    F__law_row := F29,
    g__law_row := PySem.W.mg_of X G n29,
    b__law_row := F29.binds (ps := ["script", "at", "many", "p"]) fun _ _ _ _ _ _ us hl => match us, hl with | [_, _, _, _], _ => rfl,
    F__law_row_is := F30,
    g__law_row_is := PySem.W.mg_of X G n30,
    b__law_row_is := F30.binds (ps := ["found", "due"]) fun _ _ _ _ _ _ us hl => match us, hl with | [_, _], _ => rfl,
    F__law_house := F31,
    g__law_house := PySem.W.mg_of X G n31,
    b__law_house := F31.binds (ps := ["script", "at", "p", "letters", "many"]) fun _ _ _ _ _ _ us hl => match us, hl with | [_, _, _, _, _], _ => rfl,
    F__law_step := F32,
    g__law_step := PySem.W.mg_of X G n32,
    b__law_step := F32.binds (ps := ["p", "row", "table"]) fun _ _ _ _ _ _ us hl => match us, hl with | [_, _, _], _ => rfl,
    F__law_times := F33,
    g__law_times := PySem.W.mg_of X G n33,
    b__law_times := F33.binds (ps := ["p", "one", "two"]) fun _ _ _ _ _ _ us hl => match us, hl with | [_, _, _], _ => rfl,
    F__law_behind := F34,
    g__law_behind := PySem.W.mg_of X G n34,
    b__law_behind := F34.binds (ps := ["house", "word"]) fun _ _ _ _ _ _ us hl => match us, hl with | [_, _], _ => rfl,
    F__law_word := F35,
    g__law_word := PySem.W.mg_of X G n35,
    b__law_word := F35.binds (ps := ["script", "letters", "most"]) fun _ _ _ _ _ _ us hl => match us, hl with | [_, _, _], _ => rfl,
    F__law_house_is := F36,
    g__law_house_is := PySem.W.mg_of X G n36,
    b__law_house_is := F36.binds (ps := ["found", "due"]) fun _ _ _ _ _ _ us hl => match us, hl with | [_, _], _ => rfl,
    F__law_less := F37,
    g__law_less := PySem.W.mg_of X G n37,
    b__law_less := F37.binds (ps := ["one", "two"]) fun _ _ _ _ _ _ us hl => match us, hl with | [_, _], _ => rfl,
    F__law_cross := F38,
    g__law_cross := PySem.W.mg_of X G n38,
    b__law_cross := F38.binds (ps := ["p", "one", "two"]) fun _ _ _ _ _ _ us hl => match us, hl with | [_, _, _], _ => rfl,
    F__law_times_of := F39,
    g__law_times_of := PySem.W.mg_of X G n39,
    b__law_times_of := F39.binds (ps := ["one", "two"]) fun _ _ _ _ _ _ us hl => match us, hl with | [_, _], _ => rfl,
    F__law_back := F40,
    g__law_back := PySem.W.mg_of X G n40,
    b__law_back := F40.binds (ps := ["house"]) fun _ _ _ _ _ _ us hl => match us, hl with | [_], _ => rfl,
    F__law_blank := F41,
    g__law_blank := PySem.W.mg_of X G n41,
    b__law_blank := F41.binds (ps := ["p", "many"]) fun _ _ _ _ _ _ us hl => match us, hl with | [_, _], _ => rfl,
    F__law_refused := F42,
    g__law_refused := PySem.W.mg_of X G n42,
    b__law_refused := F42.binds (ps := ["deed", "one", "two"]) fun _ _ _ _ _ _ us hl => match us, hl with | [_, _, _], _ => rfl,
    F__law_refused_by_any := F43,
    g__law_refused_by_any := PySem.W.mg_of X G n43,
    b__law_refused_by_any := F43.binds (ps := ["deed", "one", "two"]) fun _ _ _ _ _ _ us hl => match us, hl with | [_, _, _], _ => rfl,
    F__law_edges := F44,
    g__law_edges := PySem.W.mg_of X G n44,
    b__law_edges := F44.binds (ps := ["p", "cell"]) fun _ _ _ _ _ _ us hl => match us, hl with | [_, _], _ => rfl,
    F__law_worth := F45,
    g__law_worth := PySem.W.mg_of X G n45,
    b__law_worth := F45.binds (ps := ["house", "word"]) fun _ _ _ _ _ _ us hl => match us, hl with | [_, _], _ => rfl,
    F__law_values := F46,
    g__law_values := PySem.W.mg_of X G n46,
    b__law_values := F46.binds (ps := ["one", "two", "word"]) fun _ _ _ _ _ _ us hl => match us, hl with | [_, _, _], _ => rfl,
    F__law_unlike := F47,
    g__law_unlike := PySem.W.mg_of X G n47,
    b__law_unlike := F47.binds (ps := ["deed", "one", "two", "cell"]) fun _ _ _ _ _ _ us hl => match us, hl with | [_, _, _, _], _ => rfl,
    F_law := F48,
    g_law := PySem.W.mg_of X G n48,
    b_law := F48.binds (ps := ["script"]) fun _ _ _ _ _ _ us hl => match us, hl with | [_], _ => rfl,
    z_ValueError := PySem.W.mg_none_of X G z_ValueError,
    z_bool := PySem.W.mg_none_of X G z_bool,
    z_int := PySem.W.mg_none_of X G z_int,
    z_isinstance := PySem.W.mg_none_of X G z_isinstance,
    z_len := PySem.W.mg_none_of X G z_len,
    z_max := PySem.W.mg_none_of X G z_max,
    z_min := PySem.W.mg_none_of X G z_min,
    z_range := PySem.W.mg_none_of X G z_range,
    z_reversed := PySem.W.mg_none_of X G z_reversed,
    z_sum := PySem.W.mg_none_of X G z_sum,
    z_tuple := PySem.W.mg_none_of X G z_tuple,
    c_WIDEST := (by obtain ⟨t, q⟩ := c_WIDEST; exact ⟨t, PySem.W.mg_of X G q⟩),
    gx_AskError := PySem.W.mg_of X G y1.1,
    kx_AskError := y1.2.1,
    bx_AskError := y1.2.2.1,
    tx_AskError := y1.2.2.2.1,
    x_AskError := y1.2.2.2.2.1,
    em_AskError := fun e => match e with | 2 => p1_2 | 3 => p1_3 | 0 => p1_1 | 1 => p1_1 | n + 4 => p1_1,
    ek_AskError := fun e => match e with | 2 => kit_of_exm p1_2 y1.2.2.1 p1_1 | 3 => kit_of_exm p1_3 y1.2.2.1 p1_1 | 0 => kit_of_exm p1_1 y1.2.2.1 p1_1 | 1 => kit_of_exm p1_1 y1.2.2.1 p1_1 | n + 4 => kit_of_exm p1_1 y1.2.2.1 p1_1,
    gx_BadHouse := PySem.W.mg_of X G y2.1,
    kx_BadHouse := y2.2.1,
    bx_BadHouse := y2.2.2.1,
    tx_BadHouse := y2.2.2.2.1,
    x_BadHouse := y2.2.2.2.2.1,
    em_BadHouse := fun e => match e with | 2 => p2_2 | 3 => p2_3 | 0 => p2_1 | 1 => p2_1 | n + 4 => p2_1,
    ek_BadHouse := fun e => match e with | 2 => kit_of_exm p2_2 y2.2.2.1 p2_2 | 3 => kit_of_exm p2_3 y2.2.2.1 p2_2 | 0 => kit_of_exm p2_1 y2.2.2.1 p2_2 | 1 => kit_of_exm p2_1 y2.2.2.1 p2_2 | n + 4 => kit_of_exm p2_1 y2.2.2.1 p2_2,
    gx_BadWord := PySem.W.mg_of X G y3.1,
    kx_BadWord := y3.2.1,
    bx_BadWord := y3.2.2.1,
    tx_BadWord := y3.2.2.2.1,
    x_BadWord := y3.2.2.2.2.1,
    em_BadWord := fun e => match e with | 2 => p3_2 | 3 => p3_3 | 0 => p3_1 | 1 => p3_1 | n + 4 => p3_1,
    ek_BadWord := fun e => match e with | 2 => kit_of_exm p3_2 y3.2.2.1 p3_3 | 3 => kit_of_exm p3_3 y3.2.2.1 p3_3 | 0 => kit_of_exm p3_1 y3.2.2.1 p3_3 | 1 => kit_of_exm p3_1 y3.2.2.1 p3_3 | n + 4 => kit_of_exm p3_1 y3.2.2.1 p3_3,
    ev := fun e => match e with | 2 => kit_sub y2.2.2.2.2.2.1 | 3 => kit_sub y3.2.2.2.2.2.1 | 0 => kit_sub y1.2.2.2.2.2.1 | 1 => kit_sub y1.2.2.2.2.2.1 | n + 4 => kit_sub y1.2.2.2.2.2.1,
    ec := fun e => match e with | 2 => y2.2.2.2.2.2.2 | 3 => y3.2.2.2.2.2.2 | 0 => y1.2.2.2.2.2.2 | 1 => y1.2.2.2.2.2.2 | n + 4 => y1.2.2.2.2.2.2 }
  refine ⟨d48, bl, fun base _ _ => ?_⟩
  have g_is_word : G_is_word l.prog w K mg base cm ad fdn := ok_is_word T 
  have g_scaled : G_scaled l.prog w K mg base cm ad fdn := ok_scaled T 
  have g_added : G_added l.prog w K mg base cm ad fdn := ok_added T 
  have g_product : G_product l.prog w K mg base cm ad fdn := ok_product T 
  have g_made_of : G_made_of l.prog w K mg base cm ad fdn := ok_made_of T g_added g_scaled
  have g_row_behind : G_row_behind l.prog w K mg base cm ad fdn := ok_row_behind T g_is_word g_made_of
  have g_worth : G_worth l.prog w K mg base cm ad fdn := ok_worth T g_product g_row_behind
  have g_ask_like : G_ask_like l.prog w K mg base cm ad fdn := ok_ask_like T 
  have g_joined_sums : G_joined_sums l.prog w K mg base cm ad fdn := ok_joined_sums T 
  have g_sums_less : G_sums_less l.prog w K mg base cm ad fdn := ok_sums_less T g_ask_like g_joined_sums
  have g_crossed_row : G_crossed_row l.prog w K mg base cm ad fdn := ok_crossed_row T 
  have g_sums_times : G_sums_times l.prog w K mg base cm ad fdn := ok_sums_times T g_ask_like g_crossed_row
  have g_table_column : G_table_column l.prog w K mg base cm ad fdn := ok_table_column T 
  have g_sums_back : G_sums_back l.prog w K mg base cm ad fdn := ok_sums_back T g_table_column
  have g__law_cell : G__law_cell l.prog w K mg base cm ad fdn := ok__law_cell T 
  have g__law_is_prime : G__law_is_prime l.prog w K mg base cm ad fdn := ok__law_is_prime T 
  have g__law_prime : G__law_prime l.prog w K mg base cm ad fdn := ok__law_prime T g__law_is_prime
  have g__law_whole : G__law_whole l.prog w K mg base cm ad fdn := ok__law_whole T 
  have g__law_number : G__law_number l.prog w K mg base cm ad fdn := ok__law_number T g__law_cell
  have g__law_row : G__law_row l.prog w K mg base cm ad fdn := ok__law_row T g__law_number
  have g__law_row_is : G__law_row_is l.prog w K mg base cm ad fdn := ok__law_row_is T g__law_whole
  have g__law_house : G__law_house l.prog w K mg base cm ad fdn := ok__law_house T g__law_row
  have g__law_step : G__law_step l.prog w K mg base cm ad fdn := ok__law_step T 
  have g__law_times : G__law_times l.prog w K mg base cm ad fdn := ok__law_times T 
  have g__law_behind : G__law_behind l.prog w K mg base cm ad fdn := ok__law_behind T g__law_step
  have g__law_word : G__law_word l.prog w K mg base cm ad fdn := ok__law_word T 
  have g__law_house_is : G__law_house_is l.prog w K mg base cm ad fdn := ok__law_house_is T g__law_row_is
  have g__law_less : G__law_less l.prog w K mg base cm ad fdn := ok__law_less T 
  have g__law_cross : G__law_cross l.prog w K mg base cm ad fdn := ok__law_cross T 
  have g__law_times_of : G__law_times_of l.prog w K mg base cm ad fdn := ok__law_times_of T g__law_cross
  have g__law_back : G__law_back l.prog w K mg base cm ad fdn := ok__law_back T 
  have g__law_blank : G__law_blank l.prog w K mg base cm ad fdn := ok__law_blank T 
  have g__law_refused : G__law_refused l.prog w K mg base cm ad fdn := ok__law_refused T g_sums_less
  have g__law_refused'1 : G__law_refused'1 l.prog w K mg base cm ad fdn := ok__law_refused'1 T g_sums_times
  have g__law_refused_by_any : G__law_refused_by_any l.prog w K mg base cm ad fdn := ok__law_refused_by_any T g_sums_less
  have g__law_refused_by_any'1 : G__law_refused_by_any'1 l.prog w K mg base cm ad fdn := ok__law_refused_by_any'1 T g_sums_times
  have g__law_edges : G__law_edges l.prog w K mg base cm ad fdn := ok__law_edges T g__law_blank g__law_house_is g__law_refused g__law_refused'1 g_sums_less g_sums_times
  have g__law_worth : G__law_worth l.prog w K mg base cm ad fdn := ok__law_worth T g__law_behind g__law_times
  have g__law_values : G__law_values l.prog w K mg base cm ad fdn := ok__law_values T g__law_worth g_sums_back g_sums_less g_sums_times g_worth
  have g__law_unlike : G__law_unlike l.prog w K mg base cm ad fdn := ok__law_unlike T g__law_refused g__law_refused_by_any
  have g__law_unlike'1 : G__law_unlike'1 l.prog w K mg base cm ad fdn := ok__law_unlike'1 T g__law_refused'1 g__law_refused_by_any'1
  have g_law : G_law l.prog w K mg base cm ad fdn := ok_law T g__law_back g__law_cell g__law_edges g__law_house g__law_house_is g__law_less g__law_prime g__law_times_of g__law_unlike g__law_unlike'1 g__law_values g__law_word g_sums_back g_sums_less g_sums_times
  refine FnOk.imp (show FnOk l.prog w K mg base (L2.CX l.prog w) 6 f48 d48 ["script"] (spT cm (Gd.H1 (RSc K)) RB (fun (p : List Int) => f_law p)) from g_law) fun vs H Q E hs => ?_
  obtain ⟨a, ns, rfl, hS, hl, q⟩ := hs
  have et : (fun (p : List Int) => f_law p) ns = .ok true := law_true ns hl
  refine ⟨H, ns, Same.refl _, ⟨.ref a, rfl, a, rfl, hS, hl⟩, fun r er v B' H' _ hr => ?_, fun e he => ?_, fun hn => ?_⟩
  · rw [et] at er
    cases er
    rw [show v = .bl true from hr]
    exact q _
  · rw [et] at he
    cases he
  · rw [et] at hn
    cases hn
end Gd
open PySem PySem.W PyProof.Rows
set_option maxRecDepth 100000 in
set_option maxHeartbeats 0 in
theorem PySem.Challenge.cw_guesswide_k66_less_times_back_holds : PySem.Challenge.rw_guesswide_k66_less_times_back.Holds := by
  w_on; o_law; k_head; (case hw => w_witness2)
  k_fill
  refine L2.walk_of (l := PySem.Challenge.rw_guesswide_k66_less_times_back) (n := 63) (k := 6) (x := "script") (CX := fun w => L2.CX PySem.Challenge.rw_guesswide_k66_less_times_back.prog w) (sp := fun w => Gd.spLaw _) rfl (by decide) rfl ⟨rfl, by decide, by decide⟩ (fun w h Y => PySem.W.kIn_of Y) ?F (fun _ _ a ns hl _ hS => ⟨a, ns, rfl, hS, hl, fun _ => rfl⟩) (fun _ _ _ _ _ h => Gd.cx_no h)
  case F =>
    intro w mg fa h KX G hmg
    refine' Gd.all_mk KX G hmg ?h_is_word ?h_scaled ?h_added ?h_product ?h_made_of ?h_row_behind ?h_worth ?h_ask_like ?h_joined_sums ?h_sums_less ?h_crossed_row ?h_sums_times ?h_table_column ?h_sums_back ?h__law_cell ?h__law_is_prime ?h__law_prime ?h__law_whole ?h__law_number ?h__law_row ?h__law_row_is ?h__law_house ?h__law_step ?h__law_times ?h__law_behind ?h__law_word ?h__law_house_is ?h__law_less ?h__law_cross ?h__law_times_of ?h__law_back ?h__law_blank ?h__law_refused ?h__law_refused_by_any ?h__law_edges ?h__law_worth ?h__law_values ?h__law_unlike ?h_law ?hx ?z_ValueError ?z_bool ?z_int ?z_isinstance ?z_len ?z_max ?z_min ?z_range ?z_reversed ?z_sum ?z_tuple ?c_WIDEST
    (case h_is_word => (refine' Gd.dEx ?a ?l ?c ?k; (case a => k_is); (case l => k_is); (case c => k_is); (case k => k_is)))
    (case h_scaled => (refine' Gd.dEx ?a ?l ?c ?k; (case a => k_is); (case l => k_is); (case c => k_is); (case k => k_is)))
    (case h_added => (refine' Gd.dEx ?a ?l ?c ?k; (case a => k_is); (case l => k_is); (case c => k_is); (case k => k_is)))
    (case h_product => (refine' Gd.dEx ?a ?l ?c ?k; (case a => k_is); (case l => k_is); (case c => k_is); (case k => k_is)))
    (case h_made_of => (refine' Gd.dEx ?a ?l ?c ?k; (case a => k_is); (case l => k_is); (case c => k_is); (case k => k_is)))
    (case h_row_behind => (refine' Gd.dEx ?a ?l ?c ?k; (case a => k_is); (case l => k_is); (case c => k_is); (case k => k_is)))
    (case h_worth => (refine' Gd.dEx ?a ?l ?c ?k; (case a => k_is); (case l => k_is); (case c => k_is); (case k => k_is)))
    (case h_ask_like => (refine' Gd.dEx ?a ?l ?c ?k; (case a => k_is); (case l => k_is); (case c => k_is); (case k => k_is)))
    (case h_joined_sums => (refine' Gd.dEx ?a ?l ?c ?k; (case a => k_is); (case l => k_is); (case c => k_is); (case k => k_is)))
    (case h_sums_less => (refine' Gd.dEx ?a ?l ?c ?k; (case a => k_is); (case l => k_is); (case c => k_is); (case k => k_is)))
    (case h_crossed_row => (refine' Gd.dEx ?a ?l ?c ?k; (case a => k_is); (case l => k_is); (case c => k_is); (case k => k_is)))
    (case h_sums_times => (refine' Gd.dEx ?a ?l ?c ?k; (case a => k_is); (case l => k_is); (case c => k_is); (case k => k_is)))
    (case h_table_column => (refine' Gd.dEx ?a ?l ?c ?k; (case a => k_is); (case l => k_is); (case c => k_is); (case k => k_is)))
    (case h_sums_back => (refine' Gd.dEx ?a ?l ?c ?k; (case a => k_is); (case l => k_is); (case c => k_is); (case k => k_is)))
    (case h__law_cell => (refine' Gd.dEx ?a ?l ?c ?k; (case a => k_is); (case l => k_is); (case c => k_is); (case k => k_is)))
    (case h__law_is_prime => (refine' Gd.dEx ?a ?l ?c ?k; (case a => k_is); (case l => k_is); (case c => k_is); (case k => k_is)))
    (case h__law_prime => (refine' Gd.dEx ?a ?l ?c ?k; (case a => k_is); (case l => k_is); (case c => k_is); (case k => k_is)))
    (case h__law_whole => (refine' Gd.dEx ?a ?l ?c ?k; (case a => k_is); (case l => k_is); (case c => k_is); (case k => k_is)))
    (case h__law_number => (refine' Gd.dEx ?a ?l ?c ?k; (case a => k_is); (case l => k_is); (case c => k_is); (case k => k_is)))
    (case h__law_row => (refine' Gd.dEx ?a ?l ?c ?k; (case a => k_is); (case l => k_is); (case c => k_is); (case k => k_is)))
    (case h__law_row_is => (refine' Gd.dEx ?a ?l ?c ?k; (case a => k_is); (case l => k_is); (case c => k_is); (case k => k_is)))
    (case h__law_house => (refine' Gd.dEx ?a ?l ?c ?k; (case a => k_is); (case l => k_is); (case c => k_is); (case k => k_is)))
    (case h__law_step => (refine' Gd.dEx ?a ?l ?c ?k; (case a => k_is); (case l => k_is); (case c => k_is); (case k => k_is)))
    (case h__law_times => (refine' Gd.dEx ?a ?l ?c ?k; (case a => k_is); (case l => k_is); (case c => k_is); (case k => k_is)))
    (case h__law_behind => (refine' Gd.dEx ?a ?l ?c ?k; (case a => k_is); (case l => k_is); (case c => k_is); (case k => k_is)))
    (case h__law_word => (refine' Gd.dEx ?a ?l ?c ?k; (case a => k_is); (case l => k_is); (case c => k_is); (case k => k_is)))
    (case h__law_house_is => (refine' Gd.dEx ?a ?l ?c ?k; (case a => k_is); (case l => k_is); (case c => k_is); (case k => k_is)))
    (case h__law_less => (refine' Gd.dEx ?a ?l ?c ?k; (case a => k_is); (case l => k_is); (case c => k_is); (case k => k_is)))
    (case h__law_cross => (refine' Gd.dEx ?a ?l ?c ?k; (case a => k_is); (case l => k_is); (case c => k_is); (case k => k_is)))
    (case h__law_times_of => (refine' Gd.dEx ?a ?l ?c ?k; (case a => k_is); (case l => k_is); (case c => k_is); (case k => k_is)))
    (case h__law_back => (refine' Gd.dEx ?a ?l ?c ?k; (case a => k_is); (case l => k_is); (case c => k_is); (case k => k_is)))
    (case h__law_blank => (refine' Gd.dEx ?a ?l ?c ?k; (case a => k_is); (case l => k_is); (case c => k_is); (case k => k_is)))
    (case h__law_refused => (refine' Gd.dEx ?a ?l ?c ?k; (case a => k_is); (case l => k_is); (case c => k_is); (case k => k_is)))
    (case h__law_refused_by_any => (refine' Gd.dEx ?a ?l ?c ?k; (case a => k_is); (case l => k_is); (case c => k_is); (case k => k_is)))
    (case h__law_edges => (refine' Gd.dEx ?a ?l ?c ?k; (case a => k_is); (case l => k_is); (case c => k_is); (case k => k_is)))
    (case h__law_worth => (refine' Gd.dEx ?a ?l ?c ?k; (case a => k_is); (case l => k_is); (case c => k_is); (case k => k_is)))
    (case h__law_values => (refine' Gd.dEx ?a ?l ?c ?k; (case a => k_is); (case l => k_is); (case c => k_is); (case k => k_is)))
    (case h__law_unlike => (refine' Gd.dEx ?a ?l ?c ?k; (case a => k_is); (case l => k_is); (case c => k_is); (case k => k_is)))
    (case h_law => (refine' Gd.lEx ?a ?l ?c ?k "script" ?b; (case a => k_is); (case l => k_is); (case c => k_is); (case k => k_is); (case b => exact fun s v => .of_eq rfl)))
    (case hx => (refine' Gd.xEx (Gd.cMk ?a1 ?k1 ?b1 ?t1 ?e1 ?v1 ?hg1 ?hk1 ?hd1 ?ha1 ?hn1 ?ht1 ?hm1) (Gd.cMk ?a2 ?k2 ?b2 ?t2 ?e2 ?v2 ?hg2 ?hk2 ?hd2 ?ha2 ?hn2 ?ht2 ?hm2) (Gd.cMk ?a3 ?k3 ?b3 ?t3 ?e3 ?v3 ?hg3 ?hk3 ?hd3 ?ha3 ?hn3 ?ht3 ?hm3) ?p1_1 ?p1_2 ?p1_3 ?p2_1 ?p2_2 ?p2_3 ?p3_1 ?p3_2 ?p3_3; (case a1 => k_is); (case k1 => k_is); (case b1 => k_is); (case t1 => k_is); (case e1 => first | k_is | k_exc); (case v1 => k_is); (case hg1 => k_is); (case hk1 => k_is); (case hd1 => k_is); (case ha1 => k_is); (case hn1 => k_is); (case ht1 => k_is); (case hm1 => k_is); (case a2 => k_is); (case k2 => k_is); (case b2 => k_is); (case t2 => k_is); (case e2 => first | k_is | k_exc); (case v2 => k_is); (case hg2 => k_is); (case hk2 => k_is); (case hd2 => k_is); (case ha2 => k_is); (case hn2 => k_is); (case ht2 => k_is); (case hm2 => k_is); (case a3 => k_is); (case k3 => k_is); (case b3 => k_is); (case t3 => k_is); (case e3 => first | k_is | k_exc); (case v3 => k_is); (case hg3 => k_is); (case hk3 => k_is); (case hd3 => k_is); (case ha3 => k_is); (case hn3 => k_is); (case ht3 => k_is); (case hm3 => k_is); (case p1_1 => first | rfl | k_is); (case p1_2 => first | rfl | k_is); (case p1_3 => first | rfl | k_is); (case p2_1 => first | rfl | k_is); (case p2_2 => first | rfl | k_is); (case p2_3 => first | rfl | k_is); (case p3_1 => first | rfl | k_is); (case p3_2 => first | rfl | k_is); (case p3_3 => first | rfl | k_is)))
    (case z_ValueError => k_is)
    (case z_bool => k_is)
    (case z_int => k_is)
    (case z_isinstance => k_is)
    (case z_len => k_is)
    (case z_max => k_is)
    (case z_min => k_is)
    (case z_range => k_is)
    (case z_reversed => k_is)
    (case z_sum => k_is)
    (case z_tuple => k_is)
    (case c_WIDEST => exact ⟨_, by k_is⟩)

