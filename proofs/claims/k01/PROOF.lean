import PyProof.Rows.All
import Wide.All
import OpenK.AllK
import Wide.FinOn
import KE.KStateDown
import KE.DataEq
import Lean
import HandS.ForMost
import HandS.Defaults
import HandS.IsInst
import HandS.TupAny
import KE.DataMinMax
import HandS.Exc
import HandS.WordsExc
import HandS.Head0
import HandS.Head1
import HandS.Head2
import HandS.HeadEnd
import HandS.HeadHook1
import HandS.HeadHook2
import PySem.Challenge.RW_stillsealed_k01_the_due_of_each_form_on
set_option Elab.async false
set_option linter.all false
set_option maxRecDepth 100000
/-! SSA: own layer over the hand layer: representations (Rp), frozen ghost heaps (G), environments (En), weakest conditions (W). Own work. -/
namespace SS
open PySem PySem.Spec L2

/-! ### heaps -/
/-- one step: G the frozen part, H the heap; M the addresses that may change -/
structure Step (M : List Addr) (G H G' H' : Hp) : Prop where
  gg : Same G G'
  gh : Same G' H'
  keep : ∀ a o, H a = some o → a ∉ M → H' a = some o
  old : ∀ a o, H a = some o → G a = none → a ∉ M → G' a = none

theorem Step.refl {M : List Addr} {G H : Hp} (h : Same G H) : Step M G H G H :=
  ⟨Same.refl G, h, fun _ _ e _ => e, fun _ _ _ n _ => n⟩
theorem Step.there {M : List Addr} {G H G1 H1 : Hp} (s : Step M G H G1 H1) {a : Addr} {o : HO} (e : H a = some o) (n : a ∉ M) : H1 a = some o := s.keep a o e n
theorem Step.cut {M N : List Addr} {G H G1 H1 G2 H2 : Hp} (s : Step M G H G1 H1) (t : Step N G1 H1 G2 H2) (h : ∀ a ∈ N, a ∈ M ∨ H a = none) : Step M G H G2 H2 where
  gg := s.gg.trans t.gg
  gh := t.gh
  keep := fun a o e n => t.keep a o (s.keep a o e n) fun z => (h a z).elim n fun q => by rw [q] at e; cases e
  old := fun a o e q n => t.old a o (s.keep a o e n) (s.old a o e q n) fun z => (h a z).elim n fun q => by rw [q] at e; cases e
theorem Step.trans {M : List Addr} {G H G1 H1 G2 H2 : Hp} (s : Step M G H G1 H1) (t : Step M G1 H1 G2 H2) : Step M G H G2 H2 := s.cut t fun _ h => .inl h
theorem Step.wide {M N : List Addr} {G H G1 H1 : Hp} (s : Step M G H G1 H1) (h : ∀ a ∈ M, a ∈ N) : Step N G H G1 H1 :=
  ⟨s.gg, s.gh, fun a o e n => s.keep a o e fun z => n (h a z), fun a o e q n => s.old a o e q fun z => n (h a z)⟩
theorem Step.of0 {M : List Addr} {G H G1 H1 : Hp} (s : Step [] G H G1 H1) : Step M G H G1 H1 := s.wide fun _ h => nomatch h
theorem Step.gH {M : List Addr} {G H G1 H1 : Hp} (s : Step M G H G1 H1) : Same G H1 := s.gg.trans s.gh
/-- a new object, frozen at once -/
theorem Step.new {M : List Addr} {G H : Hp} (h : Same G H) {p : Addr} {o : HO} (np : H p = none) : Step M G H (upd G p o) (upd H p o) where
  gg := fun a u e => by rw [upd_ne (ne_of_none e (h.free np))]; exact e
  gh := fun a u e => by
    by_cases q : a = p
    · subst q; rw [upd_same] at e ⊢; exact e
    · rw [upd_ne q] at e ⊢; exact h a u e
  keep := fun a u e _ => by rw [upd_ne (ne_of_none e np)]; exact e
  old := fun a u e n _ => by rw [upd_ne (ne_of_none e np)]; exact n
/-- a new object, not frozen -/
theorem Step.lay {M : List Addr} {G H : Hp} (h : Same G H) {p : Addr} {o : HO} (np : H p = none) : Step M G H G (upd H p o) where
  gg := Same.refl G
  gh := fun a u e => by rw [upd_ne (ne_of_none e (h.free np))]; exact h a u e
  keep := fun a u e _ => by rw [upd_ne (ne_of_none e np)]; exact e
  old := fun _ _ _ n _ => n
/-- a change at an address of M that is not frozen -/
theorem Step.put {M : List Addr} {G H : Hp} (h : Same G H) {p : Addr} {o : HO} (hp : p ∈ M) (np : G p = none) : Step M G H G (upd H p o) where
  gg := Same.refl G
  gh := fun a u e => by rw [upd_ne (ne_of_none e np)]; exact h a u e
  keep := fun a u e n => by rw [upd_ne (fun (z : a = p) => n (by rw [z]; exact hp))]; exact e
  old := fun _ _ _ n _ => n
/-- what stands at p is frozen -/
theorem Step.freeze {M : List Addr} {G H : Hp} (h : Same G H) {p : Addr} {o : HO} (hp : p ∈ M) (np : G p = none) (e : H p = some o) : Step M G H (upd G p o) H where
  gg := fun a u q => by rw [upd_ne (ne_of_none q np)]; exact q
  gh := fun a u q => by
    by_cases z : a = p
    · subst z; rw [upd_same] at q; rw [← q]; exact e
    · rw [upd_ne z] at q; exact h a u q
  keep := fun a u q _ => q
  old := fun a u q n z => by rw [upd_ne (fun (y : a = p) => z (by rw [y]; exact hp))]; exact n

/-! ### representations -/
structure Rp (K : PySem.W.Frag) (α : Type) where
  ok : Hp → V → α → Prop
  mono : ∀ {G G' : Hp} {v : V} {x : α}, Same G G' → ok G v x → ok G' v x
structure Fs (K : PySem.W.Frag) (α : Type) where
  ok : Hp → List V → α → Prop
  mono : ∀ {G G' : Hp} {vs : List V} {x : α}, Same G G' → ok G vs x → ok G' vs x
  n : Nat
  len : ∀ {G : Hp} {vs : List V} {x : α}, ok G vs x → vs.length = n

theorem same_t {K : PySem.W.Frag} {H H' : Hp} {a : Addr} {xs : List V} (e : Same H H') (h : SqT K H a xs) : SqT K H' a xs := by
  rcases h with (h | ⟨o, h⟩) | h
  · exact .inl (.inl (e _ _ h))
  · exact .inl (.inr ⟨o, e _ _ h⟩)
  · exact .inr h
theorem paired_mono {α : Type} {F F' : V → α → Prop} (h : ∀ v x, F v x → F' v x) : ∀ {vs : List V} {xs : List α}, Paired F vs xs → Paired F' vs xs
  | _, _, .nil => .nil
  | _, _, .cons r t => .cons (h _ _ r) (paired_mono h t)
theorem paired_len {α β : Type} {F : α → β → Prop} : ∀ {vs : List α} {xs : List β}, Paired F vs xs → vs.length = xs.length
  | _, _, .nil => rfl
  | _, _, .cons _ t => congrArg (· + 1) (paired_len t)
theorem paired_get {α β : Type} {F : α → β → Prop} : ∀ {vs : List α} {xs : List β}, Paired F vs xs → ∀ {i : Nat} {x : β}, xs[i]? = some x → ∃ v, vs[i]? = some v ∧ F v x
  | _, _, .nil, i, x, h => by simp at h
  | _, _, .cons r t, 0, x, h => by simp at h; subst h; exact ⟨_, rfl, r⟩
  | _, _, .cons r t, i + 1, x, h => by
    obtain ⟨v, e, q⟩ := paired_get t (i := i) (by simpa using h)
    exact ⟨v, by simpa using e, q⟩
theorem paired_get' {α β : Type} {F : α → β → Prop} : ∀ {vs : List α} {xs : List β}, Paired F vs xs → ∀ {i : Nat} {v : α}, vs[i]? = some v → ∃ x, xs[i]? = some x ∧ F v x
  | _, _, .nil, i, x, h => by simp at h
  | _, _, .cons r t, 0, x, h => by simp at h; subst h; exact ⟨_, rfl, r⟩
  | _, _, .cons r t, i + 1, x, h => by
    obtain ⟨v, e, q⟩ := paired_get' t (i := i) (by simpa using h)
    exact ⟨v, by simpa using e, q⟩
theorem paired_app {α β : Type} {F : α → β → Prop} : ∀ {vs ws : List α} {xs ys : List β}, Paired F vs xs → Paired F ws ys → Paired F (vs ++ ws) (xs ++ ys)
  | _, _, _, _, .nil, s => s
  | _, _, _, _, .cons r t, s => .cons r (paired_app t s)
theorem paired_set {α β : Type} {F : α → β → Prop} {v : α} {x : β} (q : F v x) : ∀ {vs : List α} {xs : List β} (i : Nat), Paired F vs xs → Paired F (vs.set i v) (xs.set i x)
  | _, _, _, .nil => .nil
  | _, _, 0, .cons r t => .cons q t
  | _, _, i + 1, .cons r t => .cons r (paired_set q i t)
theorem paired_take {α β : Type} {F : α → β → Prop} : ∀ {vs : List α} {xs : List β} (n : Nat), Paired F vs xs → Paired F (vs.take n) (xs.take n)
  | _, _, 0, _ => .nil
  | _, _, _ + 1, .nil => .nil
  | _, _, n + 1, .cons r t => .cons r (paired_take n t)
theorem paired_drop {α β : Type} {F : α → β → Prop} : ∀ {vs : List α} {xs : List β} (n : Nat), Paired F vs xs → Paired F (vs.drop n) (xs.drop n)
  | _, _, 0, r => r
  | _, _, _ + 1, .nil => .nil
  | _, _, n + 1, .cons _ t => paired_drop n t

section
variable {K : PySem.W.Frag} {α β : Type}
def rI : Rp K Int := ⟨fun _ v x => v = .int x, fun _ h => h⟩
def rB : Rp K Bool := ⟨fun _ v x => v = .bl x, fun _ h => h⟩
def rS : Rp K Str := ⟨fun _ v x => v = .str x, fun _ h => h⟩
def rN : Rp K Unit := ⟨fun _ v _ => v = .non, fun _ h => h⟩
def okO (R : Rp K α) (G : Hp) (v : V) : Option α → Prop
  | none => v = .non
  | some x => R.ok G v x
def rO (R : Rp K α) : Rp K (Option α) := ⟨okO R, fun {G G' v x} e h => by
  cases x with
  | none => exact h
  | some x => exact R.mono e h⟩
def okL (R : Rp K α) (G : Hp) (v : V) (xs : List α) : Prop := ∃ a vs, v = .ref a ∧ SqL K G a vs ∧ Paired (R.ok G) vs xs ∧ vs.length ≤ sizeLine
def rL (R : Rp K α) : Rp K (List α) := ⟨okL R, fun {G G' v x} e ⟨a, vs, h1, h2, h3, h4⟩ => ⟨a, vs, h1, Same.seq e h2, paired_mono (fun _ _ q => R.mono e q) h3, h4⟩⟩
def okU (R : Rp K α) (G : Hp) (v : V) (xs : List α) : Prop := ∃ a vs, v = .ref a ∧ SqT K G a vs ∧ Paired (R.ok G) vs xs ∧ vs.length ≤ sizeLine
/-- a tuple of any length -/
def rU (R : Rp K α) : Rp K (List α) := ⟨okU R, fun {G G' v x} e ⟨a, vs, h1, h2, h3, h4⟩ => ⟨a, vs, h1, same_t e h2, paired_mono (fun _ _ q => R.mono e q) h3, h4⟩⟩
def fsN : Fs K Unit := ⟨fun _ vs _ => vs = [], fun _ h => h, 0, fun h => by rw [h]; rfl⟩
def fs1 (R : Rp K α) : Fs K α := ⟨fun G vs x => ∃ v, vs = [v] ∧ R.ok G v x, fun e ⟨v, h, q⟩ => ⟨v, h, R.mono e q⟩, 1, fun ⟨v, h, _⟩ => by rw [h]; rfl⟩
def fsC (R : Rp K α) (F : Fs K β) : Fs K (α × β) := ⟨fun G vs x => ∃ v r, vs = v :: r ∧ R.ok G v x.1 ∧ F.ok G r x.2, fun e ⟨v, r, h, q, z⟩ => ⟨v, r, h, R.mono e q, F.mono e z⟩, F.n + 1, fun ⟨v, r, h, _, z⟩ => by rw [h, List.length_cons, F.len z]⟩
/-- a tuple of fixed places -/
def rT (F : Fs K α) : Rp K α := ⟨fun G v x => ∃ a vs, v = .ref a ∧ SqT K G a vs ∧ F.ok G vs x, fun e ⟨a, vs, h1, h2, h3⟩ => ⟨a, vs, h1, same_t e h2, F.mono e h3⟩⟩
/-- an instance of the class at C -/
def rObj (C : Addr) (φ : Hp → List (Str × V) → α → Prop) (mono : ∀ {G G' : Hp} {fs : List (Str × V)} {x : α}, Same G G' → φ G fs x → φ G' fs x) : Rp K α :=
  ⟨fun G v x => ∃ a dx fs, v = .ref a ∧ G a = some (.ins C dx fs) ∧ φ G fs x, fun e ⟨a, dx, fs, h1, h2, h3⟩ => ⟨a, dx, fs, h1, e _ _ h2, mono e h3⟩⟩
/-- an exact value -/
def rV (v : V) : Rp K Unit := ⟨fun _ u _ => u = v, fun _ h => h⟩
end

/-! ### a pool of draws -/
def PoolAt (G H : Hp) (p g : Addr) : Prop := G p = none ∧ G g = none ∧ p ≠ g ∧ ∃ (s : Addr) (c m : Int) (gs ns : List Int), H p = some (.lst [.ref g, .ref s, .int c, .int m]) ∧ H g = some (.lst (gs.map V.int)) ∧
  G s = some (.lst (ns.map V.int)) ∧ ns ≠ [] ∧ ns.length ≤ 1000 ∧ gs.length ≤ 1000
theorem PoolAt.step {M : List Addr} {G H G' H' : Hp} {p g : Addr} (h : PoolAt G H p g) (s : Step M G H G' H') (n1 : p ∉ M) (n2 : g ∉ M) : PoolAt G' H' p g := by
  obtain ⟨h1, h2, h3, sm, c, m, gs, ns, h4, h5, h6, h7⟩ := h
  exact ⟨s.old _ _ h4 h1 n1, s.old _ _ h5 h2 n2, h3, sm, c, m, gs, ns, s.keep _ _ h4 n1, s.keep _ _ h5 n2, s.gg _ _ h6, h7⟩

/-! ### environments -/
abbrev Mp : Type := { φ : Hp → V → Prop // ∀ G G' v, Same G G' → φ G v → φ G' v }
def Rp.mp {K : PySem.W.Frag} {α : Type} (R : Rp K α) (x : α) : Mp := ⟨fun G v => R.ok G v x, fun _ _ _ e h => R.mono e h⟩
inductive En (K : PySem.W.Frag) : Type 1
  | off
  | fr {α : Type} (R : Rp K α) (x : α)
  | own {α : Type} (a : Addr) (R : Rp K α) (xs : List α)
  | pool (p g : Addr)
  | obj (a C : Addr) (fs : List (Str × Mp))
section
variable {K : PySem.W.Frag}
def En.ok : En K → Hp → Hp → Option V → Prop
  | .off, _, _, _ => True
  | .fr R x, G, _, o => ∃ v, o = some v ∧ R.ok G v x
  | .own a R xs, G, H, o => o = some (.ref a) ∧ G a = none ∧ ∃ vs, H a = some (.lst vs) ∧ Paired (R.ok G) vs xs ∧ vs.length ≤ sizeLine
  | .pool p g, G, H, o => o = some (.ref p) ∧ PoolAt G H p g
  | .obj a C fs, G, H, o => o = some (.ref a) ∧ G a = none ∧ ∃ dx vs, H a = some (.ins C dx vs) ∧ Paired (fun (p : Str × V) (q : Str × Mp) => p.1 = q.1 ∧ q.2.1 G p.2) vs fs
def En.adr : En K → List Addr
  | .own a _ _ => [a]
  | .pool p g => [p, g]
  | .obj a _ _ => [a]
  | _ => []
def En.pl : En K → List (Addr × Addr)
  | .pool p g => [(p, g)]
  | _ => []
def adrs : List (En K) → List Addr
  | [] => []
  | e :: es => e.adr ++ adrs es
def pls : List (En K) → List (Addr × Addr)
  | [] => []
  | e :: es => e.pl ++ pls es
def padr (ρ : List (En K)) : List Addr := (pls ρ).flatMap fun q => [q.1, q.2]
def Pools (ρ : List (En K)) (G H : Hp) : Prop := ∀ q ∈ pls ρ, PoolAt G H q.1 q.2
structure EnvOk (ρ : List (En K)) (G H : Hp) (σ : St) : Prop where
  len : σ.length = ρ.length
  ok : ∀ (i : Nat) (e : En K), ρ[i]? = some e → ∃ o, σ[i]? = some o ∧ e.ok G H o
  nd : (adrs ρ).Nodup

theorem paired_mono2 {α β : Type} {F F' : α → β → Prop} (h : ∀ v x, F v x → F' v x) : ∀ {vs : List α} {xs : List β}, Paired F vs xs → Paired F' vs xs
  | _, _, .nil => .nil
  | _, _, .cons r t => .cons (h _ _ r) (paired_mono2 h t)
theorem En.step {M : List Addr} {G H G' H' : Hp} {o : Option V} {e : En K} (h : e.ok G H o) (s : Step M G H G' H') (n : ∀ a ∈ e.adr, a ∉ M) : e.ok G' H' o := by
  cases e with
  | off => trivial
  | fr R x => obtain ⟨v, e, q⟩ := h; exact ⟨v, e, R.mono s.gg q⟩
  | own a R xs =>
    obtain ⟨e, q, vs, h1, h2, h3⟩ := h
    have na : a ∉ M := n a (by simp [En.adr])
    exact ⟨e, s.old _ _ h1 q na, vs, s.keep _ _ h1 na, paired_mono (fun _ _ z => R.mono s.gg z) h2, h3⟩
  | pool p g =>
    obtain ⟨e, q⟩ := h
    exact ⟨e, q.step s (n p (by simp [En.adr])) (n g (by simp [En.adr]))⟩
  | obj a C fs =>
    obtain ⟨e, q, dx, vs, h1, h2⟩ := h
    have na : a ∉ M := n a (by simp [En.adr])
    exact ⟨e, s.old _ _ h1 q na, dx, vs, s.keep _ _ h1 na, paired_mono2 (fun v x ⟨z1, z2⟩ => ⟨z1, x.2.2 _ _ _ s.gg z2⟩) h2⟩
theorem adrs_mem {ρ : List (En K)} {i : Nat} {e : En K} (h : ρ[i]? = some e) {a : Addr} (ha : a ∈ e.adr) : a ∈ adrs ρ := by
  induction ρ generalizing i with
  | nil => simp at h
  | cons x r ih =>
    cases i with
    | zero => simp at h; subst h; exact List.mem_append_left _ ha
    | succ i => exact List.mem_append_right _ (ih (by simpa using h))
theorem adrs_of {ρ : List (En K)} {a : Addr} (h : a ∈ adrs ρ) : ∃ (i : Nat) (e : En K), ρ[i]? = some e ∧ a ∈ e.adr := by
  induction ρ with
  | nil => cases h
  | cons x r ih =>
    rcases List.mem_append.mp h with h | h
    · exact ⟨0, x, rfl, h⟩
    · obtain ⟨i, e, h1, h2⟩ := ih h
      exact ⟨i + 1, e, by simpa using h1, h2⟩
theorem pls_mem {ρ : List (En K)} {i : Nat} {e : En K} (h : ρ[i]? = some e) {q : Addr × Addr} (ha : q ∈ e.pl) : q ∈ pls ρ := by
  induction ρ generalizing i with
  | nil => simp at h
  | cons x r ih =>
    cases i with
    | zero => simp at h; subst h; exact List.mem_append_left _ ha
    | succ i => exact List.mem_append_right _ (ih (by simpa using h))
theorem pls_of {ρ : List (En K)} {q : Addr × Addr} (h : q ∈ pls ρ) : ∃ i : Nat, ρ[i]? = some (En.pool q.1 q.2) := by
  induction ρ with
  | nil => cases h
  | cons x r ih =>
    rcases List.mem_append.mp h with h | h
    · cases x with
      | pool p g =>
        have e : q = (p, g) := by simpa [En.pl] using h
        subst e
        exact ⟨0, rfl⟩
      | _ => cases h
    · obtain ⟨i, h1⟩ := ih h
      exact ⟨i + 1, by simpa using h1⟩
theorem padr_sub {ρ : List (En K)} {a : Addr} (h : a ∈ padr ρ) : a ∈ adrs ρ := by
  obtain ⟨q, h1, h2⟩ := List.mem_flatMap.mp h
  obtain ⟨i, h3⟩ := pls_of h1
  exact adrs_mem h3 (by simpa [En.adr] using h2)
theorem EnvOk.pools {ρ : List (En K)} {G H : Hp} {σ : St} (h : EnvOk ρ G H σ) : Pools ρ G H := fun q hq => by
  obtain ⟨i, e⟩ := pls_of hq
  obtain ⟨o, _, _, z⟩ := h.ok i _ e
  exact z
theorem EnvOk.step {ρ : List (En K)} {M : List Addr} {G H G' H' : Hp} {σ : St} (h : EnvOk ρ G H σ) (s : Step M G H G' H') (n : ∀ a ∈ adrs ρ, a ∉ M) : EnvOk ρ G' H' σ :=
  ⟨h.len, fun i e hi => let ⟨o, ho, q⟩ := h.ok i e hi; ⟨o, ho, En.step q s fun a ha => n a (adrs_mem hi ha)⟩, h.nd⟩
theorem EnvOk.step0 {ρ : List (En K)} {G H G' H' : Hp} {σ : St} (h : EnvOk ρ G H σ) (s : Step [] G H G' H') : EnvOk ρ G' H' σ := h.step s fun _ _ z => nomatch z
theorem En.there {e : En K} {G H : Hp} {o : Option V} (h : e.ok G H o) {a : Addr} (ha : a ∈ e.adr) : ∃ u, H a = some u ∧ G a = none := by
  cases e with
  | off => cases ha
  | fr R x => cases ha
  | own b R xs =>
    have e : a = b := by simpa [En.adr] using ha
    subst e
    obtain ⟨_, n, vs, h1, _⟩ := h
    exact ⟨_, h1, n⟩
  | pool p g =>
    obtain ⟨_, n1, n2, _, s, c, m, gs, ns, h1, h2, _⟩ := h
    rcases (by simpa [En.adr] using ha : a = p ∨ a = g) with e | e
    · subst e; exact ⟨_, h1, n1⟩
    · subst e; exact ⟨_, h2, n2⟩
  | obj b C fs =>
    have e : a = b := by simpa [En.adr] using ha
    subst e
    obtain ⟨_, n, dx, vs, h1, _⟩ := h
    exact ⟨_, h1, n⟩
theorem EnvOk.there {ρ : List (En K)} {G H : Hp} {σ : St} (h : EnvOk ρ G H σ) {a : Addr} (ha : a ∈ adrs ρ) : ∃ u, H a = some u ∧ G a = none := by
  obtain ⟨i, e, h1, h2⟩ := adrs_of ha
  obtain ⟨o, _, q⟩ := h.ok i e h1
  exact En.there q h2
theorem EnvOk.fresh {ρ : List (En K)} {G H : Hp} {σ : St} (h : EnvOk ρ G H σ) {a : Addr} (n : H a = none) : a ∉ adrs ρ := fun z => by
  obtain ⟨u, e, _⟩ := h.there z
  rw [n] at e; cases e
/-! ### a slot is set -/
theorem adrs_set {ρ : List (En K)} {i : Nat} {e : En K} {a : Addr} (h : a ∈ adrs (ρ.set i e)) : a ∈ adrs ρ ∨ a ∈ e.adr := by
  induction ρ generalizing i with
  | nil => cases h
  | cons x r ih =>
    cases i with
    | zero =>
      rcases List.mem_append.mp h with h | h
      · exact .inr h
      · exact .inl (List.mem_append_right _ h)
    | succ i =>
      rcases List.mem_append.mp h with h | h
      · exact .inl (List.mem_append_left _ h)
      · rcases ih h with q | q
        · exact .inl (List.mem_append_right _ q)
        · exact .inr q
theorem nodup_set {ρ : List (En K)} {i : Nat} {e : En K} (h : (adrs ρ).Nodup) (he : e.adr.Nodup) (d : ∀ a ∈ e.adr, a ∉ adrs ρ) : (adrs (ρ.set i e)).Nodup := by
  induction ρ generalizing i with
  | nil => exact h
  | cons x r ih =>
    have h' : x.adr.Nodup ∧ (adrs r).Nodup ∧ ∀ a ∈ x.adr, ∀ b ∈ adrs r, a ≠ b := List.nodup_append.mp h
    cases i with
    | zero => exact List.nodup_append.mpr ⟨he, h'.2.1, fun a ha b hb q => d a ha (List.mem_append_right _ (q ▸ hb))⟩
    | succ i =>
      refine List.nodup_append.mpr ⟨h'.1, ih h'.2.1 fun a ha q => d a ha (List.mem_append_right _ q), fun a ha b hb q => ?_⟩
      rcases adrs_set hb with z | z
      · exact h'.2.2 a ha b z q
      · exact d b z (List.mem_append_left _ (q ▸ ha))
/-- .. where the addresses stay (or less) -/
theorem nodup_same {ρ : List (En K)} {i : Nat} {e e' : En K} (h : (adrs ρ).Nodup) (hi : ρ[i]? = some e) (he : e'.adr = e.adr ∨ e'.adr = []) : (adrs (ρ.set i e')).Nodup ∧ ∀ a ∈ adrs (ρ.set i e'), a ∈ adrs ρ := by
  induction ρ generalizing i with
  | nil => simp at hi
  | cons x r ih =>
    have h' : x.adr.Nodup ∧ (adrs r).Nodup ∧ ∀ a ∈ x.adr, ∀ b ∈ adrs r, a ≠ b := List.nodup_append.mp h
    cases i with
    | zero =>
      have ex : x = e := by simpa using hi
      subst ex
      show (e'.adr ++ adrs r).Nodup ∧ ∀ a ∈ e'.adr ++ adrs r, a ∈ x.adr ++ adrs r
      rcases he with he | he
      · rw [he]; exact ⟨h, fun a q => q⟩
      · rw [he]; exact ⟨h'.2.1, fun a q => List.mem_append_right _ q⟩
    | succ i =>
      obtain ⟨h1, h2⟩ := ih h'.2.1 (by simpa using hi)
      refine ⟨List.nodup_append.mpr ⟨h'.1, h1, fun a ha b hb => h'.2.2 a ha b (h2 b hb)⟩, fun a q => ?_⟩
      rcases List.mem_append.mp q with q | q
      · exact List.mem_append_left _ q
      · exact List.mem_append_right _ (h2 a q)
theorem pls_set {ρ : List (En K)} {i : Nat} {e : En K} (h : (ρ.getD i .off).pl = []) {q : Addr × Addr} (hq : q ∈ pls ρ) : q ∈ pls (ρ.set i e) := by
  induction ρ generalizing i with
  | nil => exact hq
  | cons x r ih =>
    cases i with
    | zero =>
      have hx : x.pl = [] := h
      have hq' : q ∈ x.pl ++ pls r := hq
      rw [hx] at hq'
      exact List.mem_append_right _ hq'
    | succ i =>
      rcases List.mem_append.mp hq with z | z
      · exact List.mem_append_left _ z
      · exact List.mem_append_right _ (ih h z)
theorem EnvOk.put {ρ : List (En K)} {G H : Hp} {σ : St} {i : Nat} {e : En K} {v : V} (h : EnvOk ρ G H σ) (q : e.ok G H (some v)) (nd : (adrs (ρ.set i e)).Nodup) : EnvOk (ρ.set i e) G H (σ.set i (some v)) := by
  refine ⟨by rw [List.length_set, List.length_set, h.len], fun j e' hj => ?_, nd⟩
  by_cases hij : i = j
  · subst hij
    have hl : i < ρ.length := by
      rcases Nat.lt_or_ge i ρ.length with z | z
      · exact z
      · rw [List.set_eq_of_length_le z] at hj
        rw [List.getElem?_eq_none z] at hj; cases hj
    rw [List.getElem?_set_self hl] at hj
    cases hj
    exact ⟨some v, by rw [List.getElem?_set_self (by rw [h.len]; exact hl)], q⟩
  · rw [List.getElem?_set_ne hij] at hj ⊢
    exact h.ok j e' hj
theorem nodup_fr {ρ : List (En K)} {i : Nat} {e : En K} (h : (adrs ρ).Nodup) (he : e.adr = []) : (adrs (ρ.set i e)).Nodup ∧ ∀ a ∈ adrs (ρ.set i e), a ∈ adrs ρ := by
  refine ⟨nodup_set h (by rw [he]; exact List.nodup_nil) (by rw [he]; intro a z; cases z), fun a z => ?_⟩
  rcases adrs_set z with q | q
  · exact q
  · rw [he] at q; cases q
theorem EnvOk.putFr {ρ : List (En K)} {G H : Hp} {σ : St} {i : Nat} {α : Type} {R : Rp K α} {x : α} {v : V} (h : EnvOk ρ G H σ) (q : R.ok G v x) : EnvOk (ρ.set i (.fr R x)) G H (σ.set i (some v)) :=
  h.put ⟨v, rfl, q⟩ (nodup_fr h.nd rfl).1
/-- the entry alone changes, the slot stays -/
theorem EnvOk.re {ρ : List (En K)} {G H : Hp} {σ : St} {i : Nat} {e : En K} (h : EnvOk ρ G H σ) (q : ∀ o, σ[i]? = some o → e.ok G H o) (nd : (adrs (ρ.set i e)).Nodup) : EnvOk (ρ.set i e) G H σ := by
  refine ⟨by rw [List.length_set, h.len], fun j e' hj => ?_, nd⟩
  by_cases hij : i = j
  · subst hij
    have hl : i < ρ.length := by
      rcases Nat.lt_or_ge i ρ.length with z | z
      · exact z
      · rw [List.set_eq_of_length_le z] at hj
        rw [List.getElem?_eq_none z] at hj; cases hj
    rw [List.getElem?_set_self hl] at hj
    cases hj
    obtain ⟨o, ho, _⟩ := h.ok i _ (List.getElem?_eq_getElem hl)
    exact ⟨o, ho, q o ho⟩
  · rw [List.getElem?_set_ne hij] at hj
    exact h.ok j e' hj
/-- entries forgotten -/
inductive Ent : List (En K) → List (En K) → Prop
  | nil : Ent [] []
  | same {e : En K} {a b : List (En K)} : Ent a b → Ent (e :: a) (e :: b)
  | off {e : En K} {a b : List (En K)} : Ent a b → e.pl = [] → Ent (e :: a) (.off :: b)
theorem Ent.adrs {a b : List (En K)} (h : Ent a b) : (SS.adrs b).Sublist (SS.adrs a) := by
  induction h with
  | nil => exact List.Sublist.refl _
  | same _ ih => exact List.Sublist.append (List.Sublist.refl _) ih
  | off _ _ ih => exact ih.trans (List.sublist_append_right _ _)
theorem Ent.pls {a b : List (En K)} (h : Ent a b) : SS.pls b = SS.pls a := by
  induction h with
  | nil => rfl
  | same _ ih => show _ ++ _ = _ ++ _; rw [ih]
  | @off e a b _ hp ih => show SS.pls b = e.pl ++ SS.pls a; rw [hp, ih]; rfl
theorem Ent.get {a b : List (En K)} (h : Ent a b) : ∀ (i : Nat) (e : En K), b[i]? = some e → e = .off ∧ i < a.length ∨ a[i]? = some e := by
  induction h with
  | nil => intro i e h; simp at h
  | same _ ih =>
    intro i e h
    cases i with
    | zero => exact .inr h
    | succ i =>
      rcases ih i e (by simpa using h) with q | q
      · exact .inl ⟨q.1, by simpa using q.2⟩
      · exact .inr (by simpa using q)
  | off _ _ ih =>
    intro i e h
    cases i with
    | zero => exact .inl ⟨by simpa using h.symm, by simp⟩
    | succ i =>
      rcases ih i e (by simpa using h) with q | q
      · exact .inl ⟨q.1, by simpa using q.2⟩
      · exact .inr (by simpa using q)
theorem Ent.len {a b : List (En K)} (h : Ent a b) : b.length = a.length := by
  induction h with
  | nil => rfl
  | same _ ih => simp [ih]
  | off _ _ ih => simp [ih]
theorem EnvOk.ent {ρ ρ' : List (En K)} {G H : Hp} {σ : St} (h : EnvOk ρ G H σ) (q : Ent ρ ρ') : EnvOk ρ' G H σ := by
  refine ⟨h.len.trans q.len.symm, fun i e hi => ?_, h.nd.sublist q.adrs⟩
  rcases q.get i e hi with ⟨z, hl⟩ | z
  · subst z
    have hl' : i < σ.length := by rw [h.len]; exact hl
    exact ⟨σ[i], List.getElem?_eq_getElem hl', trivial⟩
  · exact h.ok i e z
end
end SS
namespace SS
open PySem PySem.Spec L2
section
variable {K : PySem.W.Frag}
theorem nodup_apart {ρ : List (En K)} (h : (adrs ρ).Nodup) {i j : Nat} {e e' : En K} (hi : ρ[i]? = some e) (hj : ρ[j]? = some e') (ne : i ≠ j) {a : Addr} (h1 : a ∈ e.adr) (h2 : a ∈ e'.adr) : False := by
  induction ρ generalizing i j with
  | nil => simp at hi
  | cons x r ih =>
    have h' : x.adr.Nodup ∧ (adrs r).Nodup ∧ ∀ a ∈ x.adr, ∀ b ∈ adrs r, a ≠ b := List.nodup_append.mp h
    cases i with
    | zero =>
      cases j with
      | zero => exact ne rfl
      | succ j =>
        have ex : x = e := by simpa using hi
        subst ex
        exact h'.2.2 a h1 a (adrs_mem (by simpa using hj) h2) rfl
    | succ i =>
      cases j with
      | zero =>
        have ex : x = e' := by simpa using hj
        subst ex
        exact h'.2.2 a h2 a (adrs_mem (by simpa using hi) h1) rfl
      | succ j => exact ih h'.2.1 (by simpa using hi) (by simpa using hj) (fun z => ne (congrArg (· + 1) z))
theorem own_ne_pool {ρ : List (En K)} (h : (adrs ρ).Nodup) {i j : Nat} {e : En K} {p g : Addr} (hi : ρ[i]? = some e) (hj : ρ[j]? = some (.pool p g)) {a : Addr} (h1 : a ∈ e.adr) (h2 : a = p ∨ a = g) (hn : e.pl = [] := by rfl) : False := by
  refine nodup_apart h hi hj (fun z => ?_) h1 (by simpa [En.adr] using h2)
  subst z
  rw [hi] at hj
  cases hj
  cases hn
end
end SS

set_option Elab.async false
set_option linter.all false
set_option maxRecDepth 100000
/-! SSB: own rules, one a construct: an expression, a statement, a loop, a call, with its representation and its weakest condition. Own work. -/
namespace SS
open PySem PySem.Spec L2

abbrev W (α : Type) : Type := (α → Prop) → Prop

/-- the written part of a context, told apart -/
class HK (X : Cx) (K : PySem.W.Frag) : Prop where
  eq : X.K = K
instance {X : Cx} : HK X X.K := ⟨rfl⟩
/-! ### consequence -/
section
variable {X : Cx} {K : PySem.W.Frag} [HK X K]
theorem pe_imp {e : Expr} {t t' : TE} (h : PE X e t) (k : ∀ σ H Q, t' σ H Q → t σ H Q) : PE X e t' := ⟨fun pins s σ H Q I q => h.run pins s σ H Q I (k σ H Q q)⟩
theorem pt_imp {e : Expr} {t t' : TT} (h : PT X e t) (k : ∀ σ H Q, t' σ H Q → t σ H Q) : PT X e t' := ⟨fun pins s σ H Q I q => h.run pins s σ H Q I (k σ H Q q)⟩
theorem pts_imp {e : List Expr} {t t' : TT} (h : PTs X e t) (k : ∀ σ H Q, t' σ H Q → t σ H Q) : PTs X e t' := ⟨fun pins s σ H Q I q => h.run pins s σ H Q I (k σ H Q q)⟩
theorem pa_imp {e : List Expr} {t t' : TA} (h : PA X e t) (k : ∀ σ H Q, t' σ H Q → t σ H Q) : PA X e t' := ⟨fun pos pins s σ H Q I q => h.run pos pins s σ H Q I (k σ H Q q)⟩
theorem pss_imp {e : List Stmt} {t t' : TS} (h : PSs X e t) (k : ∀ D σ H, t' D σ H → t D σ H) : PSs X e t' := ⟨fun pins s σ H D I q => h.run pins s σ H D I (k D σ H q)⟩
theorem pg_imp {e : Expr} {t t' : TG} (h : PG X e t) (k : ∀ v σ H Q, t' v σ H Q → t v σ H Q) : PG X e t' := ⟨fun pins s σ H v u Q I r q => h.run pins s σ H v u Q I r (k v σ H Q q)⟩
theorem pi_imp {tg e : Expr} {t t' : TI} (h : PI X tg e t) (k : ∀ σ H Q, t' σ H Q → t σ H Q) : PI X tg e t' := ⟨fun pins s σ H Q I q => h.run pins s σ H Q I (k σ H Q q)⟩
/-- families -/
def tef {ι : Type} (t : ι → TE) : TE := fun σ H Q => ∃ i, t i σ H Q
def ttf {ι : Type} (t : ι → TT) : TT := fun σ H Q => ∃ i, t i σ H Q
def tsf {ι : Type} (t : ι → TS) : TS := fun D σ H => ∃ i, t i D σ H
def tgf {ι : Type} (t : ι → TG) : TG := fun v σ H Q => ∃ i, t i v σ H Q
theorem pe_fam {ι : Type} {e : Expr} {t : ι → TE} (h : ∀ i, PE X e (t i)) : PE X e (tef t) := ⟨fun pins s σ H Q I ⟨i, q⟩ => (h i).run pins s σ H Q I q⟩
theorem pi_fam {ι : Type} {tg e : Expr} {t : ι → TI} (h : ∀ i, PI X tg e (t i)) : PI X tg e (fun σ H R => ∃ i, t i σ H R) := ⟨fun pins s σ H R I ⟨i, q⟩ => (h i).run pins s σ H R I q⟩
theorem pts_fam {ι : Type} {e : List Expr} {t : ι → TT} (h : ∀ i, PTs X e (t i)) : PTs X e (ttf t) := ⟨fun pins s σ H Q I ⟨i, q⟩ => (h i).run pins s σ H Q I q⟩
theorem pss_fam {ι : Type} {e : List Stmt} {t : ι → TS} (h : ∀ i, PSs X e (t i)) : PSs X e (tsf t) := ⟨fun pins s σ H D I ⟨i, q⟩ => (h i).run pins s σ H D I q⟩
theorem pg_fam {ι : Type} {e : Expr} {t : ι → TG} (h : ∀ i, PG X e (t i)) : PG X e (tgf t) := ⟨fun pins s σ H v u Q I r ⟨i, q⟩ => (h i).run pins s σ H v u Q I r q⟩
end

/-! ### readings -/
section
variable {K : PySem.W.Frag} {α β γ : Type}
def Ct (ρ : List (En K)) (σ : L2.St) (G H : Hp) (R : Rp K α) (P : α → Prop) (Q : VK) : Prop :=
  ∀ G' H' v a, Step (padr ρ) G H G' H' → EnvOk ρ G' H' σ → P a → R.ok G' v a → Q v H'
def TEx (ρ : List (En K)) (R : Rp K α) (w : W α) : TE := fun σ H Q => ∃ (G : Hp) (P : α → Prop), Same G H ∧ EnvOk ρ G H σ ∧ w P ∧ Ct ρ σ G H R P Q
/-- a new list, not frozen -/
def TEL (ρ : List (En K)) (R : Rp K α) (w : W (List α)) : TE := fun σ H Q => ∃ (G : Hp) (P : List α → Prop), Same G H ∧ EnvOk ρ G H σ ∧ w P ∧
  ∀ G' H' p vs xs, Step (padr ρ) G H G' H' → EnvOk ρ G' H' σ → P xs → H p = none → G' p = none → H' p = some (.lst vs) → Paired (R.ok G') vs xs → vs.length ≤ sizeLine → Q (.ref p) H'
def TTx (ρ : List (En K)) (w : W Bool) : TT := fun σ H Q => ∃ (G : Hp) (P : Bool → Prop), Same G H ∧ EnvOk ρ G H σ ∧ w P ∧ ∀ G' H' b, Step (padr ρ) G H G' H' → EnvOk ρ G' H' σ → P b → Q b H'
def TAx (ρ : List (En K)) (F : Fs K α) (w : W α) : TA := fun σ H Q => ∃ (G : Hp) (P : α → Prop), Same G H ∧ EnvOk ρ G H σ ∧ w P ∧ ∀ G' H' vs a, Step (padr ρ) G H G' H' → EnvOk ρ G' H' σ → P a → F.ok G' vs a → Q vs H'
theorem Ct.step {ρ : List (En K)} {σ : L2.St} {G H G1 H1 : Hp} {R : Rp K α} {P : α → Prop} {Q : VK} (c : Ct ρ σ G H R P Q) (s : Step (padr ρ) G H G1 H1) : Ct ρ σ G1 H1 R P Q :=
  fun G' H' v a s' e p r => c G' H' v a (s.trans s') e p r
theorem Ct.go {ρ : List (En K)} {σ : L2.St} {G H : Hp} {R : Rp K α} {P : α → Prop} {Q : VK} (c : Ct ρ σ G H R P Q) (s : Same G H) (e : EnvOk ρ G H σ) {v : V} {a : α} (p : P a) (r : R.ok G v a) : Q v H :=
  c G H v a (Step.refl s) e p r
theorem Ct.go0 {ρ : List (En K)} {σ : L2.St} {G H G1 H1 : Hp} {R : Rp K α} {P : α → Prop} {Q : VK} (c : Ct ρ σ G H R P Q) (e : EnvOk ρ G H σ) (s : Step [] G H G1 H1) {v : V} {a : α} (p : P a) (r : R.ok G1 v a) : Q v H1 :=
  c G1 H1 v a s.of0 (e.step0 s) p r
/-- operations on values -/
def R2Ok (r : R2) (R1 : Rp K α) (R2' : Rp K β) (R3 : Rp K γ) (f : α → β → W γ) : Prop :=
  ∀ (G H : Hp) (v u : V) (x : α) (y : β) (P : γ → Prop) (Q : VK), Same G H → R1.ok G v x → R2'.ok G u y → f x y P → (∀ G' H' z c, Step [] G H G' H' → P c → R3.ok G' z c → Q z H') → r v u H Q
def R1Ok (r : V → Hp → VK → Prop) (R1 : Rp K α) (R3 : Rp K γ) (f : α → W γ) : Prop :=
  ∀ (G H : Hp) (v : V) (x : α) (P : γ → Prop) (Q : VK), Same G H → R1.ok G v x → f x P → (∀ G' H' z c, Step [] G H G' H' → P c → R3.ok G' z c → Q z H') → r v H Q
def RCOk (r : List V → Hp → VK → Prop) (F : Fs K α) (R3 : Rp K γ) (f : α → W γ) : Prop :=
  ∀ (G H : Hp) (vs : List V) (x : α) (P : γ → Prop) (Q : VK), Same G H → F.ok G vs x → f x P → (∀ G' H' z c, Step [] G H G' H' → P c → R3.ok G' z c → Q z H') → r vs H Q
/-- .. a new list -/
def RCL (r : List V → Hp → VK → Prop) (F : Fs K α) (R3 : Rp K γ) (f : α → W (List γ)) : Prop :=
  ∀ (G H : Hp) (vs : List V) (x : α) (P : List γ → Prop) (Q : VK), Same G H → F.ok G vs x → f x P →
    (∀ H' p us ys, Step [] G H G H' → P ys → H p = none → H' p = some (.lst us) → Paired (R3.ok G) us ys → us.length ≤ sizeLine → Q (.ref p) H') → r vs H Q
end

/-! ### expressions -/
section
variable {X : Cx} {K : PySem.W.Frag} [HK X K] {α β γ δ : Type} {ρ : List (En K)} {R : Rp K α} {R1 : Rp K α} {R2' : Rp K β} {R3 : Rp K γ} {w1 : W α} {w2 : W β} {a b : Expr} {pos : Pos} {r : R2} {f : α → β → W γ}

theorem pr_name {i : Nat} {nm : Str} {x : α} (h : PE X (.Name nm pos) (tVar i)) (e : ρ[i]? = some (.fr R x)) : PE X (.Name nm pos) (TEx ρ R fun P => P x) := by
  refine pe_imp h fun σ H Q ⟨G, P, s, ev, p, c⟩ => ?_
  obtain ⟨o, ho, v, hv, q⟩ := ev.ok i _ e
  subst hv
  exact ⟨v, ho, c.go s ev p q⟩
theorem pr_const {v : V} {x : α} (h : PE X a (tC v)) (q : ∀ G, R.ok G v x) : PE X a (TEx ρ R fun P => P x) :=
  pe_imp h fun σ H Q ⟨G, P, s, ev, p, c⟩ => c.go s ev p (q G)
theorem pr_int {i j} : PE X (.Constant (.int i) j pos) (TEx ρ rI fun P => P i) := pr_const pe_int fun _ => rfl
theorem pr_bl {b j} : PE X (.Constant (.bool b) j pos) (TEx ρ rB fun P => P b) := pr_const pe_bl fun _ => rfl
theorem pr_str {x j} : PE X (.Constant (.str x) j pos) (TEx ρ rS fun P => P x) := pr_const pe_str fun _ => rfl
theorem pr_nonU {j} : PE X (.Constant .none j pos) (TEx ρ rN fun P => P ()) := pr_const pe_non fun _ => rfl
theorem pr_non {j} {R : Rp K α} : PE X (.Constant .none j pos) (TEx ρ (rO R) fun P => P none) := pr_const pe_non fun _ => rfl
theorem pr_gint {x : Str} {i : Int} (hg : Gl X x) (hm : ∃ t, X.mg x = some (.int i t)) (hd : (x == ("__debug__" : Str)) = false := by decide) : PE X (.Name x pos) (TEx ρ rI fun P => P i) :=
  let ⟨t, e⟩ := hm; pr_const (v := .int i) (pe_glob hg e ⟨t, rfl⟩ hd) fun _ => rfl
/-- a weaker representation -/
theorem pr_to {R : Rp K α} {w : W α} {β : Type} {R' : Rp K β} (g : α → β) (h : PE X a (TEx ρ R w)) (k : ∀ G v x, R.ok G v x → R'.ok G v (g x)) : PE X a (TEx ρ R' fun P => w fun x => P (g x)) :=
  pe_imp h fun σ H Q ⟨G, P, s, ev, p, c⟩ => ⟨G, _, s, ev, p, fun G' H' v x st e' px rx => c G' H' v (g x) st e' px (k _ _ _ rx)⟩
theorem pr_some {R : Rp K α} {w : W α} (h : PE X a (TEx ρ R w)) : PE X a (TEx ρ (rO R) fun P => w fun x => P (some x)) := pr_to some h fun _ _ _ q => q
/-- what is known not to be None -/
theorem pr_get {R : Rp K α} {w : W (Option α)} (h : PE X a (TEx ρ (rO R) w)) : PE X a (TEx ρ R fun P => w fun o => ∃ x, o = some x ∧ P x) :=
  pe_imp h fun σ H Q ⟨G, P, s, ev, p, c⟩ => ⟨G, _, s, ev, p, fun G' H' v o st e' ⟨x, ex, px⟩ ro => by subst ex; exact c G' H' v x st e' px ro⟩
/-- a new list is frozen -/
theorem pr_frz {R : Rp K α} {w : W (List α)} (h : PE X a (TEL ρ R w)) : PE X a (TEx ρ (rL R) w) := by
  refine pe_imp h fun σ H Q ⟨G, P, s, ev, p, c⟩ => ⟨G, P, s, ev, p, fun G' H' q vs xs st e' px n1 n2 hq pr hz => ?_⟩
  have hq' : q ∉ adrs ρ := ev.fresh n1
  have s2 : Step [q] G' H' (upd G' q (.lst vs)) H' := Step.freeze st.gh (by simp) n2 hq
  refine c _ _ _ xs (st.cut s2 fun b hb => .inr (by have : b = q := by simpa using hb
                                                    rw [this]; exact n1)) (e'.step s2 fun b hb z => hq' (by have : b = q := by simpa using z
                                                                                                            rw [← this]; exact hb)) px ?_
  exact ⟨q, vs, rfl, SqL.of upd_same, paired_mono (fun _ _ z => R.mono s2.gg z) pr, hz⟩
theorem tx_op (hr : R2Ok r R1 R2' R3 f) (σ : L2.St) (H : Hp) (Q : VK) (h : TEx ρ R3 (fun P => w1 fun x => w2 fun y => f x y P) σ H Q) : tOp r (TEx ρ R1 w1) (TEx ρ R2' w2) σ H Q := by
  obtain ⟨G, P, s, e, h, c⟩ := h
  refine ⟨G, _, s, e, h, fun G1 H1 v1 x st1 e1 p1 r1 => ?_⟩
  refine ⟨G1, _, st1.gh, e1, p1, fun G2 H2 v2 y st2 e2 p2 r2 => ?_⟩
  exact hr G2 H2 v1 v2 x y P Q st2.gh (R1.mono st2.gg r1) r2 p2 fun G3 H3 v z st3 pz rz => c G3 H3 v z ((st1.trans st2).trans st3.of0) (e2.step0 st3) pz rz
theorem pr_op {op : Operator} (ho : OpR X (binaryOp op) r) (hr : R2Ok r R1 R2' R3 f) (ha : PE X a (TEx ρ R1 w1)) (hb : PE X b (TEx ρ R2' w2)) : PE X (.BinOp a op b pos) (TEx ρ R3 fun P => w1 fun x => w2 fun y => f x y P) :=
  pe_imp (pe_op ho ha hb) (tx_op hr)
theorem pr_cmp {op : CmpOp} (ho : OpR X (compareOp op) r) (hr : R2Ok r R1 R2' R3 f) (hm : behindInMarks op b = false) (ha : PE X a (TEx ρ R1 w1)) (hb : PE X b (TEx ρ R2' w2)) : PE X (.Compare a [op] [b] pos) (TEx ρ R3 fun P => w1 fun x => w2 fun y => f x y P) :=
  pe_imp (pe_cmpR ho ha hb hm) (tx_op hr)
theorem pt_cmpX {f : α → β → W Bool} {op : CmpOp} (ho : OpR X (compareOp op) r) (hr : R2Ok r R1 R2' rB f) (hm : behindInMarks op b = false) (ha : PE X a (TEx ρ R1 w1)) (hb : PE X b (TEx ρ R2' w2)) : PT X (.Compare a [op] [b] pos) (TTx ρ fun P => w1 fun x => w2 fun y => f x y P) := by
  refine pt_imp (pt_cmpR ho ha hb hm) fun σ H Q ⟨G, P, s, e, h, c⟩ => ?_
  show tOp r (TEx ρ R1 w1) (TEx ρ R2' w2) σ H _
  exact tx_op hr σ H _ ⟨G, P, s, e, h, fun G' H' v b st e' pb rb => ⟨b, rb, c G' H' b st e' pb⟩⟩
theorem pr_ix (ho : IxR X r) (hr : R2Ok r R1 R2' R3 f) (ha : PE X a (TEx ρ R1 w1)) (hb : PE X b (TEx ρ R2' w2)) (hs : PlainIx b := by exact fun _ _ => rfl) : PE X (.Subscript a b pos) (TEx ρ R3 fun P => w1 fun x => w2 fun y => f x y P) :=
  pe_imp (pe_ix ho ha hb hs) (tx_op hr)
theorem pr_un {op : UnaryOp} {r : V → Hp → VK → Prop} {f : α → W γ} (ho : UnR X (unaryOp op) r) (hr : R1Ok r R1 R3 f) (ha : PE X a (TEx ρ R1 w1)) : PE X (.UnaryOp op a pos) (TEx ρ R3 fun P => w1 fun x => f x P) := by
  refine pe_imp (pe_un ho ha) fun σ H Q ⟨G, P, s, e, h, c⟩ => ⟨G, _, s, e, h, fun G1 H1 v x st1 e1 p1 r1 => ?_⟩
  exact hr G1 H1 v x P Q st1.gh r1 p1 fun G3 H3 v z st3 pz rz => c G3 H3 v z (st1.trans st3.of0) (e1.step0 st3) pz rz
/-- a < b < c -/
theorem tx_chain {r r' : R2} {c : Expr} {w3 : W δ} {Rc : Rp K δ} {f : α → β → W Bool} {f' : β → δ → W Bool} (hr : R2Ok r R1 R2' rB f) (hr' : R2Ok r' R2' Rc rB f') (σ : L2.St) (H : Hp) (Q : VK)
    (h : TEx ρ rB (fun P => w1 fun x => w2 fun y => f x y fun k => if k = true then w3 fun z => f' y z P else P false) σ H Q) : tChain r r' (TEx ρ R1 w1) (TEx ρ R2' w2) (TEx ρ Rc w3) σ H Q := by
  obtain ⟨G, P, s, e, h, ct⟩ := h
  refine ⟨G, _, s, e, h, fun G1 H1 v1 x st1 e1 p1 r1 => ?_⟩
  refine ⟨G1, _, st1.gh, e1, p1, fun G2 H2 v2 y st2 e2 p2 r2 => ?_⟩
  refine hr G2 H2 v1 v2 x y _ _ st2.gh (R1.mono st2.gg r1) r2 p2 fun G3 H3 v k st3 pk rk => ?_
  refine ⟨k, rk, ?_⟩
  have s3 : Step (padr ρ) G H G3 H3 := (st1.trans st2).trans st3.of0
  cases k with
  | false => exact ct G3 H3 _ false s3 (e2.step0 st3) pk rfl
  | true =>
    refine ⟨G3, _, st3.gh, e2.step0 st3, pk, fun G4 H4 v4 z st4 e4 p4 r4 => ?_⟩
    exact hr' G4 H4 v2 v4 y z P Q st4.gh (R2'.mono (st3.gg.trans st4.gg) r2) r4 p4 fun G5 H5 v5 z5 st5 p5 r5 => ct G5 H5 v5 z5 ((s3.trans st4).trans st5.of0) (e4.step0 st5) p5 r5
theorem pr_chain {r r' : R2} {c : Expr} {w3 : W δ} {Rc : Rp K δ} {f : α → β → W Bool} {f' : β → δ → W Bool} {op op' : CmpOp} (ho : OpR X (compareOp op) r) (hr : R2Ok r R1 R2' rB f) (ho' : OpR X (compareOp op') r') (hr' : R2Ok r' R2' Rc rB f')
    (ha : PE X a (TEx ρ R1 w1)) (hb : PE X b (TEx ρ R2' w2)) (hc : PE X c (TEx ρ Rc w3)) (hm : lastMarks [op, op'] [b, c] = false := by with_unfolding_all rfl) :
    PE X (.Compare a [op, op'] [b, c] pos) (TEx ρ rB fun P => w1 fun x => w2 fun y => f x y fun k => if k = true then w3 fun z => f' y z P else P false) :=
  pe_imp (pe_chain ho ho' ha hb hc hm) (tx_chain (c := c) hr hr')
theorem pt_chainX {r r' : R2} {c : Expr} {w3 : W δ} {Rc : Rp K δ} {f : α → β → W Bool} {f' : β → δ → W Bool} {op op' : CmpOp} (ho : OpR X (compareOp op) r) (hr : R2Ok r R1 R2' rB f) (ho' : OpR X (compareOp op') r') (hr' : R2Ok r' R2' Rc rB f')
    (ha : PE X a (TEx ρ R1 w1)) (hb : PE X b (TEx ρ R2' w2)) (hc : PE X c (TEx ρ Rc w3)) (hm : lastMarks [op, op'] [b, c] = false := by with_unfolding_all rfl) :
    PT X (.Compare a [op, op'] [b, c] pos) (TTx ρ fun P => w1 fun x => w2 fun y => f x y fun k => if k = true then w3 fun z => f' y z P else P false) := by
  refine pt_imp (pt_chain ho ho' ha hb hc hm) fun σ H Q ⟨G, P, s, e, h, ct⟩ => ?_
  show tChain r r' (TEx ρ R1 w1) (TEx ρ R2' w2) (TEx ρ Rc w3) σ H _
  exact tx_chain (c := c) hr hr' σ H _ ⟨G, P, s, e, h, fun G' H' v b st e' pb rb => ⟨b, rb, ct G' H' b st e' pb⟩⟩
/-- tests -/
theorem pt_valX {w : W Bool} (h : PE X a (TEx ρ rB w)) (he : ∀ whole, isTrue a X.env whole = (do let v ← whole; standAt a.pos; holding [v] (truthy v)) := by intro _; rfl) : PT X a (TTx ρ w) :=
  pt_imp (pt_val h he) fun σ H Q ⟨G, P, s, e, h, ct⟩ => ⟨G, P, s, e, h, fun G' H' v b st e' pb rb => ⟨b, rb, ct G' H' b st e' pb⟩⟩
variable {u1 u2 : W Bool} {rest : List Expr}
theorem pw_and1X (h : PT X a (TTx ρ u1)) : PW X (.BoolOp .And [a] pos) (TTx ρ u1) := pw_and1 h
theorem pw_or1X (h : PT X a (TTx ρ u1)) : PW X (.BoolOp .Or [a] pos) (TTx ρ u1) := pw_or1 h
theorem pw_imp {e : Expr} {t t' : TT} (h : PW X e t) (k : ∀ σ H Q, t' σ H Q → t σ H Q) : PW X e t' := ⟨fun wh pins s σ H Q I q => h.run wh pins s σ H Q I (k σ H Q q)⟩
theorem pw_andX (h1 : PT X a (TTx ρ u1)) (h2 : PW X (.BoolOp .And (b :: rest) pos) (TTx ρ u2)) : PW X (.BoolOp .And (a :: b :: rest) pos) (TTx ρ fun P => u1 fun k => if k = true then u2 P else P false) := by
  refine pw_imp (pw_and h1 h2) fun σ H Q ⟨G, P, s, e, h, c⟩ => ⟨G, _, s, e, h, fun G1 H1 k st1 e1 p1 => ?_⟩
  cases k with
  | true => exact ⟨G1, P, st1.gh, e1, p1, fun G2 H2 b st2 e2 p2 => c G2 H2 b (st1.trans st2) e2 p2⟩
  | false => exact c G1 H1 false st1 e1 p1
theorem pw_orX (h1 : PT X a (TTx ρ u1)) (h2 : PW X (.BoolOp .Or (b :: rest) pos) (TTx ρ u2)) : PW X (.BoolOp .Or (a :: b :: rest) pos) (TTx ρ fun P => u1 fun k => if k = true then P true else u2 P) := by
  refine pw_imp (pw_or h1 h2) fun σ H Q ⟨G, P, s, e, h, c⟩ => ⟨G, _, s, e, h, fun G1 H1 k st1 e1 p1 => ?_⟩
  cases k with
  | false => exact ⟨G1, P, st1.gh, e1, p1, fun G2 H2 b st2 e2 p2 => c G2 H2 b (st1.trans st2) e2 p2⟩
  | true => exact c G1 H1 true st1 e1 p1
theorem pt_notX (h : PT X a (TTx ρ u1)) : PT X (.UnaryOp .Not a pos) (TTx ρ fun P => u1 fun k => P (!k)) :=
  pt_imp (pt_not h) fun σ H Q ⟨G, P, s, e, h, c⟩ => ⟨G, _, s, e, h, fun G1 H1 k st1 e1 p1 => c G1 H1 (!k) st1 e1 p1⟩
/-- .. as values -/
theorem pr_andV {w1 : W Bool} (h1 : PE X a (TEx ρ rB w1)) {w2 : W Bool} (h2 : PE X (.BoolOp .And (b :: rest) pos) (TEx ρ rB w2)) : PE X (.BoolOp .And (a :: b :: rest) pos) (TEx ρ rB fun P => w1 fun k => if k = true then w2 P else P false) := by
  refine pe_imp (pe_and h1 h2) fun σ H Q ⟨G, P, s, e, h, c⟩ => ⟨G, _, s, e, h, fun G1 H1 v k st1 e1 p1 r1 => ⟨k, r1, ?_⟩⟩
  cases k with
  | true => exact ⟨G1, P, st1.gh, e1, p1, c.step st1⟩
  | false => exact c G1 H1 _ false st1 e1 p1 rfl
theorem pr_orV {w1 : W Bool} (h1 : PE X a (TEx ρ rB w1)) {w2 : W Bool} (h2 : PE X (.BoolOp .Or (b :: rest) pos) (TEx ρ rB w2)) : PE X (.BoolOp .Or (a :: b :: rest) pos) (TEx ρ rB fun P => w1 fun k => if k = true then P true else w2 P) := by
  refine pe_imp (pe_or h1 h2) fun σ H Q ⟨G, P, s, e, h, c⟩ => ⟨G, _, s, e, h, fun G1 H1 v k st1 e1 p1 r1 => ⟨k, r1, ?_⟩⟩
  cases k with
  | false => exact ⟨G1, P, st1.gh, e1, p1, c.step st1⟩
  | true => exact c G1 H1 _ true st1 e1 p1 rfl
theorem pr_oneV {op : BoolOp} {w : W α} (h : PE X a (TEx ρ R w)) : PE X (.BoolOp op [a] pos) (TEx ρ R w) := pe_one h
theorem pr_notV {w : W Bool} (h : PE X a (TEx ρ rB w)) : PE X (.UnaryOp .Not a pos) (TEx ρ rB fun P => w fun k => P (!k)) :=
  pe_imp (pe_not h) fun σ H Q ⟨G, P, s, e, h, c⟩ => ⟨G, _, s, e, h, fun G1 H1 v k st1 e1 p1 r1 => ⟨k, r1, c G1 H1 _ (!k) st1 e1 p1 rfl⟩⟩
theorem pr_if {t : Expr} {w1 w2 : W α} (ht : PT X t (TTx ρ u1)) (ha : PE X a (TEx ρ R w1)) (hb : PE X b (TEx ρ R w2)) : PE X (.IfExp t a b pos) (TEx ρ R fun P => u1 fun k => if k = true then w1 P else w2 P) := by
  refine pe_imp (pe_ifExp ht ha hb) fun σ H Q ⟨G, P, s, e, h, c⟩ => ⟨G, _, s, e, h, fun G1 H1 k st1 e1 p1 => ?_⟩
  cases k with
  | true => exact ⟨G1, P, st1.gh, e1, p1, c.step st1⟩
  | false => exact ⟨G1, P, st1.gh, e1, p1, c.step st1⟩
/-! ### arguments, displays, calls -/
theorem pa_nilX : PA X [] (TAx ρ fsN fun P => P ()) := pa_imp pa_nil fun σ H Q ⟨G, P, s, e, h, c⟩ => c G H [] () (Step.refl s) e h rfl
theorem pa_oneX {e : Expr} (h : PE X e (TEx ρ R w1)) (hs : starEach [e] X.env = (false, eval e X.env) :: starEach [] X.env := by rfl) : PA X [e] (TAx ρ (fs1 R) w1) :=
  pa_imp (pa_cons h pa_nil hs) fun σ H Q ⟨G, P, s, e, h, c⟩ => ⟨G, P, s, e, h, fun G1 H1 v x st1 e1 p1 r1 => c G1 H1 [v] x st1 e1 p1 ⟨v, rfl, r1⟩⟩
theorem pa_consX {e : Expr} {es : List Expr} {F : Fs K β} (h : PE X e (TEx ρ R w1)) (ht : PA X es (TAx ρ F w2)) (hs : starEach (e :: es) X.env = (false, eval e X.env) :: starEach es X.env := by rfl) : PA X (e :: es) (TAx ρ (fsC R F) fun P => w1 fun x => w2 fun y => P (x, y)) := by
  refine pa_imp (pa_cons h ht hs) fun σ H Q ⟨G, P, s, e, h, c⟩ => ⟨G, _, s, e, h, fun G1 H1 v x st1 e1 p1 r1 => ⟨G1, _, st1.gh, e1, p1, fun G2 H2 vs y st2 e2 p2 r2 => ?_⟩⟩
  exact c G2 H2 (v :: vs) (x, y) (st1.trans st2) e2 p2 ⟨v, vs, rfl, R.mono st2.gg r1, r2⟩
theorem pr_tup {es : List Expr} {F : Fs K α} {k} (h : PA X es (TAx ρ F w1)) (hn : F.n ≤ sizeLine := by exact Nat.le_of_ble_eq_true rfl) : PE X (.Tuple es k pos) (TEx ρ (rT F) w1) := by
  refine pe_imp (pe_tup h) fun σ H Q ⟨G, P, s, e, h, c⟩ => ⟨G, P, s, e, h, fun G1 H1 vs x st1 e1 p1 r1 => ⟨by rw [F.len r1]; exact hn, fun p hp => ?_⟩⟩
  have s2 := Step.new (M := []) (o := .tup vs) st1.gh hp
  exact c _ _ _ x (st1.trans s2.of0) (e1.step0 s2) p1 ⟨p, vs, rfl, SqT.of upd_same, F.mono s2.gg r1⟩
/-- a row of one kind -/
def fsR {K : PySem.W.Frag} (R : Rp K α) (n : Nat) : Fs K (List α) := ⟨fun G vs xs => vs.length = n ∧ Paired (R.ok G) vs xs, fun e ⟨h1, h2⟩ => ⟨h1, paired_mono (fun _ _ z => R.mono e z) h2⟩, n, fun h => h.1⟩
theorem fsR_n {K : PySem.W.Frag} (R : Rp K α) (n : Nat) : (fsR R n).n = n := rfl
theorem fsR_pair {K : PySem.W.Frag} {R : Rp K α} {G : Hp} {n : Nat} {vs : List V} {xs : List α} (h : (fsR R n).ok G vs xs) : Paired (R.ok G) vs xs := h.2
theorem pa_nilR : PA X [] (TAx ρ (fsR R 0) fun P => P []) := pa_imp pa_nil fun σ H Q ⟨G, P, s, e, h, c⟩ => c G H [] [] (Step.refl s) e h ⟨rfl, .nil⟩
theorem pa_consR {e : Expr} {es : List Expr} {n : Nat} {w2 : W (List α)} (h : PE X e (TEx ρ R w1)) (ht : PA X es (TAx ρ (fsR R n) w2)) (hs : starEach (e :: es) X.env = (false, eval e X.env) :: starEach es X.env := by rfl) : PA X (e :: es) (TAx ρ (fsR R (n + 1)) fun P => w1 fun x => w2 fun y => P (x :: y)) := by
  refine pa_imp (pa_cons h ht hs) fun σ H Q ⟨G, P, s, e, h, c⟩ => ⟨G, _, s, e, h, fun G1 H1 v x st1 e1 p1 r1 => ⟨G1, _, st1.gh, e1, p1, fun G2 H2 vs y st2 e2 p2 r2 => ?_⟩⟩
  exact c G2 H2 (v :: vs) (x :: y) (st1.trans st2) e2 p2 ⟨congrArg (· + 1) r2.1, .cons (R.mono st2.gg r1) r2.2⟩
theorem pr_lst {es : List Expr} {n : Nat} {w : W (List α)} (h : PA X es (TAx ρ (fsR R n) w)) (hn : n ≤ sizeLine := by decide) : PE X (.List es pos) (TEL ρ R w) := by
  refine pe_imp (pe_lst h) fun σ H Q ⟨G, P, s, e, h, c⟩ => ⟨G, P, s, e, h, fun G1 H1 vs x st1 e1 p1 r1 => ?_⟩
  have hl : vs.length = n := by rw [(fsR R n).len r1, fsR_n]
  refine ⟨by rw [hl]; exact hn, fun p hp => ?_⟩
  have s2 := Step.lay (M := []) (o := .lst vs) st1.gh hp
  have hp0 : H p = none := by
    cases q : H p with
    | none => rfl
    | some o =>
      by_cases z : p ∈ padr ρ
      · obtain ⟨u, e, _⟩ := e1.there (padr_sub z); rw [hp] at e; cases e
      · rw [st1.keep _ _ q z] at hp; cases hp
  exact c _ _ p vs x (st1.trans s2.of0) (e1.step0 s2) p1 hp0 (st1.gh.free hp) upd_same (fsR_pair r1) (by rw [hl]; exact hn)
/-- a tuple of one kind -/
theorem pr_tupU {es : List Expr} {n k : Nat} {w : W (List α)} (h : PA X es (TAx ρ (fsR R n) w)) (hn : n ≤ sizeLine := by decide) : PE X (.Tuple es k pos) (TEx ρ (rU R) w) := by
  refine pe_imp (pe_tup h) fun σ H Q ⟨G, P, s, e, h, c⟩ => ⟨G, P, s, e, h, fun G1 H1 vs x st1 e1 p1 r1 => ?_⟩
  have hl : vs.length = n := by rw [(fsR R n).len r1, fsR_n]
  refine ⟨by rw [hl]; exact hn, fun p hp => ?_⟩
  have s2 := Step.new (M := []) (o := .tup vs) st1.gh hp
  exact c _ _ _ x (st1.trans s2.of0) (e1.step0 s2) p1 ⟨p, vs, rfl, SqT.of upd_same, paired_mono (fun _ _ z => R.mono s2.gg z) (fsR_pair r1), by rw [hl]; exact hn⟩
theorem tx_cb {r : List V → Hp → VK → Prop} {F : Fs K α} {f : α → W γ} (hr : RCOk r F R3 f) (σ : L2.St) (H : Hp) (Q : VK) (h : TEx ρ R3 (fun P => w1 fun x => f x P) σ H Q) : tCB r (TAx ρ F w1) σ H Q := by
  obtain ⟨G, P, s, e, h, c⟩ := h
  exact ⟨G, _, s, e, h, fun G1 H1 vs x st1 e1 p1 r1 => hr G1 H1 vs x P Q st1.gh r1 p1 fun G3 H3 v z st3 pz rz => c G3 H3 v z (st1.trans st3.of0) (e1.step0 st3) pz rz⟩
theorem pr_cb {e : Expr} {es : List Expr} {x : Str} {p : Pos} {id : String} {r : List V → Hp → VK → Prop} {F : Fs K α} {f : α → W γ} (hc : CallR X (.builtin id) r) (hr : RCOk r F R3 f) (hm : X.mg x = none) (hv : bootBuiltins x = some (.builtin id)) (ha : PA X (e :: es) (TAx ρ F w1))
    (hg : Gl X x := by rfl) (hn : x ≠ "__name__" := by decide) (hdb : (x == ("__debug__" : Str)) = false := by decide)
    (he : starEach (e :: es) X.env = (false, eval e X.env) :: starEach es X.env := by rfl) (hpl : (backTo pos (starEach es X.env)).any (·.1) = false := by rfl) : PE X (.Call (.Name x p) (e :: es) [] pos) (TEx ρ R3 fun P => w1 fun x => f x P) :=
  pe_imp (pe_callB hc hg hm hv ha hn hdb he hpl) (tx_cb hr)
theorem pr_cty {e : Expr} {es : List Expr} {x : Str} {p : Pos} {T : String} {r : List V → Hp → VK → Prop} {F : Fs K α} {f : α → W γ} (hc : CallR X (.type T) r) (hr : RCOk r F R3 f) (hm : X.mg x = none) (hv : bootBuiltins x = some (.type T)) (ha : PA X (e :: es) (TAx ρ F w1))
    (hg : Gl X x := by rfl) (hn : x ≠ "__name__" := by decide) (hdb : (x == ("__debug__" : Str)) = false := by decide)
    (he : starEach (e :: es) X.env = (false, eval e X.env) :: starEach es X.env := by rfl) (hpl : (backTo pos (starEach es X.env)).any (·.1) = false := by rfl) : PE X (.Call (.Name x p) (e :: es) [] pos) (TEx ρ R3 fun P => w1 fun x => f x P) :=
  pe_imp (pe_callTy hc hg hm hv ha hn hdb he hpl) (tx_cb hr)
/-- .. that make a new list -/
theorem EnvOk.freshIn {σ : L2.St} {G H G1 H1 : Hp} (st : Step (padr ρ) G H G1 H1) (e1 : EnvOk ρ G1 H1 σ) {p : Addr} (hp : H1 p = none) : H p = none := by
  cases q : H p with
  | none => rfl
  | some o =>
    by_cases z : p ∈ padr ρ
    · obtain ⟨u, e, _⟩ := e1.there (padr_sub z); rw [hp] at e; cases e
    · rw [st.keep _ _ q z] at hp; cases hp
theorem tx_cbL {r : List V → Hp → VK → Prop} {F : Fs K α} {f : α → W (List γ)} (hr : RCL r F R3 f) (σ : L2.St) (H : Hp) (Q : VK) (h : TEL ρ R3 (fun P => w1 fun x => f x P) σ H Q) : tCB r (TAx ρ F w1) σ H Q := by
  obtain ⟨G, P, s, e, h, c⟩ := h
  exact ⟨G, _, s, e, h, fun G1 H1 vs x st1 e1 p1 r1 => hr G1 H1 vs x P Q st1.gh r1 p1 fun H3 p us ys st3 pz np hp rz hz =>
    c G1 H3 p us ys (st1.trans st3.of0) (e1.step0 st3) pz (EnvOk.freshIn st1 e1 np) (st1.gh.free np) hp rz hz⟩
theorem pr_ctyL {e : Expr} {es : List Expr} {x : Str} {p : Pos} {T : String} {r : List V → Hp → VK → Prop} {F : Fs K α} {f : α → W (List γ)} (hc : CallR X (.type T) r) (hr : RCL r F R3 f) (hm : X.mg x = none) (hv : bootBuiltins x = some (.type T)) (ha : PA X (e :: es) (TAx ρ F w1))
    (hg : Gl X x := by rfl) (hn : x ≠ "__name__" := by decide) (hdb : (x == ("__debug__" : Str)) = false := by decide)
    (he : starEach (e :: es) X.env = (false, eval e X.env) :: starEach es X.env := by rfl) (hpl : (backTo pos (starEach es X.env)).any (·.1) = false := by rfl) : PE X (.Call (.Name x p) (e :: es) [] pos) (TEL ρ R3 fun P => w1 fun x => f x P) :=
  pe_imp (pe_callTy hc hg hm hv ha hn hdb he hpl) (tx_cbL hr)
end
end SS

set_option Elab.async false
set_option linter.all false
set_option maxRecDepth 100000
/-! SSC: own rules: what is walked, comprehensions, statements, loops, calls, the def. Own work. -/
namespace SS
open PySem PySem.Spec L2

/-! ### what a loop walks -/
structure Walks {K : PySem.W.Frag} {α : Type} (J : It) (G : Hp) (R : Rp K α) (xs : List α) : Prop where
  len : xs.length ≤ sizeLine
  go : ∀ (i : Nat) (H : Hp), Same G H → i < xs.length → J.go i H
  yld : ∀ (i : Nat) (G0 H : Hp) (v : V) (H' : Hp) (x : α), Same G G0 → Same G0 H → xs[i]? = some x → J.yld i H v H' → ∃ G1, Step [] G0 H G1 H' ∧ R.ok G1 v x
  stop : ∀ (H : Hp), Same G H → J.stop xs.length H
section
variable {K : PySem.W.Frag} {α : Type}
def TIx (ρ : List (En K)) (R : Rp K α) (w : W (List α)) : TI := fun σ H Rr => ∃ (G : Hp) (P : List α → Prop), Same G H ∧ EnvOk ρ G H σ ∧ w P ∧
  ∀ G' H' J xs, Step (padr ρ) G H G' H' → EnvOk ρ G' H' σ → P xs → Walks J G' R xs → Rr J H'
/-- a target: is are its slots -/
def TGx (ρ : List (En K)) (R : Rp K α) (ext : α → List (En K)) (is : List Nat) : TG := fun v σ H Q => ∃ (G : Hp) (a : α), Same G H ∧ EnvOk ρ G H σ ∧ R.ok G v a ∧
  ∀ σ', EnvOk (ext a) G H σ' → σ'.length = σ.length → (∀ j, j ∉ is → σ'[j]? = σ[j]?) → Q σ' H
def rng (lo : Int) (n : Nat) : List Int := (List.range n).map fun (i : Nat) => lo + (i : Int)
theorem szl : (sizeLine : Nat) = 16777216 := by rw [sizeLine_eq]
theorem mem1 {a b : Addr} (h : a ∈ [b]) : a = b := List.mem_singleton.mp h
theorem rng_len (lo : Int) (n : Nat) : (rng lo n).length = n := by unfold rng; simp
theorem rng_get {lo : Int} {n i : Nat} {x : Int} (h : (rng lo n)[i]? = some x) : i < n ∧ x = lo + (i : Int) := by
  unfold rng at h
  rw [List.getElem?_map] at h
  cases q : (List.range n)[i]? with
  | none => rw [q] at h; cases h
  | some j =>
    rw [q] at h
    obtain ⟨h1, h2⟩ := List.getElem?_eq_some_iff.mp q
    simp at h1 h2
    have : lo + (j : Int) = x := by simpa using h
    subst h2
    exact ⟨h1, this.symm⟩
theorem walks_list {G : Hp} {R : Rp K α} {a : Addr} {vs : List V} {xs : List α} (h : SqL K G a vs) (p : Paired (R.ok G) vs xs) (hz : vs.length ≤ sizeLine) : Walks (Itl K a) G R xs where
  len := by rw [← paired_len p]; exact hz
  go := fun i H s hi => by
    have hi' : i < vs.length := by rw [paired_len p]; exact hi
    exact ⟨vs, vs[i], Same.seq s h, List.getElem?_eq_getElem hi'⟩
  yld := fun i G0 H v H' x s0 s hx hy => by
    obtain ⟨e, hy⟩ := hy
    subst e
    obtain ⟨u, hu, ru⟩ := paired_get p hx
    have z := hy vs (Same.seq (s0.trans s) h)
    rw [hu] at z
    have z' : u = v := by simpa using z
    subst z'
    exact ⟨G0, Step.refl s, R.mono s0 ru⟩
  stop := fun H s => ⟨vs, Same.seq s h, by rw [paired_len p]; exact Nat.le_refl _⟩
theorem walks_tup {G : Hp} {R : Rp K α} {a : Addr} {vs : List V} {xs : List α} (h : SqT K G a vs) (p : Paired (R.ok G) vs xs) (hz : vs.length ≤ sizeLine) : Walks (Itt K a) G R xs where
  len := by rw [← paired_len p]; exact hz
  go := fun i H s hi => by
    have hi' : i < vs.length := by rw [paired_len p]; exact hi
    exact ⟨vs, vs[i], same_t s h, List.getElem?_eq_getElem hi'⟩
  yld := fun i G0 H v H' x s0 s hx hy => by
    obtain ⟨e, hy⟩ := hy
    subst e
    obtain ⟨u, hu, ru⟩ := paired_get p hx
    have z := hy vs (same_t (s0.trans s) h)
    rw [hu] at z
    have z' : u = v := by simpa using z
    subst z'
    exact ⟨G0, Step.refl s, R.mono s0 ru⟩
  stop := fun H s => ⟨vs, same_t s h, by rw [paired_len p]; exact Nat.le_refl _⟩
theorem walks_rng {G : Hp} (lo : Int) (n : Nat) (hn : n ≤ sizeLine) : Walks (Itr lo n) G (rI : Rp K Int) (rng lo n) where
  len := by rw [rng_len]; exact hn
  go := fun i H s hi => by rw [rng_len] at hi; exact hi
  yld := fun i G0 H v H' x s0 s hx hy => by
    obtain ⟨e, hy⟩ := hy
    subst e hy
    exact ⟨G0, Step.refl s, by rw [(rng_get hx).2]; rfl⟩
  stop := fun H s => by show n ≤ _; rw [rng_len]; exact Nat.le_refl _
end
section
variable {X : Cx} {K : PySem.W.Frag} [HK X K] {α β γ : Type} {ρ : List (En K)} {R : Rp K α} {tg e : Expr} {pos : Pos}
theorem pi_listX {w : W (List α)} (h : PE X e (TEx ρ (rL R) w)) : PI X tg e (TIx ρ R w) := by
  have hK : X.K = K := HK.eq
  subst hK
  exact pi_imp (pi_list h) fun σ H Q ⟨G, P, s, ev, p, c⟩ => ⟨G, P, s, ev, p, fun G1 H1 v xs st1 e1 p1 ⟨a, vs, h1, h2, h3, h4⟩ => ⟨a, h1, ⟨vs, Same.seq st1.gh h2⟩, c G1 H1 _ xs st1 e1 p1 (walks_list h2 h3 h4)⟩⟩
theorem pi_tupX {w : W (List α)} (h : PE X e (TEx ρ (rU R) w)) : PI X tg e (TIx ρ R w) := by
  have hK : X.K = K := HK.eq
  subst hK
  exact pi_imp (pi_tup h) fun σ H Q ⟨G, P, s, ev, p, c⟩ => ⟨G, P, s, ev, p, fun G1 H1 v xs st1 e1 p1 ⟨a, vs, h1, h2, h3, h4⟩ => ⟨a, h1, ⟨vs, same_t st1.gh h2⟩, c G1 H1 _ xs st1 e1 p1 (walks_tup h2 h3 h4)⟩⟩
theorem pi_rng1X {a : Expr} {p : Pos} {w : W Int} (hm : X.mg "range" = none) (ha : PA X [a] (TAx ρ (fs1 rI) w)) (hg : Gl X "range" := by rfl) (hs : starEach [a] X.env = [(false, eval a X.env)] := by rfl) :
    PI X tg (.Call (.Name "range" p) [a] [] pos) (TIx ρ rI fun P => w fun j => (j < 1000000 ∧ -1000000 < j) ∧ P (rng 0 j.toNat)) :=
  pi_imp (pi_range1 hg hm ha hs) fun σ H Q ⟨G, P, s, ev, p, c⟩ => ⟨G, _, s, ev, p, fun G1 H1 vs j st1 e1 p1 ⟨v, h1, h2⟩ => by
    subst h1
    have h2' : v = V.int j := h2
    subst h2'
    obtain ⟨⟨b1, b2⟩, p1⟩ := p1
    exact ⟨j, rfl, by omega, by omega, c G1 H1 _ _ st1 e1 p1 (walks_rng _ _ (by have := szl; omega))⟩⟩
theorem pi_rng2X {a b : Expr} {p : Pos} {w : W (Int × Int)} (hm : X.mg "range" = none) (ha : PA X [a, b] (TAx ρ (fsC rI (fs1 rI)) w)) (hg : Gl X "range" := by rfl) (hs : starEach [a, b] X.env = [(false, eval a X.env), (false, eval b X.env)] := by rfl) (hs2 : starEach [b] X.env = [(false, eval b X.env)] := by rfl) :
    PI X tg (.Call (.Name "range" p) [a, b] [] pos) (TIx ρ rI fun P => w fun j => (j.1 < 1000000 ∧ -1000000 < j.1 ∧ j.2 < 1000000 ∧ -1000000 < j.2) ∧ P (rng j.1 (j.2 - j.1).toNat)) :=
  pi_imp (pi_range2 hg hm ha hs hs2) fun σ H Q ⟨G, P, s, ev, p, c⟩ => ⟨G, _, s, ev, p, fun G1 H1 vs j st1 e1 p1 ⟨v, r, h1, h2, ⟨u, h3, h4⟩⟩ => by
    obtain ⟨i, j⟩ := j
    subst h3
    subst h1
    have h2' : v = V.int i := h2
    have h4' : u = V.int j := h4
    subst h2' h4'
    obtain ⟨⟨b1, b2, b3, b4⟩, p1⟩ := p1
    dsimp only at b1 b2 b3 b4
    exact ⟨i, j, rfl, ⟨by omega, by omega, by omega, by omega⟩, c G1 H1 _ _ st1 e1 p1 (walks_rng _ _ (by have := szl; omega))⟩⟩
/-- range(i, j, -1) -/
def rngD (i : Int) (n : Nat) : List Int := (List.range n).map fun (k : Nat) => i - (k : Int)
theorem rngD_len (i : Int) (n : Nat) : (rngD i n).length = n := by unfold rngD; simp
theorem rngD_get {lo : Int} {n i : Nat} {x : Int} (h : (rngD lo n)[i]? = some x) : i < n ∧ x = lo - (i : Int) := by
  unfold rngD at h
  rw [List.getElem?_map] at h
  cases q : (List.range n)[i]? with
  | none => rw [q] at h; cases h
  | some j =>
    rw [q] at h
    obtain ⟨h1, h2⟩ := List.getElem?_eq_some_iff.mp q
    simp at h1 h2
    have : lo - (j : Int) = x := by simpa using h
    subst h2
    exact ⟨h1, this.symm⟩
theorem walks_rngD {K : PySem.W.Frag} {G : Hp} (lo : Int) (n : Nat) (hn : n ≤ sizeLine) : Walks (Itc lo (-1) n) G (rI : Rp K Int) (rngD lo n) where
  len := by rw [rngD_len]; exact hn
  go := fun i H s hi => by rw [rngD_len] at hi; exact hi
  yld := fun i G0 H v H' x s0 s hx hy => by
    obtain ⟨e, hy⟩ := hy
    subst e hy
    refine ⟨G0, Step.refl s, ?_⟩
    rw [(rngD_get hx).2]
    show V.int _ = V.int _
    congr 1
    omega
  stop := fun H s => by show n ≤ _; rw [rngD_len]; exact Nat.le_refl _
theorem pi_rngDX {a b c : Expr} {p : Pos} {w : W (Int × Int × Int)} (hm : X.mg "range" = none) (ha : PA X [a, b, c] (TAx ρ (fsC rI (fsC rI (fs1 rI))) w)) (hg : Gl X "range" := by rfl) (hs : starEach [a, b, c] X.env = (false, eval a X.env) :: starEach [b, c] X.env := by rfl) (hpl : (backTo pos (starEach [b, c] X.env)).any (·.1) = false := by rfl) :
    PI X tg (.Call (.Name "range" p) [a, b, c] [] pos) (TIx ρ rI fun P => w fun j => (j.1 < 1000000 ∧ -1000000 < j.1 ∧ j.2.1 < 1000000 ∧ -1000000 < j.2.1 ∧ j.2.2 = -1) ∧ P (rngD j.1 (j.1 - j.2.1).toNat)) :=
  pi_imp (pi_range3 hg hm ha hs hpl) fun σ H Q ⟨G, P, s, ev, p, ct⟩ => ⟨G, _, s, ev, p, fun G1 H1 vs j st1 e1 p1 ⟨v, r, h1, h2, ⟨v2, r2, h3, h4, ⟨u, h5, h6⟩⟩⟩ => by
    obtain ⟨i, j, k⟩ := j
    subst h5
    subst h3
    subst h1
    have h2' : v = V.int i := h2
    have h4' : v2 = V.int j := h4
    have h6' : u = V.int k := h6
    subst h2' h4' h6'
    obtain ⟨⟨b1, b2, b3, b4, b5⟩, p1⟩ := p1
    dsimp only at b1 b2 b3 b4 b5
    subst b5
    exact ⟨i, j, -1, (i - j).toNat, rfl, RgC.neg (by omega) (by omega) (by omega) (by omega), ct G1 H1 _ _ st1 e1 p1 (walks_rngD _ _ (by have := szl; omega))⟩⟩
/-- the signs of a text -/
def signs (z : Str) : List Str := z.cps.toList.map fun c => ⟨#[c]⟩
theorem walks_str {K : PySem.W.Frag} {G : Hp} (z : Str) (hz : z.cps.size ≤ sizeLine) : Walks (Its z) G (rS : Rp K Str) (signs z) where
  len := by unfold signs; simpa using hz
  go := fun i H s hi => by
    show i < z.cps.size
    unfold signs at hi
    simpa using hi
  yld := fun i G0 H v H' x s0 s hx hy => by
    obtain ⟨e, c, hc, hv⟩ := hy
    subst e hv
    refine ⟨G0, Step.refl s, ?_⟩
    unfold signs at hx
    rw [List.getElem?_map, Array.getElem?_toList, hc] at hx
    have : (⟨#[c]⟩ : Str) = x := by simpa using hx
    rw [← this]
    rfl
  stop := fun H s => by show z.cps.size ≤ _; unfold signs; simp
theorem pi_strX {w : W Str} (h : PE X e (TEx ρ rS w)) : PI X tg e (TIx ρ rS fun P => w fun z => z.cps.size ≤ sizeLine ∧ P (signs z)) :=
  pi_imp (pi_str h) fun σ H Q ⟨G, P, s, ev, p, c⟩ => ⟨G, _, s, ev, p, fun G1 H1 v z st1 e1 p1 r1 => ⟨z, r1, c G1 H1 _ _ st1 e1 p1.2 (walks_str z p1.1)⟩⟩
/-- targets -/
theorem pg_nameX {i : Nat} {nm : Str} (h : PG X (.Name nm pos) (gName i)) (hp : (ρ.getD i .off).pl = [] := by rfl) : PG X (.Name nm pos) (TGx ρ R (fun a => ρ.set i (.fr R a)) [i]) :=
  pg_imp h fun v σ H Q ⟨G, a, s, ev, r, c⟩ => c _ (ev.putFr r) (by simp) fun j hj => by
    have : i ≠ j := fun z => hj (by simp [z])
    exact List.getElem?_set_ne this
def TGsx (ρ : List (En K)) (F : Fs K α) (ext : α → List (En K)) (is : List Nat) : TGs := fun vs σ H Q => ∃ (G : Hp) (a : α), Same G H ∧ EnvOk ρ G H σ ∧ F.ok G vs a ∧
  ∀ σ', EnvOk (ext a) G H σ' → σ'.length = σ.length → (∀ j, j ∉ is → σ'[j]? = σ[j]?) → Q σ' H
theorem pgs_oneX {i : Nat} {nm : Str} (h : PG X (.Name nm pos) (gName i)) (hs : (assignEach [(.Name nm pos)] X.env).map (·.2) = assign (.Name nm pos) X.env :: (assignEach [] X.env).map (·.2) := by rfl) :
    PGs X [.Name nm pos] (TGsx ρ (fs1 R) (fun a => ρ.set i (.fr R a)) [i]) :=
  ⟨fun pins s σ H vs us Q I r ⟨G, a, sm, ev, ⟨v, h1, h2⟩, c⟩ => (pgs_cons h pgs_nil hs).run pins s σ H vs us Q I r ⟨v, [], h1, rfl, c _ (ev.putFr h2) (by simp) fun j hj => by
    have : i ≠ j := fun z => hj (by simp [z])
    exact List.getElem?_set_ne this⟩⟩
theorem pgs_consX {i : Nat} {nm : Str} {es : List Expr} {F : Fs K β} {ext : α → β → List (En K)} {is : List Nat} (h : PG X (.Name nm pos) (gName i)) (ht : ∀ a, PGs X es (TGsx (ρ.set i (.fr R a)) F (ext a) is))
    (hs : (assignEach ((.Name nm pos) :: es) X.env).map (·.2) = assign (.Name nm pos) X.env :: (assignEach es X.env).map (·.2) := by rfl) : PGs X (.Name nm pos :: es) (TGsx ρ (fsC R F) (fun a => ext a.1 a.2) (i :: is)) := by
  have ht' : PGs X es (fun vs σ H Q => ∃ a, TGsx (ρ.set i (.fr R a)) F (ext a) is vs σ H Q) := ⟨fun pins s σ H vs us Q I r ⟨a, q⟩ => (ht a).run pins s σ H vs us Q I r q⟩
  refine ⟨fun pins s σ H vs us Q I r ⟨G, a, sm, ev, ⟨v, vr, h1, h2, h3⟩, c⟩ => (pgs_cons h ht' hs).run pins s σ H vs us Q I r ⟨v, vr, h1, a.1, G, a.2, sm, ev.putFr h2, h3, fun σ' e' hl hj => c σ' e' (by simpa using hl) fun j hj' => ?_⟩⟩
  have h1 : i ≠ j := fun z => hj' (by simp [z])
  have h2 : j ∉ is := fun z => hj' (List.mem_cons_of_mem _ z)
  rw [hj j h2, List.getElem?_set_ne h1]
theorem pg_tupX {es : List Expr} {k : Nat} {F : Fs K α} {ext : α → List (En K)} {is : List Nat} (h : PGs X es (TGsx ρ F ext is)) (hc : X.calm = true := by rfl) (hn : (assignEach es X.env).length = F.n := by rfl) (hst : (assignEach es X.env).findIdx? (·.1) = none := by rfl) :
    PG X (.Tuple es k pos) (TGx ρ (rT F) ext is) := by
  have hK : X.K = K := HK.eq
  subst hK
  exact pg_imp (pg_tup hc h hn hst) fun v σ H Q ⟨G, a, s, ev, ⟨b, vs, h1, h2, h3⟩, c⟩ => ⟨b, vs, h1, same_t s h2, F.len h3, G, a, s, ev, h3, c⟩
/-- a target seen under another representation -/
theorem pg_to {R' : Rp K β} {g : β → α} {ext : α → List (En K)} {is : List Nat} (h : PG X tg (TGx ρ R ext is)) (k : ∀ G v x, R'.ok G v x → R.ok G v (g x)) : PG X tg (TGx ρ R' (fun x => ext (g x)) is) :=
  pg_imp h fun v σ H Q ⟨G, a, s, ev, r, c⟩ => ⟨G, g a, s, ev, k _ _ _ r, c⟩
end

/-! ### comprehensions -/
def wipeE {K : PySem.W.Frag} (ρ : List (En K)) : List Nat → List (En K)
  | [] => ρ
  | v :: vs => (wipeE ρ vs).set v .off
theorem EnvOk.off {K : PySem.W.Frag} {ρ : List (En K)} {G H : Hp} {σ : L2.St} (h : EnvOk ρ G H σ) (i : Nat) : EnvOk (ρ.set i .off) G H (σ.set i none) := by
  refine ⟨by rw [List.length_set, List.length_set, h.len], fun j e hj => ?_, (nodup_fr h.nd rfl).1⟩
  by_cases hij : i = j
  · subst hij
    have hl : i < ρ.length := by
      rcases Nat.lt_or_ge i ρ.length with z | z
      · exact z
      · rw [List.set_eq_of_length_le z, List.getElem?_eq_none z] at hj; cases hj
    rw [List.getElem?_set_self hl] at hj
    cases hj
    exact ⟨none, by rw [List.getElem?_set_self (by rw [h.len]; exact hl)], trivial⟩
  · rw [List.getElem?_set_ne hij] at hj ⊢
    exact h.ok j e hj
theorem EnvOk.wipe {K : PySem.W.Frag} {ρ : List (En K)} {G H : Hp} {σ : L2.St} (h : EnvOk ρ G H σ) : ∀ vs : List Nat, EnvOk (wipeE ρ vs) G H (L2.wipe σ vs)
  | [] => h
  | v :: vs => (EnvOk.wipe h vs).off v
theorem adrs_off {K : PySem.W.Frag} {ρ : List (En K)} {i : Nat} : ∀ a ∈ adrs (ρ.set i .off), a ∈ adrs ρ := fun a h => (adrs_set h).elim id fun z => nomatch z
theorem adrs_wipe {K : PySem.W.Frag} {ρ : List (En K)} : ∀ (vs : List Nat), ∀ a ∈ adrs (wipeE ρ vs), a ∈ adrs ρ
  | [], a, h => h
  | v :: vs, a, h => adrs_wipe vs a (adrs_off a h)
theorem wipe_get (σ : L2.St) (j : Nat) : ∀ vs : List Nat, (L2.wipe σ vs)[j]? = if j ∈ vs then σ[j]?.map (fun _ => none) else σ[j]?
  | [] => by simp [L2.wipe]
  | v :: vs => by
    unfold L2.wipe
    by_cases e : v = j
    · subst e
      rw [if_pos (by simp)]
      by_cases hl : v < σ.length
      · rw [List.getElem?_set_self (by rw [wipe_length]; exact hl), List.getElem?_eq_getElem hl]; rfl
      · rw [List.getElem?_eq_none (by rw [List.length_set, wipe_length]; omega), List.getElem?_eq_none (by omega)]; rfl
    · rw [List.getElem?_set_ne e, wipe_get σ j vs]
      have : (j ∈ v :: vs) ↔ j ∈ vs := by simp [Ne.symm e]
      simp only [this]
theorem wipe_same {σ σ' : L2.St} {vs is : List Nat} (hl : σ'.length = σ.length) (h : ∀ j, j ∉ is → σ'[j]? = (L2.wipe σ vs)[j]?) (hs : ∀ j ∈ is, j ∈ vs) : L2.wipe σ' vs = L2.wipe σ vs := by
  apply List.ext_getElem?
  intro j
  rw [wipe_get, wipe_get]
  by_cases hj : j ∈ vs
  · rw [if_pos hj, if_pos hj]
    by_cases hb : j < σ.length
    · rw [List.getElem?_eq_getElem hb, List.getElem?_eq_getElem (by omega)]; rfl
    · rw [List.getElem?_eq_none (by omega), List.getElem?_eq_none (by omega)]
  · rw [if_neg hj, if_neg hj, h j (fun z => hj (hs j z)), wipe_get, if_neg hj]
/-- the list that a comprehension makes -/
def lcW {α β : Type} : List α → (α → W Bool) → (α → W β) → W (List β)
  | [], _, _ => fun P => P []
  | x :: xs, t, e => fun P => t x fun b => if b = true then e x fun y => lcW xs t e fun ys => P (y :: ys) else lcW xs t e P
def yesW {α : Type} : α → W Bool := fun _ P => P true
section
variable {X : Cx} {K : PySem.W.Frag} [HK X K] {α β : Type} {ρ : List (En K)} {Ra : Rp K α} {R : Rp K β} {tg iter elt : Expr} {ifs : List Expr} {scope : Scope} {own : List (Str × Nat)} {pos : Pos} {wi : W (List α)} {ext : α → List (En K)} {is : List Nat} {t : α → W Bool} {f : α → W β}
theorem tx_lc (hsub : ∀ j ∈ is, j ∈ own.map (·.2)) (hpl : ∀ x, pls (ext x) = pls ρ) (hpw : pls (wipeE ρ (own.map (·.2))) = pls ρ) (σ : L2.St) (H : Hp) (Q : VK)
    (h : TEL ρ R (fun P => wi fun xs => lcW xs t f P) σ H Q) : tLc (TIx ρ Ra wi) (TGx (wipeE ρ (own.map (·.2))) Ra ext is) (ttf fun x => TTx (ext x) (t x)) (tef fun x => TEx (ext x) R (f x)) (own.map (·.2)) σ H Q := by
  obtain ⟨G, P, s, ev, p, c⟩ := h
  refine ⟨G, _, s, ev, p, fun G1 H1 J xs st1 e1 p1 wk D hD => ?_⟩
  have pe : ∀ x, padr (ext x) = padr ρ := fun x => by unfold padr; rw [hpl]
  have hD0 : H D = none := EnvOk.freshIn st1 e1 hD
  have hDr : D ∉ adrs ρ := e1.fresh hD
  -- the word: what is still to be made
  refine ⟨fun i m H' => m = xs.length - i ∧ i ≤ xs.length ∧ ∃ (G' : Hp) (us : List V) (ys : List β), Step (padr ρ) G1 H1 G' H' ∧ EnvOk ρ G' H' σ ∧ G' D = none ∧ H' D = some (.lst us) ∧ Paired (R.ok G') us ys ∧ us.length ≤ i ∧
    lcW (xs.drop i) t f (fun zs => P (ys ++ zs)), ⟨xs.length, by simp, Nat.zero_le _, G1, [], [], ?_, ?_, st1.gh.free hD, upd_same, .nil, Nat.le_refl _, p1⟩, ?_⟩
  · exact Step.lay st1.gh hD
  · exact e1.step0 (Step.lay st1.gh hD)
  rintro i m H' ⟨rfl, hi, G', us, ys, st, ev', gD, hDl, pr, hlen, wl⟩
  by_cases hlt : i < xs.length
  · refine .inr ⟨wk.go i H' (st.gg.trans st.gh) hlt, fun H'' => i + 1 ≤ xs.length ∧ ∃ (G'' : Hp) (us : List V) (ys : List β), Step (padr ρ) G1 H1 G'' H'' ∧ EnvOk ρ G'' H'' σ ∧ G'' D = none ∧ H'' D = some (.lst us) ∧ Paired (R.ok G'') us ys ∧ us.length ≤ i + 1 ∧
      lcW (xs.drop (i + 1)) t f (fun zs => P (ys ++ zs)), fun H'' ⟨q1, q2⟩ => ⟨xs.length - (i + 1), by omega, rfl, q1, q2⟩, fun v H2 hy => ?_⟩
    have hx : xs[i]? = some xs[i] := List.getElem?_eq_getElem hlt
    obtain ⟨G2, sy, rv⟩ := wk.yld i G' H' v H2 _ st.gg st.gh hx hy
    rw [List.drop_eq_getElem_cons hlt] at wl
    have ev2 := ev'.step0 sy
    have gD2 : G2 D = none := sy.old D _ hDl gD (by simp)
    have hD2 : H2 D = some (.lst us) := sy.keep D _ hDl (by simp)
    have stt : Step (padr ρ) G1 H1 G2 H2 := st.trans sy.of0
    refine ⟨G2, xs[i], sy.gh, ev2.wipe _, rv, fun σ2 e2 hl2 hj2 => ⟨wipe_same (by rw [hl2, wipe_length]) hj2 hsub, ?_⟩⟩
    refine ⟨xs[i], G2, _, sy.gh, e2, wl, fun G3 H3 b st3 e3 p3 => ?_⟩
    rw [pe] at st3
    have hDp : D ∉ padr ρ := fun z => hDr (padr_sub z)
    have gD3 : G3 D = none := st3.old D _ hD2 gD2 hDp
    have hD3 : H3 D = some (.lst us) := st3.keep D _ hD2 hDp
    have envb : ∀ {Ga Ha : Hp}, Step (padr ρ) G2 H2 Ga Ha → EnvOk (ext xs[i]) Ga Ha σ2 → EnvOk ρ Ga Ha σ := fun {Ga Ha} sa ea => by
      have pools : Pools ρ Ga Ha := fun q hq => ea.pools q (by rw [hpl]; exact hq)
      refine ⟨ev2.len, fun j e hj => ?_, ev2.nd⟩
      obtain ⟨o, ho, q⟩ := ev2.ok j e hj
      refine ⟨o, ho, ?_⟩
      cases e with
      | pool pp gg => exact ⟨q.1, pools (pp, gg) (pls_mem hj (by simp [En.pl]))⟩
      | off => trivial
      | fr Rr x => exact En.step (e := .fr Rr x) q sa fun a ha => nomatch ha
      | own a Rr x =>
        refine En.step (e := .own a Rr x) q sa fun a' ha z => ?_
        obtain ⟨q', hq1, hq2⟩ := List.mem_flatMap.mp z
        obtain ⟨j', hj'⟩ := pls_of hq1
        exact own_ne_pool ev2.nd hj hj' ha (by simpa [En.adr] using hq2)
      | obj a Cc x =>
        refine En.step (e := .obj a Cc x) q sa fun a' ha z => ?_
        obtain ⟨q', hq1, hq2⟩ := List.mem_flatMap.mp z
        obtain ⟨j', hj'⟩ := pls_of hq1
        exact own_ne_pool ev2.nd hj hj' ha (by simpa [En.adr] using hq2)
    cases b with
    | false =>
      refine ⟨hlt, G3, us, ys, stt.trans st3, envb st3 e3, gD3, hD3, paired_mono (fun _ _ z => R.mono (sy.gg.trans st3.gg) z) pr, by omega, ?_⟩
      exact p3
    | true =>
      refine ⟨xs[i], G3, _, st3.gh, e3, p3, fun G4 H4 y b st4 e4 p4 r4 => ?_⟩
      rw [pe] at st4
      have gD4 : G4 D = none := st4.old D _ hD3 gD3 hDp
      have hD4 : H4 D = some (.lst us) := st4.keep D _ hD3 hDp
      have s34 := st3.trans st4
      have zl := wk.len
      refine ⟨us, hD4, by omega, hlt, G4, us ++ [y], ys ++ [b], ?_, ?_, gD4, upd_same, paired_app (paired_mono (fun _ _ z => R.mono (sy.gg.trans s34.gg) z) pr) (.cons r4 .nil), by simp; omega, ?_⟩
      · exact (stt.trans s34).cut (Step.put (M := [D]) st4.gh (by simp) gD4) fun a ha => .inr (by rw [mem1 ha]; exact hD)
      · exact (envb s34 e4).step (Step.put (M := [D]) st4.gh (by simp) gD4) fun a ha z => hDr (by rw [← mem1 z]; exact ha)
      · have eq : (fun zs => P (ys ++ [b] ++ zs)) = fun zs => P (ys ++ b :: zs) := by funext zs; rw [List.append_assoc]; rfl
        rw [eq]
        exact p4
  · have hi' : i = xs.length := by omega
    subst hi'
    refine .inl ⟨wk.stop H' (st.gg.trans st.gh), ?_⟩
    rw [List.drop_length] at wl
    have wl' : P (ys ++ []) := wl
    rw [List.append_nil] at wl'
    exact c G' H' D us ys (st1.trans st) ev' wl' hD0 gD hDl pr (by have := wk.len; omega)
end

/-- two clauses -/
def lc2W {α β γ : Type} : List α → List β → (α → W Bool) → (α → W (List γ)) → (α → γ → W Bool) → (α → γ → W β) → W (List β)
  | [], acc, _, _, _, _ => fun P => P acc
  | x :: xs, acc, t, wi1, t1, f => fun P => t x fun b => if b = true then wi1 x fun ys => acc.length + ys.length ≤ sizeLine ∧ lcW ys (t1 x) (f x) fun zs => lc2W xs (acc ++ zs) t wi1 t1 f P else lc2W xs acc t wi1 t1 f P
/-- what a block leaves of the outer environment -/
theorem env_back {K : PySem.W.Frag} {ρ ρ' : List (En K)} {σ σ' : L2.St} {G H Ga Ha : Hp} (ev : EnvOk ρ G H σ) (sa : Step (padr ρ) G H Ga Ha) (ea : EnvOk ρ' Ga Ha σ') (hpl : pls ρ' = pls ρ) : EnvOk ρ Ga Ha σ := by
  have pools : Pools ρ Ga Ha := fun q hq => ea.pools q (by rw [hpl]; exact hq)
  refine ⟨ev.len, fun j e hj => ?_, ev.nd⟩
  obtain ⟨o, ho, q⟩ := ev.ok j e hj
  refine ⟨o, ho, ?_⟩
  cases e with
  | pool pp gg => exact ⟨q.1, pools (pp, gg) (pls_mem hj (by simp [En.pl]))⟩
  | off => trivial
  | fr Rr x => exact En.step (e := .fr Rr x) q sa fun a ha => nomatch ha
  | own a Rr x =>
    refine En.step (e := .own a Rr x) q sa fun a' ha z => ?_
    obtain ⟨q', hq1, hq2⟩ := List.mem_flatMap.mp z
    obtain ⟨j', hj'⟩ := pls_of hq1
    exact own_ne_pool ev.nd hj hj' ha (by simpa [En.adr] using hq2)
  | obj a Cc x =>
    refine En.step (e := .obj a Cc x) q sa fun a' ha z => ?_
    obtain ⟨q', hq1, hq2⟩ := List.mem_flatMap.mp z
    obtain ⟨j', hj'⟩ := pls_of hq1
    exact own_ne_pool ev.nd hj hj' ha (by simpa [En.adr] using hq2)
section
variable {X : Cx} {K : PySem.W.Frag} [HK X K] {α β γ : Type} {ρ : List (En K)} {Ra : Rp K α} {Rg : Rp K γ} {R : Rp K β} {own : List (Str × Nat)} {vs1 : List Nat} {wi : W (List α)} {wi1 : α → W (List γ)} {ext : α → List (En K)} {ext1 : α → γ → List (En K)} {is is1 : List Nat} {t : α → W Bool} {t1 : α → γ → W Bool} {f : α → γ → W β}
theorem tx_lc2 (hsub : ∀ j ∈ is, j ∈ own.map (·.2)) (hsub1 : ∀ j ∈ is1, j ∈ vs1) (hpl : ∀ x, pls (ext x) = pls ρ) (hpl1 : ∀ x y, pls (ext1 x y) = pls ρ) (hA : ∀ x, adrs (ext x) = adrs ρ) (σ : L2.St) (H : Hp) (Q : VK)
    (h : TEL ρ R (fun P => wi fun xs => lc2W xs [] t wi1 t1 f P) σ H Q) :
    tLc2 (TIx ρ Ra wi) (TGx (wipeE ρ (own.map (·.2))) Ra ext is) (ttf fun x => TTx (ext x) (t x)) (fun σ H Rr => ∃ x, TIx (ext x) Rg (wi1 x) σ H Rr) (tgf fun x => TGx (wipeE (ext x) vs1) Rg (ext1 x) is1)
      (ttf fun q : α × γ => TTx (ext1 q.1 q.2) (t1 q.1 q.2)) (tef fun q : α × γ => TEx (ext1 q.1 q.2) R (f q.1 q.2)) (own.map (·.2)) vs1 σ H Q := by
  obtain ⟨G, P, s, ev, p, c⟩ := h
  refine ⟨G, _, s, ev, p, fun G1 H1 J xs st1 e1 p1 wk D hD => ?_⟩
  have pe : ∀ x, padr (ext x) = padr ρ := fun x => by unfold padr; rw [hpl]
  have pe1 : ∀ x y, padr (ext1 x y) = padr ρ := fun x y => by unfold padr; rw [hpl1]
  have hD0 : H D = none := EnvOk.freshIn st1 e1 hD
  have hDr : D ∉ adrs ρ := e1.fresh hD
  have hDp : D ∉ padr ρ := fun z => hDr (padr_sub z)
  refine ⟨fun i m H' => m = xs.length - i ∧ i ≤ xs.length ∧ ∃ (G' : Hp) (us : List V) (ys : List β), Step (padr ρ) G1 H1 G' H' ∧ EnvOk ρ G' H' σ ∧ G' D = none ∧ H' D = some (.lst us) ∧ Paired (R.ok G') us ys ∧ us.length ≤ sizeLine ∧
    lc2W (xs.drop i) ys t wi1 t1 f P, ⟨xs.length, by simp, Nat.zero_le _, G1, [], [], ?_, ?_, st1.gh.free hD, upd_same, .nil, Nat.zero_le _, p1⟩, ?_⟩
  · exact Step.lay st1.gh hD
  · exact e1.step0 (Step.lay st1.gh hD)
  rintro i m H' ⟨rfl, hi, G', us, ys, st, ev', gD, hDl, pr, hlen, wl⟩
  by_cases hlt : i < xs.length
  · refine .inr ⟨wk.go i H' (st.gg.trans st.gh) hlt, fun H'' => i + 1 ≤ xs.length ∧ ∃ (G'' : Hp) (us : List V) (ys : List β), Step (padr ρ) G1 H1 G'' H'' ∧ EnvOk ρ G'' H'' σ ∧ G'' D = none ∧ H'' D = some (.lst us) ∧ Paired (R.ok G'') us ys ∧ us.length ≤ sizeLine ∧
      lc2W (xs.drop (i + 1)) ys t wi1 t1 f P, fun H'' ⟨q1, q2⟩ => ⟨xs.length - (i + 1), by omega, rfl, q1, q2⟩, fun v H2 hy => ?_⟩
    have hx : xs[i]? = some xs[i] := List.getElem?_eq_getElem hlt
    obtain ⟨G2, sy, rv⟩ := wk.yld i G' H' v H2 _ st.gg st.gh hx hy
    rw [List.drop_eq_getElem_cons hlt] at wl
    have ev2 := ev'.step0 sy
    have gD2 : G2 D = none := sy.old D _ hDl gD (by simp)
    have hD2 : H2 D = some (.lst us) := sy.keep D _ hDl (by simp)
    have stt : Step (padr ρ) G1 H1 G2 H2 := st.trans sy.of0
    refine ⟨G2, xs[i], sy.gh, ev2.wipe _, rv, fun σ2 e2 hl2 hj2 => ⟨wipe_same (by rw [hl2, wipe_length]) hj2 hsub, ?_⟩⟩
    refine ⟨xs[i], G2, _, sy.gh, e2, wl, fun G3 H3 b st3 e3 p3 => ?_⟩
    rw [pe] at st3
    have gD3 : G3 D = none := st3.old D _ hD2 gD2 hDp
    have hD3 : H3 D = some (.lst us) := st3.keep D _ hD2 hDp
    cases b with
    | false => exact ⟨hlt, G3, us, ys, stt.trans st3, env_back ev2 st3 e3 (hpl _), gD3, hD3, paired_mono (fun _ _ z => R.mono (sy.gg.trans st3.gg) z) pr, hlen, p3⟩
    | true =>
      refine ⟨xs[i], G3, _, st3.gh, e3, p3, fun G4 H4 J1 ws st4 e4 p4 wk1 => ?_⟩
      rw [pe] at st4
      have gD4 : G4 D = none := st4.old D _ hD3 gD3 hDp
      have hD4 : H4 D = some (.lst us) := st4.keep D _ hD3 hDp
      have s24 : Step (padr ρ) G2 H2 G4 H4 := st3.trans st4
      obtain ⟨hz4, p4⟩ := p4
      refine ⟨fun j k Hb => k = ws.length - j ∧ j ≤ ws.length ∧ ∃ (Gb : Hp) (ub : List V) (yb : List β), Step (D :: padr ρ) G4 H4 Gb Hb ∧ EnvOk (ext xs[i]) Gb Hb σ2 ∧ Gb D = none ∧ Hb D = some (.lst ub) ∧ Paired (R.ok Gb) ub yb ∧ ub.length ≤ ys.length + j ∧
        lcW (ws.drop j) (t1 xs[i]) (f xs[i]) (fun zs => lc2W (xs.drop (i + 1)) (yb ++ zs) t wi1 t1 f P), ⟨ws.length, by simp, Nat.zero_le _, G4, us, ys, Step.refl st4.gh, e4, gD4, hD4, paired_mono (fun _ _ z => R.mono (sy.gg.trans s24.gg) z) pr, by rw [paired_len pr]; exact Nat.le_refl _, p4⟩, ?_⟩
      rintro j k Hb ⟨rfl, hj, Gb, ub, yb, sb, eb, gDb, hDb, prb, hlb, wb⟩
      have back : ∀ {Gc Hc : Hp} {σc : L2.St} {ρc : List (En K)}, Step (D :: padr ρ) G2 H2 Gc Hc → EnvOk ρc Gc Hc σc → pls ρc = pls ρ → EnvOk ρ Gc Hc σ := fun {Gc Hc σc ρc} sc ec hc => by
        have pools : Pools ρ Gc Hc := fun q hq => ec.pools q (by rw [hc]; exact hq)
        refine ⟨ev2.len, fun j e hj => ?_, ev2.nd⟩
        obtain ⟨o, ho, q⟩ := ev2.ok j e hj
        refine ⟨o, ho, ?_⟩
        have nD : ∀ a ∈ e.adr, a ≠ D := fun a ha z => hDr (z ▸ adrs_mem hj ha)
        cases e with
        | pool pp gg => exact ⟨q.1, pools (pp, gg) (pls_mem hj (by simp [En.pl]))⟩
        | off => trivial
        | fr Rr x => exact En.step (e := .fr Rr x) q sc fun a ha => nomatch ha
        | own a Rr x =>
          refine En.step (e := .own a Rr x) q sc fun a' ha z => ?_
          rcases List.mem_cons.mp z with z | z
          · exact nD a' ha z
          · obtain ⟨q', hq1, hq2⟩ := List.mem_flatMap.mp z
            obtain ⟨j', hj'⟩ := pls_of hq1
            exact own_ne_pool ev2.nd hj hj' ha (by simpa [En.adr] using hq2)
        | obj a Cc x =>
          refine En.step (e := .obj a Cc x) q sc fun a' ha z => ?_
          rcases List.mem_cons.mp z with z | z
          · exact nD a' ha z
          · obtain ⟨q', hq1, hq2⟩ := List.mem_flatMap.mp z
            obtain ⟨j', hj'⟩ := pls_of hq1
            exact own_ne_pool ev2.nd hj hj' ha (by simpa [En.adr] using hq2)
      have wide : ∀ {Ga Ha Gc Hc : Hp}, Step (padr ρ) Ga Ha Gc Hc → Step (D :: padr ρ) Ga Ha Gc Hc := fun s => s.wide fun a h => List.mem_cons_of_mem _ h
      by_cases hltj : j < ws.length
      · refine .inr ⟨wk1.go j Hb (sb.gg.trans sb.gh) hltj, fun Hc => j + 1 ≤ ws.length ∧ ∃ (Gb : Hp) (ub : List V) (yb : List β), Step (D :: padr ρ) G4 H4 Gb Hc ∧ EnvOk (ext xs[i]) Gb Hc σ2 ∧ Gb D = none ∧ Hc D = some (.lst ub) ∧ Paired (R.ok Gb) ub yb ∧ ub.length ≤ ys.length + (j + 1) ∧
          lcW (ws.drop (j + 1)) (t1 xs[i]) (f xs[i]) (fun zs => lc2W (xs.drop (i + 1)) (yb ++ zs) t wi1 t1 f P), fun Hc ⟨q1, q2⟩ => ⟨ws.length - (j + 1), by omega, rfl, q1, q2⟩, fun v1 H5 hy1 => ?_⟩
        have hw : ws[j]? = some ws[j] := List.getElem?_eq_getElem hltj
        obtain ⟨G5, sy5, rv5⟩ := wk1.yld j Gb Hb v1 H5 _ sb.gg sb.gh hw hy1
        rw [List.drop_eq_getElem_cons hltj] at wb
        have eb5 := eb.step0 sy5
        have gD5 : G5 D = none := sy5.old D _ hDb gDb (by simp)
        have hD5 : H5 D = some (.lst ub) := sy5.keep D _ hDb (by simp)
        refine ⟨xs[i], G5, ws[j], sy5.gh, eb5.wipe _, rv5, fun σ3 e5 hl5 hj5 => ⟨wipe_same (by rw [hl5, wipe_length]) hj5 hsub1, ?_⟩⟩
        refine ⟨(xs[i], ws[j]), G5, _, sy5.gh, e5, wb, fun G6 H6 b1 st6 e6 p6 => ?_⟩
        rw [pe1] at st6
        have gD6 : G6 D = none := st6.old D _ hD5 gD5 hDp
        have hD6 : H6 D = some (.lst ub) := st6.keep D _ hD5 hDp
        have eback : ∀ {Gc Hc : Hp} {σc : L2.St}, Step (padr ρ) G5 H5 Gc Hc → EnvOk (ext1 xs[i] ws[j]) Gc Hc σc → EnvOk (ext xs[i]) Gc Hc σ2 := fun {Gc Hc σc} sc ec => env_back eb5 (by rw [pe]; exact sc) ec (by rw [hpl1, hpl])
        cases b1 with
        | false => exact ⟨hltj, G6, ub, yb, (sb.trans (wide sy5.of0)).trans (wide st6), eback st6 e6, gD6, hD6, paired_mono (fun _ _ z => R.mono (sy5.gg.trans st6.gg) z) prb, by omega, p6⟩
        | true =>
          refine ⟨(xs[i], ws[j]), G6, _, st6.gh, e6, p6, fun G7 H7 y b st7 e7 p7 r7 => ?_⟩
          rw [pe1] at st7
          have gD7 : G7 D = none := st7.old D _ hD6 gD6 hDp
          have hD7 : H7 D = some (.lst ub) := st7.keep D _ hD6 hDp
          have s67 := st6.trans st7
          have zl := wk1.len
          have sput : Step [D] G7 H7 G7 (upd H7 D (.lst (ub ++ [y]))) := Step.put (M := [D]) st7.gh (by simp) gD7
          refine ⟨ub, hD7, by omega, hltj, G7, ub ++ [y], yb ++ [b], ?_, ?_, gD7, upd_same, paired_app (paired_mono (fun _ _ z => R.mono (sy5.gg.trans s67.gg) z) prb) (.cons r7 .nil), by simp; omega, ?_⟩
          · exact ((sb.trans (wide sy5.of0)).trans (wide s67)).trans (sput.wide fun a ha => by rw [mem1 ha]; exact List.mem_cons_self)
          · refine (eback s67 e7).step sput fun a ha z => ?_
            exact hDr (by rw [← mem1 z, ← hA xs[i]]; exact ha)
          · have eq : (fun zs => lc2W (xs.drop (i + 1)) (yb ++ [b] ++ zs) t wi1 t1 f P) = fun zs => lc2W (xs.drop (i + 1)) (yb ++ b :: zs) t wi1 t1 f P := by funext zs; rw [List.append_assoc]; rfl
            rw [eq]
            exact p7
      · have hj' : j = ws.length := by omega
        subst hj'
        rw [List.drop_length] at wb
        have wb' : lc2W (xs.drop (i + 1)) (yb ++ []) t wi1 t1 f P := wb
        rw [List.append_nil] at wb'
        have s2b : Step (D :: padr ρ) G2 H2 Gb Hb := (wide s24).trans sb
        refine .inl ⟨wk1.stop Hb (sb.gg.trans sb.gh), hlt, Gb, ub, yb, ?_, back s2b eb (hpl _), gDb, hDb, prb, by omega, wb'⟩
        exact stt.cut s2b fun a ha => (List.mem_cons.mp ha).elim (fun z => .inr (by rw [z]; exact hD)) .inl
  · have hi' : i = xs.length := by omega
    subst hi'
    refine .inl ⟨wk.stop H' (st.gg.trans st.gh), ?_⟩
    rw [List.drop_length] at wl
    have wl' : P ys := wl
    exact c G' H' D us ys (st1.trans st) ev' wl' hD0 gD hDl pr hlen
end
end SS

set_option Elab.async false
set_option linter.all false
set_option maxRecDepth 100000
/-! SSD: own rules: list comprehensions as terms, statements, loops, calls of defs, the def. Own work. -/
namespace SS
open PySem PySem.Spec L2

/-! ### list comprehensions -/
section
variable {X : Cx} {K : PySem.W.Frag} [HK X K] {α β : Type} {ρ : List (En K)} {Ra : Rp K α} {R : Rp K β} {tg iter elt : Expr} {ifs : List Expr} {scope : Scope} {own : List (Str × Nat)} {pos : Pos} {wi : W (List α)} {ext : α → List (En K)} {is : List Nat} {t : α → W Bool} {f : α → W β}
def BX (X : Cx) (scope : Scope) (s : Shared) (H : Hp) (C : Addr) (cl : List (Str × Addr)) (fp : List Addr) : Cx := X.blk s H scope (compEnvC scope cl C X.env) fp
instance {X : Cx} {K : PySem.W.Frag} {scope : Scope} {s : Shared} {H : Hp} {C : Addr} {cl : List (Str × Addr)} {fp : List Addr} [h : HK X K] : HK (BX X scope s H C cl fp) K := ⟨h.eq⟩
theorem pr_lc (hN : X.N.Nodup) (ok : BlkOk X.N X.env.scope scope own) (hi : PI X tg iter (TIx ρ Ra wi))
    (hg : ∀ (s : Shared) (H : Hp) (C : Addr) (cl : List (Str × Addr)) (fp : List Addr), PG (BX X scope s H C cl fp) tg (TGx (wipeE ρ (own.map (·.2))) Ra ext is))
    (ht : ∀ (x : α) (s : Shared) (H : Hp) (C : Addr) (cl : List (Str × Addr)) (fp : List Addr), PTs (BX X scope s H C cl fp) ifs (TTx (ext x) (t x)))
    (he : ∀ (x : α) (s : Shared) (H : Hp) (C : Addr) (cl : List (Str × Addr)) (fp : List Addr), PE (BX X scope s H C cl fp) elt (TEx (ext x) R (f x)))
    (hc : X.calm = true := by rfl) (hsub : ∀ j ∈ is, j ∈ own.map (·.2) := by decide) (hpl : ∀ x, pls (ext x) = pls ρ := by intro _; rfl) (hpw : pls (wipeE ρ (own.map (·.2))) = pls ρ := by rfl)
    (hs : ∀ x, foldedSetIterable iter X.env x = pure x := by intro _; rfl) : PE X (.ListComp elt [⟨tg, iter, ifs, 0⟩] scope pos) (TEL ρ R fun P => wi fun xs => lcW xs t f P) :=
  pe_imp (pe_lc hc hN hi ok hg (fun s H C cl fp => pts_fam fun x => ht x s H C cl fp) (fun s H C cl fp => pe_fam fun x => he x s H C cl fp) hs) (tx_lc hsub hpl hpw)
theorem pr_lc2 {γ : Type} {Rg : Rp K γ} {tg1 iter1 : Expr} {ifs1 : List Expr} {vs1 : List Nat} {wi1 : α → W (List γ)} {ext1 : α → γ → List (En K)} {is1 : List Nat} {t1 : α → γ → W Bool} {f : α → γ → W β} (hN : X.N.Nodup) (ok : BlkOk X.N X.env.scope scope own) (hi : PI X tg iter (TIx ρ Ra wi))
    (hg : ∀ (s : Shared) (H : Hp) (C : Addr) (cl : List (Str × Addr)) (fp : List Addr), PG (BX X scope s H C cl fp) tg (TGx (wipeE ρ (own.map (·.2))) Ra ext is))
    (ht : ∀ (x : α) (s : Shared) (H : Hp) (C : Addr) (cl : List (Str × Addr)) (fp : List Addr), PTs (BX X scope s H C cl fp) ifs (TTx (ext x) (t x)))
    (hi1 : ∀ (x : α) (s : Shared) (H : Hp) (C : Addr) (cl : List (Str × Addr)) (fp : List Addr), PI (BX X scope s H C cl fp) tg1 iter1 (TIx (ext x) Rg (wi1 x)))
    (hg1 : ∀ (x : α) (s : Shared) (H : Hp) (C : Addr) (cl : List (Str × Addr)) (fp : List Addr), PG (BX X scope s H C cl fp) tg1 (TGx (wipeE (ext x) vs1) Rg (ext1 x) is1))
    (ht1 : ∀ (x : α) (y : γ) (s : Shared) (H : Hp) (C : Addr) (cl : List (Str × Addr)) (fp : List Addr), PTs (BX X scope s H C cl fp) ifs1 (TTx (ext1 x y) (t1 x y)))
    (he : ∀ (x : α) (y : γ) (s : Shared) (H : Hp) (C : Addr) (cl : List (Str × Addr)) (fp : List Addr), PE (BX X scope s H C cl fp) elt (TEx (ext1 x y) R (f x y)))
    (hc : X.calm = true := by rfl) (hv : ∀ i ∈ vs1, i ∈ own.map (·.2) := by decide) (hsub : ∀ j ∈ is, j ∈ own.map (·.2) := by decide) (hsub1 : ∀ j ∈ is1, j ∈ vs1 := by decide) (hpl : ∀ x, pls (ext x) = pls ρ := by intro _; rfl) (hpl1 : ∀ x y, pls (ext1 x y) = pls ρ := by intro _ _; rfl)
    (hA : ∀ x, adrs (ext x) = adrs ρ := by intro _; rfl) (hs : ∀ x, foldedSetIterable iter X.env x = pure x := by intro _; rfl) (hs1 : ∀ env x, foldedSetIterable iter1 env x = pure x := by intro _ _; rfl) :
    PE X (.ListComp elt [⟨tg, iter, ifs, 0⟩, ⟨tg1, iter1, ifs1, 0⟩] scope pos) (TEL ρ R fun P => wi fun xs => lc2W xs [] t wi1 t1 f P) :=
  pe_imp (pe_lc2 hc hN hi ok hv hg (fun s H C cl fp => pts_fam fun x => ht x s H C cl fp) (fun s H C cl fp => pi_fam fun x => hi1 x s H C cl fp) (fun s H C cl fp => pg_fam fun x => hg1 x s H C cl fp) (fun s H C cl fp => pts_fam fun q : α × γ => ht1 q.1 q.2 s H C cl fp) (fun s H C cl fp => pe_fam fun q : α × γ => he q.1 q.2 s H C cl fp) hs hs1) (tx_lc2 hsub hsub1 hpl hpl1 hA)
theorem pts_nilX {X : Cx} {ρ : List (En K)} : PTs X [] (TTx ρ fun P => P true) := pts_imp pts_nil fun σ H Q ⟨G, P, s, e, h, c⟩ => c G H true (Step.refl s) e h
theorem pts_oneX {X : Cx} {ρ : List (En K)} {c : Expr} {w : W Bool} (h : PT X c (TTx ρ w)) : PTs X [c] (TTx ρ w) := pts_one h
end

/-! ### what a block is to reach -/
inductive Out (τ ℓ β : Type)
  | nx (t : τ) | ct (l : ℓ) | bk (l : ℓ) | rt (b : β)
section
variable {K : PySem.W.Frag} {τ τ' ℓ ℓ' α β : Type}
structure Cts (D : Ends) (post : τ → List (En K)) (lp : ℓ → List (En K)) (R : Rp K β) (P : Out τ ℓ β → Prop) (ρ : List (En K)) (G H : Hp) : Prop where
  nx : ∀ (t : τ) (G' H' : Hp) (σ' : L2.St), Step (adrs ρ) G H G' H' → EnvOk (post t) G' H' σ' → P (.nx t) → D.nx σ' H'
  ct : ∀ (l : ℓ) (G' H' : Hp) (σ' : L2.St), Step (adrs ρ) G H G' H' → EnvOk (lp l) G' H' σ' → P (.ct l) → D.ct σ' H'
  bk : ∀ (l : ℓ) (G' H' : Hp) (σ' : L2.St), Step (adrs ρ) G H G' H' → EnvOk (lp l) G' H' σ' → P (.bk l) → D.bk σ' H'
  rt : ∀ (b : β) (G' H' : Hp) (v : V), Step (adrs ρ) G H G' H' → Pools ρ G' H' → P (.rt b) → R.ok G' v b → D.rt v H'
def TBO (ρ : List (En K)) (post : τ → List (En K)) (lp : ℓ → List (En K)) (R : Rp K β) (w : W (Out τ ℓ β)) : TS := fun D σ H => ∃ (G : Hp) (P : Out τ ℓ β → Prop), Same G H ∧ EnvOk ρ G H σ ∧ w P ∧ Cts D post lp R P ρ G H
theorem Cts.step {D : Ends} {post : τ → List (En K)} {lp : ℓ → List (En K)} {R : Rp K β} {P : Out τ ℓ β → Prop} {ρ ρ1 : List (En K)} {G H G1 H1 : Hp} (c : Cts D post lp R P ρ G H) (s : Step (adrs ρ) G H G1 H1)
    (h : ∀ a ∈ adrs ρ1, a ∈ adrs ρ ∨ H a = none) (hp : ∀ q ∈ pls ρ, q ∈ pls ρ1) : Cts D post lp R P ρ1 G1 H1 where
  nx := fun t G' H' σ' s' e p => c.nx t G' H' σ' (s.cut s' h) e p
  ct := fun t G' H' σ' s' e p => c.ct t G' H' σ' (s.cut s' h) e p
  bk := fun t G' H' σ' s' e p => c.bk t G' H' σ' (s.cut s' h) e p
  rt := fun b G' H' v s' e p r => c.rt b G' H' v (s.cut s' h) (fun q hq => e q (hp q hq)) p r
/-- behind a block: its outcomes, then what follows -/
def onx (m : τ → W (Out τ' ℓ β)) (P : Out τ' ℓ β → Prop) : Out τ ℓ β → Prop
  | .nx t => m t P
  | .ct l => P (.ct l)
  | .bk l => P (.bk l)
  | .rt b => P (.rt b)
/-- a loop over a list -/
def forW {σ : Type} : List α → σ → (σ → α → W (Out σ σ β)) → (σ → Prop) → (β → Prop) → Prop
  | [], st, _, N, _ => N st
  | x :: xs, st, f, N, Rr => f st x fun o => match o with
    | .nx st' => forW xs st' f N Rr
    | .ct st' => forW xs st' f N Rr
    | .bk st' => N st'
    | .rt b => Rr b
end

section
variable {X : Cx} {K : PySem.W.Frag} [HK X K] {τ τ' ℓ ℓ' α β γ : Type} {ρ : List (En K)} {post : τ → List (En K)} {lp : ℓ → List (En K)} {R : Rp K β} {rest : List Stmt} {pos : Pos} {e : Expr}
theorem b_nil {t : τ} (h : Ent ρ (post t)) : PSs X [] (TBO ρ post lp R fun P => P (.nx t)) :=
  pss_imp pss_nil fun D σ H ⟨G, P, s, ev, p, c⟩ => c.nx t G H σ (Step.refl s) (ev.ent h) p
theorem b_ret {w : W β} (h : PE X e (TEx ρ R w)) : PSs X (.Return (some e) pos :: rest) (TBO ρ post lp R fun P => w fun b => P (.rt b)) :=
  pss_imp (pss_cons (ps_ret h) pss_never) fun D σ H ⟨G, P, s, ev, p, c⟩ => ⟨G, _, s, ev, p, fun G' H' v b st e' pb rb => c.rt b G' H' v (st.wide fun a ha => padr_sub ha) e'.pools pb rb⟩
theorem b_retN {R : Rp K Unit} (h : ∀ G, R.ok G .non ()) : PSs X (.Return none pos :: rest) (TBO ρ post lp R fun P => P (.rt ())) :=
  pss_imp (pss_cons ps_retN pss_never) fun D σ H ⟨G, P, s, ev, p, c⟩ => c.rt () G H .non (Step.refl s) ev.pools p (h G)
theorem b_never {sts : List Stmt} : PSs X sts (TBO ρ post lp R fun _ => False) := pss_imp pss_never fun D σ H ⟨_, _, _, _, p, _⟩ => p
theorem b_pass {w : W (Out τ ℓ β)} (h : PSs X rest (TBO ρ post lp R w)) : PSs X (.Pass pos :: rest) (TBO ρ post lp R w) := pss_cons ps_pass h
theorem b_cont {l : ℓ} (h : Ent ρ (lp l)) : PSs X (.Continue pos :: rest) (TBO ρ post lp R fun P => P (.ct l)) :=
  pss_imp (pss_cons ps_continue pss_never) fun D σ H ⟨G, P, s, ev, p, c⟩ => c.ct l G H σ (Step.refl s) (ev.ent h) p
theorem b_brk {l : ℓ} (h : Ent ρ (lp l)) : PSs X (.Break pos :: rest) (TBO ρ post lp R fun P => P (.bk l)) :=
  pss_imp (pss_cons ps_break pss_never) fun D σ H ⟨G, P, s, ev, p, c⟩ => c.bk l G H σ (Step.refl s) (ev.ent h) p
theorem b_expr {Ra : Rp K α} {w : W α} {m : W (Out τ ℓ β)} (h : PE X e (TEx ρ Ra w)) (hr : PSs X rest (TBO ρ post lp R m)) (hs : swapsWith e none pos.line X.env = pure false := by rfl) :
    PSs X (.Expr e pos :: rest) (TBO ρ post lp R fun P => w fun _ => m P) :=
  pss_imp (pss_cons (ps_expr h hs) hr) fun D σ H ⟨G, P, s, ev, p, c⟩ => ⟨G, _, s, ev, p, fun G' H' v b st e' pb rb => ⟨G', P, st.gh, e', pb, c.step (st.wide fun a ha => padr_sub ha) (fun a ha => .inl ha) fun q hq => hq⟩⟩
/-- name = value -/
theorem b_asg {i : Nat} {nm : Str} {pn : Pos} {Ra : Rp K α} {w : W α} {m : α → W (Out τ ℓ β)} (hN : X.N.Nodup) (hi : X.N[i]? = some nm) (hx : Loc X.env.scope nm) (h : PE X e (TEx ρ Ra w))
    (hr : ∀ a, PSs X rest (TBO (ρ.set i (.fr Ra a)) post lp R (m a))) (hp : (ρ.getD i .off).pl = [] := by rfl) (hs : swapsWith e (some (.Name nm pn)) pos.line X.env = pure false := by rfl)
    (hf : X.fn nm = true ∨ X.env.scope.names.lookup nm = some .local := by first | exact .inl rfl | exact .inr rfl | assumption) : PSs X (.Assign [.Name nm pn] e pos :: rest) (TBO ρ post lp R fun P => w fun a => m a P) :=
  pss_imp (pss_cons (ps_set hN hi hx h hs hf) (pss_fam hr)) fun D σ H ⟨G, P, s, ev, p, c⟩ => ⟨G, _, s, ev, p, fun G' H' v a st e' pa ra => ⟨a, G', P, st.gh, e'.putFr ra, pa,
    c.step (st.wide fun a ha => padr_sub ha) (fun b hb => .inl ((nodup_fr ev.nd rfl).2 b hb)) fun q hq => pls_set hp hq⟩⟩
/-- name = a new list of one's own -/
theorem cts_own {D : Ends} {P : Out τ ℓ β → Prop} {i : Nat} {Ra : Rp K α} {xs : List α} {G H G' H' : Hp} {p : Addr} (c : Cts D post lp R P ρ G H) (st : Step (padr ρ) G H G' H') (hp : (ρ.getD i .off).pl = []) (np : H p = none) :
    Cts D post lp R P (ρ.set i (.own p Ra xs)) G' H' :=
  c.step (st.wide fun a ha => padr_sub ha) (fun b hb => (adrs_set hb).elim .inl fun z => .inr (by rw [mem1 z]; exact np)) fun q hq => pls_set hp hq
theorem EnvOk.putOwn {i : Nat} {Ra : Rp K α} {xs : List α} {vs : List V} {G H : Hp} {σ : L2.St} {p : Addr} (ev : EnvOk ρ G H σ) (n1 : G p = none) (hq : H p = some (.lst vs)) (pr : Paired (Ra.ok G) vs xs) (hz : vs.length ≤ sizeLine) (nw : p ∉ adrs ρ) :
    EnvOk (ρ.set i (.own p Ra xs)) G H (σ.set i (some (.ref p))) :=
  ev.put ⟨rfl, n1, vs, hq, pr, hz⟩ (nodup_set ev.nd (by simp [En.adr]) fun a ha z => nw (by rw [← mem1 ha]; exact z))
theorem b_asgL {i : Nat} {nm : Str} {pn : Pos} {Ra : Rp K α} {w : W (List α)} {m : Addr → List α → W (Out τ ℓ β)} (hN : X.N.Nodup) (hi : X.N[i]? = some nm) (hx : Loc X.env.scope nm) (h : PE X e (TEL ρ Ra w))
    (hr : ∀ (q : Addr) (z : List α), PSs X rest (TBO (ρ.set i (.own q Ra z)) post lp R (m q z))) (hp : (ρ.getD i .off).pl = [] := by rfl) (hs : swapsWith e (some (.Name nm pn)) pos.line X.env = pure false := by rfl)
    (hf : X.fn nm = true ∨ X.env.scope.names.lookup nm = some .local := by first | exact .inl rfl | exact .inr rfl | assumption) : PSs X (.Assign [.Name nm pn] e pos :: rest) (TBO ρ post lp R fun P => w fun xs => ∀ p, m p xs P) :=
  pss_imp (pss_cons (ps_set hN hi hx h hs hf) (pss_fam fun q : Addr × List α => hr q.1 q.2)) fun D σ H ⟨G, P, s, ev, p, c⟩ => ⟨G, _, s, ev, p, fun G' H' q vs xs st e' pa n1 n2 hq pr hz => ⟨(q, xs), G', P, st.gh,
    e'.putOwn n2 hq pr hz (ev.fresh n1), pa q, cts_own c st hp n1⟩⟩
/-- .. by a comprehension that stands alone -/
theorem b_lcT {i : Nat} {nm : Str} {pn : Pos} {Ra : Rp K α} {Rb : Rp K γ} {tg iter elt : Expr} {ifs : List Expr} {scope : Scope} {own : List (Str × Nat)} {spos : Pos} {wi : W (List α)} {ext : α → List (En K)} {is : List Nat} {t : α → W Bool} {f : α → W γ} {m : Addr → List γ → W (Out τ ℓ β)}
    (hN : X.N.Nodup) (hi : X.N[i]? = some nm) (hyl : X.env.scope.names.lookup nm = some .local) (hk : X.env.scope.kind = .function) (ha : (scope.names.any fun (n, k) => n == nm && (k == .local || k == .cell)) = false)
    (ok : BlkOk X.N X.env.scope scope own) (hit : PI X tg iter (TIx ρ Ra wi))
    (hg : ∀ (s : Shared) (H : Hp) (C : Addr) (cl : List (Str × Addr)) (fp : List Addr), PG (BX X scope s H C cl fp) tg (TGx (wipeE ρ (own.map (·.2))) Ra ext is))
    (ht : ∀ (x : α) (s : Shared) (H : Hp) (C : Addr) (cl : List (Str × Addr)) (fp : List Addr), PTs (BX X scope s H C cl fp) ifs (TTx (ext x) (t x)))
    (he : ∀ (x : α) (s : Shared) (H : Hp) (C : Addr) (cl : List (Str × Addr)) (fp : List Addr), PE (BX X scope s H C cl fp) elt (TEx (ext x) Rb (f x)))
    (hr : ∀ (q : Addr) (z : List γ), PSs X rest (TBO (ρ.set i (.own q Rb z)) post lp R (m q z))) (hp : (ρ.getD i .off).pl = [] := by rfl)
    (hc : X.calm = true := by rfl) (hsub : ∀ j ∈ is, j ∈ own.map (·.2) := by decide) (hpl : ∀ x, pls (ext x) = pls ρ := by intro _; rfl) (hpw : pls (wipeE ρ (own.map (·.2))) = pls ρ := by rfl)
    (hs : ∀ x, foldedSetIterable iter X.env x = pure x := by intro _; rfl) (hl : (pn.line == pos.line) = true := by rfl) :
    PSs X (.Assign [.Name nm pn] (.ListComp elt [⟨tg, iter, ifs, 0⟩] scope pos) spos :: rest) (TBO ρ post lp R fun P => wi fun xs => lcW xs t f fun ys => ∀ p, m p ys P) :=
  pss_imp (pss_cons (ps_setLc hc hN hi hyl (sw_true hk hyl hl ha) hit ok hg (fun s H C cl fp => pts_fam fun x => ht x s H C cl fp) (fun s H C cl fp => pe_fam fun x => he x s H C cl fp) hs) (pss_fam fun q : Addr × List γ => hr q.1 q.2))
    fun D σ H ⟨G, P, s, ev, p, c⟩ => tx_lc hsub hpl hpw σ H (fun x H1 => tsf (fun q : Addr × List γ => TBO (ρ.set i (.own q.1 Rb q.2)) post lp R (m q.1 q.2)) D (σ.set i (some x)) H1) ⟨G, _, s, ev, p, fun G' H' q vs xs st e' pa n1 n2 hq pr hz => ⟨(q, xs), G', P, st.gh, e'.putOwn n2 hq pr hz (ev.fresh n1), pa q, cts_own c st hp n1⟩⟩
theorem b_lc2T {γ δ : Type} {i : Nat} {nm : Str} {pn : Pos} {Ra : Rp K α} {Rg : Rp K γ} {Rb : Rp K δ} {tg iter tg1 iter1 elt : Expr} {ifs ifs1 : List Expr} {scope : Scope} {own : List (Str × Nat)} {vs1 : List Nat} {spos : Pos} {wi : W (List α)} {wi1 : α → W (List γ)} {ext : α → List (En K)} {ext1 : α → γ → List (En K)} {is is1 : List Nat} {t : α → W Bool} {t1 : α → γ → W Bool} {f : α → γ → W δ} {m : Addr → List δ → W (Out τ ℓ β)}
    (hN : X.N.Nodup) (hi : X.N[i]? = some nm) (hyl : X.env.scope.names.lookup nm = some .local) (hk : X.env.scope.kind = .function) (ha : (scope.names.any fun (n, k) => n == nm && (k == .local || k == .cell)) = false)
    (ok : BlkOk X.N X.env.scope scope own) (hit : PI X tg iter (TIx ρ Ra wi))
    (hg : ∀ (s : Shared) (H : Hp) (C : Addr) (cl : List (Str × Addr)) (fp : List Addr), PG (BX X scope s H C cl fp) tg (TGx (wipeE ρ (own.map (·.2))) Ra ext is))
    (ht : ∀ (x : α) (s : Shared) (H : Hp) (C : Addr) (cl : List (Str × Addr)) (fp : List Addr), PTs (BX X scope s H C cl fp) ifs (TTx (ext x) (t x)))
    (hi1 : ∀ (x : α) (s : Shared) (H : Hp) (C : Addr) (cl : List (Str × Addr)) (fp : List Addr), PI (BX X scope s H C cl fp) tg1 iter1 (TIx (ext x) Rg (wi1 x)))
    (hg1 : ∀ (x : α) (s : Shared) (H : Hp) (C : Addr) (cl : List (Str × Addr)) (fp : List Addr), PG (BX X scope s H C cl fp) tg1 (TGx (wipeE (ext x) vs1) Rg (ext1 x) is1))
    (ht1 : ∀ (x : α) (y : γ) (s : Shared) (H : Hp) (C : Addr) (cl : List (Str × Addr)) (fp : List Addr), PTs (BX X scope s H C cl fp) ifs1 (TTx (ext1 x y) (t1 x y)))
    (he : ∀ (x : α) (y : γ) (s : Shared) (H : Hp) (C : Addr) (cl : List (Str × Addr)) (fp : List Addr), PE (BX X scope s H C cl fp) elt (TEx (ext1 x y) Rb (f x y)))
    (hr : ∀ (q : Addr) (z : List δ), PSs X rest (TBO (ρ.set i (.own q Rb z)) post lp R (m q z))) (hp : (ρ.getD i .off).pl = [] := by rfl)
    (hc : X.calm = true := by rfl) (hv : ∀ i ∈ vs1, i ∈ own.map (·.2) := by decide) (hsub : ∀ j ∈ is, j ∈ own.map (·.2) := by decide) (hsub1 : ∀ j ∈ is1, j ∈ vs1 := by decide) (hpl : ∀ x, pls (ext x) = pls ρ := by intro _; rfl) (hpl1 : ∀ x y, pls (ext1 x y) = pls ρ := by intro _ _; rfl)
    (hA : ∀ x, adrs (ext x) = adrs ρ := by intro _; rfl) (hs : ∀ x, foldedSetIterable iter X.env x = pure x := by intro _; rfl) (hs1 : ∀ env x, foldedSetIterable iter1 env x = pure x := by intro _ _; rfl) (hl : (pn.line == pos.line) = true := by rfl) :
    PSs X (.Assign [.Name nm pn] (.ListComp elt [⟨tg, iter, ifs, 0⟩, ⟨tg1, iter1, ifs1, 0⟩] scope pos) spos :: rest) (TBO ρ post lp R fun P => wi fun xs => lc2W xs [] t wi1 t1 f fun ys => ∀ p, m p ys P) :=
  pss_imp (pss_cons (ps_setLc2 hc hN hi hyl (sw_true hk hyl hl ha) hit ok hv hg (fun s H C cl fp => pts_fam fun x => ht x s H C cl fp) (fun s H C cl fp => pi_fam fun x => hi1 x s H C cl fp) (fun s H C cl fp => pg_fam fun x => hg1 x s H C cl fp) (fun s H C cl fp => pts_fam fun q : α × γ => ht1 q.1 q.2 s H C cl fp) (fun s H C cl fp => pe_fam fun q : α × γ => he q.1 q.2 s H C cl fp) hs hs1) (pss_fam fun q : Addr × List δ => hr q.1 q.2))
    fun D σ H ⟨G, P, s, ev, p, c⟩ => tx_lc2 hsub hsub1 hpl hpl1 hA σ H (fun x H1 => tsf (fun q : Addr × List δ => TBO (ρ.set i (.own q.1 Rb q.2)) post lp R (m q.1 q.2)) D (σ.set i (some x)) H1) ⟨G, _, s, ev, p, fun G' H' q vs xs st e' pa n1 n2 hq pr hz => ⟨(q, xs), G', P, st.gh, e'.putOwn n2 hq pr hz (ev.fresh n1), pa q, cts_own c st hp n1⟩⟩
/-- an own list is frozen (no statement) -/
theorem b_frz {sts : List Stmt} (i : Nat) {p : Addr} {Ra : Rp K α} {xs : List α} {m : W (Out τ ℓ β)} (h : ρ[i]? = some (.own p Ra xs)) (hr : PSs X sts (TBO (ρ.set i (.fr (rL Ra) xs)) post lp R m)) : PSs X sts (TBO ρ post lp R m) := by
  refine pss_imp hr fun D σ H ⟨G, P, s, ev, pp, c⟩ => ?_
  obtain ⟨o, ho, e1, n1, vs, hq, pr, hz⟩ := ev.ok i _ h
  have hm : p ∈ adrs ρ := adrs_mem h (by simp [En.adr])
  have s2 : Step [p] G H (upd G p (.lst vs)) H := Step.freeze s (by simp) n1 hq
  have nf := nodup_fr (i := i) (e := (.fr (rL Ra) xs : En K)) ev.nd rfl
  have hpl : (ρ.getD i .off).pl = [] := by
    have e : ρ.getD i .off = .own p Ra xs := by rw [List.getD_eq_getElem?_getD, h]; rfl
    rw [e]; rfl
  refine ⟨upd G p (.lst vs), P, s2.gh, ?_, pp, c.step (s2.wide fun a ha => by rw [mem1 ha]; exact hm) (fun b hb => .inl (nf.2 b hb)) fun q hq => pls_set hpl hq⟩
  -- the environment
  refine ⟨by rw [List.length_set, ev.len], fun j e' hj => ?_, nf.1⟩
  by_cases hij : i = j
  · subst hij
    have hl : i < ρ.length := (List.getElem?_eq_some_iff.mp h).1
    rw [List.getElem?_set_self hl] at hj
    cases hj
    exact ⟨o, ho, .ref p, e1, p, vs, rfl, SqL.of upd_same, paired_mono (fun _ _ z => Ra.mono s2.gg z) pr, hz⟩
  · rw [List.getElem?_set_ne hij] at hj
    obtain ⟨o', ho', q⟩ := ev.ok j e' hj
    exact ⟨o', ho', En.step q s2 fun a ha z => nodup_apart ev.nd h hj hij (by rw [mem1 z]; simp [En.adr]) ha⟩
/-- targets of any form -/
theorem b_asgT {tg : Expr} {Ra : Rp K α} {w : W α} {ext : α → List (En K)} {is : List Nat} {m : α → W (Out τ ℓ β)} (h : PE X e (TEx ρ Ra w)) (hg : PG X tg (TGx ρ Ra ext is)) (hr : ∀ a, PSs X rest (TBO (ext a) post lp R (m a)))
    (had : ∀ a, adrs (ext a) = adrs ρ := by intro _; rfl) (hpl : ∀ a, pls (ext a) = pls ρ := by intro _; rfl)
    (hs : swapsWithSole [tg] e pos.line X.env = pure false := by rfl) (hw : swappedStores [tg] e X.env = pure none := by rfl) (h1 : (assignEach [tg] X.env).map (·.2) = [assign tg X.env] := by rfl) :
    PSs X (.Assign [tg] e pos :: rest) (TBO ρ post lp R fun P => w fun a => m a P) :=
  pss_imp (pss_cons (ps_asg h hg hs hw h1) (pss_fam hr)) fun D σ H ⟨G, P, s, ev, p, c⟩ => ⟨G, _, s, ev, p, fun G' H' v a st e' pa ra => ⟨G', a, st.gh, e', ra, fun σ' e'' _ _ => ⟨a, G', P, st.gh, e'', pa,
    c.step (st.wide fun a ha => padr_sub ha) (fun b hb => .inl (by rw [had] at hb; exact hb)) fun q hq => by rw [hpl]; exact hq⟩⟩⟩
/-- x += e on whole numbers -/
theorem b_aug {i : Nat} {nm : Str} {pn : Pos} {op : Operator} {g : Int → Int → Int} {x : Int} {w : W Int} {m : Int → W (Out τ ℓ β)} (hN : X.N.Nodup) (hi : X.N[i]? = some nm) (hx : Loc X.env.scope nm) (ho : PIp X op (ipI g)) (hv : ρ[i]? = some (.fr rI x)) (h : PE X e (TEx ρ rI w))
    (hr : ∀ a, PSs X rest (TBO (ρ.set i (.fr rI a)) post lp R (m a))) (hp : (ρ.getD i .off).pl = [] := by rfl)
    (hf : X.fn nm = true ∨ X.env.scope.names.lookup nm = some .local := by first | exact .inl rfl | exact .inr rfl | assumption) : PSs X (.AugAssign (.Name nm pn) op e pos :: rest) (TBO ρ post lp R fun P => w fun a => m (g x a) P) := by
  refine pss_imp (pss_cons (ps_aug hN hi hx h ho hf) (pss_fam hr)) fun D σ H ⟨G, P, s, ev, p, c⟩ => ?_
  obtain ⟨o, ho, v, hv', q⟩ := ev.ok i _ hv
  subst hv'
  have q' : v = V.int x := q
  subst q'
  refine ⟨_, ho, G, _, s, ev, p, fun G' H' u a st e' pa ra => ?_⟩
  have ra' : u = V.int a := ra
  subst ra'
  exact ⟨x, a, rfl, rfl, g x a, G', P, st.gh, e'.putFr rfl, pa, c.step (st.wide fun a ha => padr_sub ha) (fun b hb => .inl ((nodup_fr ev.nd rfl).2 b hb)) fun q hq => pls_set hp hq⟩
theorem ip_mul {X : Cx} : PIp X .Mult (fun x y H Q => ∃ i j, x = .int i ∧ y = .int j ∧ CMul i j ∧ Q (.int (i * j)) H) := fun pins s σ H x y v u Q I rx ry ⟨i, j, h1, h2, h3, q⟩ => iop_mul pins s σ H x y v u Q I rx ry ⟨i, j, h1, h2, h3, q⟩
theorem b_augM {i : Nat} {nm : Str} {pn : Pos} {x : Int} {w : W Int} {m : Int → W (Out τ ℓ β)} (hN : X.N.Nodup) (hi : X.N[i]? = some nm) (hx : Loc X.env.scope nm) (hv : ρ[i]? = some (.fr rI x)) (h : PE X e (TEx ρ rI w))
    (hr : ∀ a, PSs X rest (TBO (ρ.set i (.fr rI a)) post lp R (m a))) (hp : (ρ.getD i .off).pl = [] := by rfl)
    (hf : X.fn nm = true ∨ X.env.scope.names.lookup nm = some .local := by first | exact .inl rfl | exact .inr rfl | assumption) : PSs X (.AugAssign (.Name nm pn) .Mult e pos :: rest) (TBO ρ post lp R fun P => w fun a => CMul x a ∧ m (x * a) P) := by
  refine pss_imp (pss_cons (ps_aug hN hi hx h ip_mul hf) (pss_fam hr)) fun D σ H ⟨G, P, s, ev, p, c⟩ => ?_
  obtain ⟨o, ho, v, hv', q⟩ := ev.ok i _ hv
  subst hv'
  have q' : v = V.int x := q
  subst q'
  refine ⟨_, ho, G, _, s, ev, p, fun G' H' u a st e' pa ra => ?_⟩
  have ra' : u = V.int a := ra
  subst ra'
  exact ⟨x, a, rfl, rfl, pa.1, x * a, G', P, st.gh, e'.putFr rfl, pa.2, c.step (st.wide fun a ha => padr_sub ha) (fun b hb => .inl ((nodup_fr ev.nd rfl).2 b hb)) fun q hq => pls_set hp hq⟩
/-- if -/
theorem b_if {t : Expr} {a b : List Stmt} {u : W Bool} {τ1 : Type} {m1 m2 : W (Out τ1 ℓ β)} {m : τ1 → W (Out τ ℓ β)} (post1 : τ1 → List (En K)) (ht : PT X t (TTx ρ u)) (ha : PSs X a (TBO ρ post1 lp R m1)) (hb : PSs X b (TBO ρ post1 lp R m2))
    (hr : ∀ t, PSs X rest (TBO (post1 t) post lp R (m t))) (had : ∀ t, ∀ a ∈ adrs (post1 t), a ∈ adrs ρ) (hpl : ∀ t, pls (post1 t) = pls ρ := by intro _; rfl) :
    PSs X (.If t a b pos :: rest) (TBO ρ post lp R fun P => u fun k => if k = true then m1 (onx m P) else m2 (onx m P)) := by
  refine pss_imp (pss_cons (ps_if ht ha hb) (pss_fam hr)) fun D σ H ⟨G, P, s, ev, p, c⟩ => ⟨G, _, s, ev, p, fun G' H' k st e' pk => ?_⟩
  have c' : Cts D post lp R P ρ G' H' := c.step (st.wide fun a ha => padr_sub ha) (fun a ha => .inl ha) fun q hq => hq
  have cc : Cts { D with nx := tsf (fun t => TBO (post1 t) post lp R (m t)) D } post1 lp R (onx m P) ρ G' H' :=
    ⟨fun t G2 H2 σ' s2 e2 p2 => ⟨t, G2, P, s2.gh, e2, p2, c'.step s2 (fun a ha => .inl (had t a ha)) fun q hq => by rw [hpl]; exact hq⟩, c'.ct, c'.bk, c'.rt⟩
  cases k with
  | true => exact ⟨G', _, st.gh, e', pk, cc⟩
  | false => exact ⟨G', _, st.gh, e', pk, cc⟩
/-- if whose body never falls through, without else -/
theorem b_ifr {t : Expr} {a : List Stmt} {u : W Bool} {m1 : W (Out Empty ℓ β)} {m : W (Out τ ℓ β)} (ht : PT X t (TTx ρ u)) (ha : PSs X a (TBO ρ (fun _ => ρ) lp R m1)) (hr : PSs X rest (TBO ρ post lp R m)) :
    PSs X (.If t a [] pos :: rest) (TBO ρ post lp R fun P => u fun k => if k = true then m1 (onx (fun z => nomatch z) P) else m P) := by
  refine pss_imp (pss_cons (ps_if ht ha pss_nil) hr) fun D σ H ⟨G, P, s, ev, p, c⟩ => ⟨G, _, s, ev, p, fun G' H' k st e' pk => ?_⟩
  have c' : Cts D post lp R P ρ G' H' := c.step (st.wide fun a ha => padr_sub ha) (fun a ha => .inl ha) fun q hq => hq
  cases k with
  | true => exact ⟨G', _, st.gh, e', pk, ⟨fun t _ _ _ _ _ _ => (nomatch t), c'.ct, c'.bk, c'.rt⟩⟩
  | false => exact ⟨G', P, st.gh, e', pk, c'⟩
/-- if, both ways of which never fall through -/
theorem b_ifrr {t : Expr} {a b : List Stmt} {u : W Bool} {m1 m2 : W (Out τ ℓ β)} (ht : PT X t (TTx ρ u)) (ha : PSs X a (TBO ρ post lp R m1)) (hb : PSs X b (TBO ρ post lp R m2)) :
    PSs X [.If t a b pos] (TBO ρ post lp R fun P => u fun k => if k = true then m1 P else m2 P) := by
  refine pss_imp (pss_one (ps_if ht ha hb)) fun D σ H ⟨G, P, s, ev, p, c⟩ => ⟨G, _, s, ev, p, fun G' H' k st e' pk => ?_⟩
  have c' : Cts D post lp R P ρ G' H' := c.step (st.wide fun a ha => padr_sub ha) (fun a ha => .inl ha) fun q hq => hq
  cases k with
  | true => exact ⟨G', P, st.gh, e', pk, c'⟩
  | false => exact ⟨G', P, st.gh, e', pk, c'⟩
/-- for -/
theorem b_for {tg iter : Expr} {body : List Stmt} {Ra : Rp K α} {wi : W (List α)} {ext : τ' → α → List (En K)} {is : List Nat} {f : τ' → α → W (Out τ' τ' β)} {m : τ' → W (Out τ ℓ β)} (inv : τ' → List (En K)) (st0 : τ')
    (hi : PI X tg iter (TIx ρ Ra wi)) (h0 : Ent ρ (inv st0)) (hg : ∀ st, PG X tg (TGx (inv st) Ra (ext st) is)) (hb : ∀ (st : τ') (x : α), PSs X body (TBO (ext st x) inv inv R (f st x))) (hr : ∀ st, PSs X rest (TBO (inv st) post lp R (m st)))
    (hA : ∀ st, adrs (inv st) = adrs (inv st0) := by intro _; rfl) (hB : ∀ st x, adrs (ext st x) = adrs (inv st0) := by intro _ _; rfl) (hp : ∀ st x, pls (ext st x) = pls (inv st0) := by intro _ _; rfl) (hp' : ∀ st, pls (inv st) = pls (inv st0) := by intro _; rfl) (hc : X.calm = true := by rfl) (ho : PassesOwn (model X.prog X.w) X.A X.env X.xe := by exact PassesOwn.never)
    (hs : ∀ x, foldedSetIterable iter X.env x = pure x := by intro _; rfl) :
    PSs X (.For tg iter body [] pos :: rest) (TBO ρ post lp R fun P => wi fun xs => forW xs st0 f (fun st => m st P) fun b => P (.rt b)) := by
  refine pss_imp (pss_cons (ps_for ho hc hi (pg_fam hg) (pss_fam fun q : τ' × α => hb q.1 q.2) hs) (pss_fam hr)) fun D σ H ⟨G, P, s, ev, p, c⟩ => ⟨G, _, s, ev, p, fun G1 H1 J xs st1 e1 p1 wk => ?_⟩
  have c1 : Cts D post lp R P ρ G1 H1 := c.step (st1.wide fun a ha => padr_sub ha) (fun a ha => .inl ha) fun q hq => hq
  have sub : ∀ st, ∀ a ∈ adrs (inv st), a ∈ adrs ρ := fun st a ha => h0.adrs.subset (by rw [hA] at ha; exact ha)
  have subB : ∀ st x, ∀ a ∈ adrs (ext st x), a ∈ adrs ρ := fun st x a ha => h0.adrs.subset (by rw [hB] at ha; exact ha)
  have plI : ∀ st, ∀ q ∈ pls ρ, q ∈ pls (inv st) := fun st q hq => by rw [hp', h0.pls]; exact hq
  have plB : ∀ st x, ∀ q ∈ pls ρ, q ∈ pls (ext st x) := fun st x q hq => by rw [hp, h0.pls]; exact hq
  refine ⟨fun i k σ' H' => k = xs.length - i ∧ i ≤ xs.length ∧ ∃ (G' : Hp) (st : τ'), Step (adrs ρ) G1 H1 G' H' ∧ EnvOk (inv st) G' H' σ' ∧ forW (xs.drop i) st f (fun st => m st P) fun b => P (.rt b),
    ⟨xs.length, by simp, Nat.zero_le _, G1, st0, Step.refl st1.gh, e1.ent h0, p1⟩, ?_⟩
  rintro i k σ' H' ⟨rfl, hle, G', st, sg, ei, wl⟩
  by_cases hlt : i < xs.length
  · refine .inr ⟨wk.go i H' (sg.gg.trans sg.gh) hlt, fun σ2 H2 => i + 1 ≤ xs.length ∧ ∃ (G' : Hp) (st : τ'), Step (adrs ρ) G1 H1 G' H2 ∧ EnvOk (inv st) G' H2 σ2 ∧ forW (xs.drop (i + 1)) st f (fun st => m st P) fun b => P (.rt b),
      fun σ2 H2 ⟨q1, q2⟩ => ⟨xs.length - (i + 1), by omega, rfl, q1, q2⟩, fun v H2 hy => ?_⟩
    have hx : xs[i]? = some xs[i] := List.getElem?_eq_getElem hlt
    obtain ⟨G2, sy, rv⟩ := wk.yld i G' H' v H2 _ sg.gg sg.gh hx hy
    rw [List.drop_eq_getElem_cons hlt] at wl
    have s2 : Step (adrs ρ) G1 H1 G2 H2 := sg.trans sy.of0
    refine ⟨st, G2, xs[i], sy.gh, ei.step0 sy, rv, fun σ2 e2 _ _ => ⟨(st, xs[i]), G2, _, sy.gh, e2, wl, ?_⟩⟩
    refine ⟨fun t G3 H3 σ3 s3 e3 p3 => ?_, fun t G3 H3 σ3 s3 e3 p3 => ?_, fun t G3 H3 σ3 s3 e3 p3 => ?_, fun b G3 H3 v s3 e3 p3 r3 => ?_⟩
    · exact ⟨hlt, G3, t, s2.cut s3 fun a ha => .inl (subB _ _ a ha), e3, p3⟩
    · exact ⟨hlt, G3, t, s2.cut s3 fun a ha => .inl (subB _ _ a ha), e3, p3⟩
    · have s4 : Step (adrs ρ) G1 H1 G3 H3 := s2.cut s3 fun a ha => .inl (subB _ _ a ha)
      exact ⟨t, G3, P, s3.gh, e3, p3, c1.step s4 (fun a ha => .inl (sub t a ha)) (plI t)⟩
    · exact c1.rt b G3 H3 v (s2.cut s3 fun a ha => .inl (subB _ _ a ha)) (fun q hq => e3 q (plB _ _ q hq)) p3 r3
  · have hi' : i = xs.length := by omega
    subst hi'
    rw [List.drop_length] at wl
    exact .inl ⟨wk.stop H' (sg.gg.trans sg.gh), st, G', P, sg.gh, ei, wl, c1.step sg (fun a ha => .inl (sub st a ha)) (plI st)⟩
end
end SS

set_option Elab.async false
set_option linter.all false
set_option maxRecDepth 100000
/-! SSE: own rules: operations by representation, equality of data, lists of one's own that change, fields, calls, the def. Own work. -/
namespace SS
open PySem PySem.Spec L2

/-! ### numbers -/
section
variable {K : PySem.W.Frag} {α β : Type}
theorem r2_I0 {g : Int → Int → Int} : R2Ok (rI0 fun i j => .int (g i j)) (rI : Rp K Int) (rI : Rp K Int) (rI : Rp K Int) (fun x y P => P (g x y)) := fun G H v u x y P Q s h1 h2 p k => ⟨x, y, h1, h2, k G H _ _ (Step.refl s) p rfl⟩
theorem r2_B0 {g : Int → Int → Bool} : R2Ok (rI0 fun i j => .bl (g i j)) (rI : Rp K Int) (rI : Rp K Int) (rB : Rp K Bool) (fun x y P => P (g x y)) := fun G H v u x y P Q s h1 h2 p k => ⟨x, y, h1, h2, k G H _ _ (Step.refl s) p rfl⟩
theorem r2_I {C : Int → Int → Prop} {g : Int → Int → Int} : R2Ok (L2.rI C fun i j => .int (g i j)) (rI : Rp K Int) (rI : Rp K Int) (rI : Rp K Int) (fun x y P => C x y ∧ P (g x y)) := fun G H v u x y P Q s h1 h2 p k => ⟨x, y, h1, h2, p.1, k G H _ _ (Step.refl s) p.2 rfl⟩
theorem r2_add : R2Ok (rI0 fun i j => .int (i + j)) (rI : Rp K Int) (rI : Rp K Int) (rI : Rp K Int) (fun x y P => P (x + y)) := r2_I0
theorem r2_sub : R2Ok (rI0 fun i j => .int (i - j)) (rI : Rp K Int) (rI : Rp K Int) (rI : Rp K Int) (fun x y P => P (x - y)) := r2_I0
theorem r2_mul : R2Ok (L2.rI CMul fun i j => .int (i * j)) (rI : Rp K Int) (rI : Rp K Int) (rI : Rp K Int) (fun x y P => CMul x y ∧ P (x * y)) := r2_I
theorem r2_fdiv : R2Ok (L2.rI CDivN fun i j => .int (i.fdiv j)) (rI : Rp K Int) (rI : Rp K Int) (rI : Rp K Int) (fun x y P => CDivN x y ∧ P (x.fdiv y)) := r2_I
theorem r2_mod : R2Ok (L2.rI (fun _ j => j ≠ 0) fun i j => .int (i.fmod j)) (rI : Rp K Int) (rI : Rp K Int) (rI : Rp K Int) (fun x y P => y ≠ 0 ∧ P (x.fmod y)) := r2_I
theorem r2_pow : R2Ok (L2.rI CPow fun i j => .int (i ^ j.toNat)) (rI : Rp K Int) (rI : Rp K Int) (rI : Rp K Int) (fun x y P => CPow x y ∧ P (x ^ y.toNat)) := r2_I
theorem r2_shr : R2Ok (L2.rI (fun _ j => 0 ≤ j) fun i j => .int (i / 2 ^ j.toNat)) (rI : Rp K Int) (rI : Rp K Int) (rI : Rp K Int) (fun x y P => 0 ≤ y ∧ P (x / 2 ^ y.toNat)) := r2_I
theorem r2_lt : R2Ok (rI0 fun i j => .bl (decide (i < j))) (rI : Rp K Int) (rI : Rp K Int) (rB : Rp K Bool) (fun x y P => P (decide (x < y))) := r2_B0
theorem r2_le : R2Ok (rI0 fun i j => .bl (decide (i ≤ j))) (rI : Rp K Int) (rI : Rp K Int) (rB : Rp K Bool) (fun x y P => P (decide (x ≤ y))) := r2_B0
theorem r2_gt : R2Ok (rI0 fun i j => .bl (decide (j < i))) (rI : Rp K Int) (rI : Rp K Int) (rB : Rp K Bool) (fun x y P => P (decide (y < x))) := r2_B0
theorem r2_ge : R2Ok (rI0 fun i j => .bl (decide (j ≤ i))) (rI : Rp K Int) (rI : Rp K Int) (rB : Rp K Bool) (fun x y P => P (decide (y ≤ x))) := r2_B0
theorem r1_neg : R1Ok (L2.rU fun i => .int (-i)) (rI : Rp K Int) (rI : Rp K Int) (fun x P => P (-x)) := fun G H v x P Q s h p k => ⟨x, h, k G H _ _ (Step.refl s) p rfl⟩
/-- is None -/
def Nn (R : Rp K α) : Prop := ∀ (G : Hp) (v : V) (x : α), R.ok G v x → v ≠ .non
theorem nn_I : Nn (rI : Rp K Int) := fun G v x h z => by rw [show v = V.int x from h] at z; cases z
theorem nn_B : Nn (rB : Rp K Bool) := fun G v x h z => by rw [show v = V.bl x from h] at z; cases z
theorem nn_S : Nn (rS : Rp K Str) := fun G v x h z => by rw [show v = V.str x from h] at z; cases z
theorem nn_L {R : Rp K α} : Nn (rL R) := fun G v x ⟨a, vs, h, _⟩ z => by rw [h] at z; cases z
theorem nn_U {R : Rp K α} : Nn (rU R) := fun G v x ⟨a, vs, h, _⟩ z => by rw [h] at z; cases z
theorem nn_T {F : Fs K α} : Nn (rT F) := fun G v x ⟨a, vs, h, _⟩ z => by rw [h] at z; cases z
theorem r2_isN {R : Rp K α} (hn : Nn R) : R2Ok (fun x y H Q => y = .non ∧ Q (.bl (decide (x = .non))) H) (rO R) (rN : Rp K Unit) (rB : Rp K Bool) (fun o _ P => P o.isNone) := fun G H v u x y P Q s h1 h2 p k => by
  refine ⟨h2, ?_⟩
  cases x with
  | none => rw [show v = V.non from h1, decide_eq_true rfl]; exact k G H _ true (Step.refl s) p rfl
  | some x => rw [decide_eq_false (hn G v x h1)]; exact k G H _ false (Step.refl s) p rfl
theorem r2_notN {R : Rp K α} (hn : Nn R) : R2Ok (fun x y H Q => y = .non ∧ Q (.bl (!decide (x = .non))) H) (rO R) (rN : Rp K Unit) (rB : Rp K Bool) (fun o _ P => P o.isSome) := fun G H v u x y P Q s h1 h2 p k => by
  refine ⟨h2, ?_⟩
  cases x with
  | none => rw [show v = V.non from h1, decide_eq_true rfl]; exact k G H _ false (Step.refl s) p rfl
  | some x => rw [decide_eq_false (hn G v x h1)]; exact k G H _ true (Step.refl s) p rfl
/-! ### items -/
theorem atI_pair {F : V → α → Prop} {vs : List V} {xs : List α} {i : Int} {x : α} (p : Paired F vs xs) (h : atI xs i = some x) : ∃ v, atI vs i = some v ∧ F v x := by
  unfold atI at h ⊢
  rw [paired_len p]
  cases q : ixN xs.length i with
  | none => rw [q] at h; cases h
  | some j =>
    rw [q] at h
    obtain ⟨v, e, r⟩ := paired_get p (show xs[j]? = some x from h)
    exact ⟨v, e, r⟩
theorem r2_ixL {R : Rp K α} : R2Ok (rIxL K) (rL R) (rI : Rp K Int) R (fun xs i P => ∃ x, atI xs i = some x ∧ P x) := fun G H v u xs i P Q s ⟨a, vs, h1, h2, h3, _⟩ h4 ⟨x, hx, p⟩ k => by
  obtain ⟨w, e, r⟩ := atI_pair h3 hx
  exact ⟨a, vs, i, w, h1, h4, Same.seq s h2, e, k G H w x (Step.refl s) p r⟩
theorem r2_ixU {R : Rp K α} : R2Ok (rIxT K) (rU R) (rI : Rp K Int) R (fun xs i P => ∃ x, atI xs i = some x ∧ P x) := fun G H v u xs i P Q s ⟨a, vs, h1, h2, h3, _⟩ h4 ⟨x, hx, p⟩ k => by
  obtain ⟨w, e, r⟩ := atI_pair h3 hx
  exact ⟨a, vs, i, w, h1, h4, same_t s h2, e, k G H w x (Step.refl s) p r⟩
/-- the place j of a row of fixed places -/
structure FsAt (F : Fs K α) (j : Nat) (R : Rp K β) (g : α → β) : Prop where
  get : ∀ (G : Hp) (vs : List V) (x : α), F.ok G vs x → ∃ v, vs[j]? = some v ∧ R.ok G v (g x)
theorem fsAt_1 {R : Rp K α} : FsAt (fs1 R) 0 R (fun x => x) := ⟨fun G vs x ⟨v, h, r⟩ => ⟨v, by rw [h]; rfl, r⟩⟩
theorem fsAt_0 {R : Rp K α} {F : Fs K β} : FsAt (fsC R F) 0 R (fun x => x.1) := ⟨fun G vs x ⟨v, r, h, q, _⟩ => ⟨v, by rw [h]; rfl, q⟩⟩
theorem fsAt_s {γ : Type} {R : Rp K α} {F : Fs K β} {j : Nat} {R' : Rp K γ} {g : β → γ} (h : FsAt F j R' g) : FsAt (fsC R F) (j + 1) R' (fun x => g x.2) := ⟨fun G vs x ⟨v, r, h1, _, z⟩ => by
  obtain ⟨u, e, q⟩ := h.get G r x.2 z
  exact ⟨u, by rw [h1]; exact e, q⟩⟩
theorem r2_ixF {F : Fs K α} {j : Nat} {R : Rp K β} {g : α → β} (h : FsAt F j R g) : R2Ok (rIxT K) (rT F) (rI : Rp K Int) R (fun x i P => i = (j : Int) ∧ P (g x)) := fun G H v u x i P Q s ⟨a, vs, h1, h2, h3⟩ h4 ⟨hi, p⟩ k => by
  obtain ⟨w, e, r⟩ := h.get G vs x h3
  exact ⟨a, vs, i, w, h1, h4, same_t s h2, by rw [hi]; exact atI_nat e, k G H w _ (Step.refl s) p r⟩
/-! ### in, of flat things -/
structure FlatR (R : Rp K α) [DecidableEq α] : Prop where
  flat : ∀ (G : Hp) (v : V) (x : α), R.ok G v x → flatV v = true
  eq : ∀ (G : Hp) (v u : V) (x y : α), R.ok G v x → R.ok G u y → eqV u v = decide (x = y)
theorem flat_I : FlatR (rI : Rp K Int) := ⟨fun G v x h => by rw [show v = V.int x from h]; rfl, fun G v u x y h1 h2 => by
  rw [show v = V.int x from h1, show u = V.int y from h2]
  show (y == x) = decide (x = y)
  by_cases e : x = y
  · subst e; simp
  · rw [decide_eq_false e]; exact beq_eq_false_iff_ne.mpr fun z => e z.symm⟩
theorem flat_S : FlatR (rS : Rp K Str) := ⟨fun G v x h => by rw [show v = V.str x from h]; rfl, fun G v u x y h1 h2 => by
  rw [show v = V.str x from h1, show u = V.str y from h2]
  show decide (y = x) = decide (x = y)
  by_cases e : x = y
  · subst e; rfl
  · rw [decide_eq_false e, decide_eq_false fun z => e z.symm]⟩
theorem inV_of [DecidableEq α] {R : Rp K α} (f : FlatR R) {G : Hp} {v : V} {x : α} (h : R.ok G v x) : ∀ {vs : List V} {xs : List α}, Paired (R.ok G) vs xs → vs.all flatV = true ∧ inV v vs = decide (x ∈ xs)
  | _, _, .nil => ⟨rfl, by simp [inV]⟩
  | _, _, .cons (a := u) (b := y) (l₁ := vs) (l₂ := xs) r t => by
    obtain ⟨h1, h2⟩ := inV_of f h t
    refine ⟨by rw [List.all_cons, f.flat _ _ _ r, h1]; rfl, ?_⟩
    show (eqV u v || inV v vs) = _
    rw [h2, f.eq _ _ _ _ _ h r]
    by_cases e : x = y
    · simp [e]
    · simp [e]
theorem r2_inL [DecidableEq α] {R : Rp K α} (f : FlatR R) : R2Ok (rIn K false) R (rL R) (rB : Rp K Bool) (fun x xs P => P (decide (x ∈ xs))) := fun G H v u x xs P Q s h1 ⟨a, vs, h2, h3, h4, _⟩ p k => by
  obtain ⟨e1, e2⟩ := inV_of f h1 h4
  exact ⟨a, vs, h2, .inl (Same.seq s h3), f.flat _ _ _ h1, e1, k G H _ _ (Step.refl s) p (by show V.bl _ = _; rw [e2]; rfl)⟩
theorem r2_ninL [DecidableEq α] {R : Rp K α} (f : FlatR R) : R2Ok (rIn K true) R (rL R) (rB : Rp K Bool) (fun x xs P => P (!decide (x ∈ xs))) := fun G H v u x xs P Q s h1 ⟨a, vs, h2, h3, h4, _⟩ p k => by
  obtain ⟨e1, e2⟩ := inV_of f h1 h4
  exact ⟨a, vs, h2, .inl (Same.seq s h3), f.flat _ _ _ h1, e1, k G H _ _ (Step.refl s) p (by show V.bl _ = _; rw [e2]; rfl)⟩
/-! ### == of data -/
structure Eqp (R : Rp K α) where
  enc : α → PyData
  dep : Nat
  dp : ∀ (G : Hp) (v : V) (x : α), R.ok G v x → Dp K G v (enc x)
  pl : ∀ x, (enc x).plain = true
  dle : ∀ x, (enc x).depth ≤ dep
  eqv : ∀ x y, PyData.eqv (enc x) (enc y) = true ↔ x = y
def eqI : Eqp (rI : Rp K Int) := ⟨.int, 0, fun G v x h => by rw [show v = V.int x from h]; exact .int x, fun _ => rfl, fun _ => Nat.le_refl _, fun x y => by simp [PyData.eqv]⟩
def eqB : Eqp (rB : Rp K Bool) := ⟨.bool, 0, fun G v x h => by rw [show v = V.bl x from h]; exact .bl x, fun _ => rfl, fun _ => Nat.le_refl _, fun x y => by simp [PyData.eqv]⟩
def eqS : Eqp (rS : Rp K Str) := ⟨.str, 0, fun G v x h => by rw [show v = V.str x from h]; exact .str x, fun _ => rfl, fun _ => Nat.le_refl _, fun x y => by simp [PyData.eqv]⟩
theorem dpAll_of {R : Rp K α} (e : Eqp R) {G : Hp} : ∀ {vs : List V} {xs : List α}, Paired (R.ok G) vs xs → DpAll K G vs (xs.map e.enc)
  | _, _, .nil => .nil
  | _, _, .cons r t => .cons (e.dp _ _ _ r) (dpAll_of e t)
theorem plainAll_of {R : Rp K α} (e : Eqp R) : ∀ xs : List α, PyData.plainAll (xs.map e.enc) = true
  | [] => rfl
  | x :: xs => by show (PyData.plain _ && PyData.plainAll _) = true; rw [e.pl, plainAll_of e xs]; rfl
theorem depthAll_of {R : Rp K α} (e : Eqp R) : ∀ xs : List α, PyData.depthAll (xs.map e.enc) ≤ e.dep
  | [] => Nat.zero_le _
  | x :: xs => by show max (PyData.depth _) (PyData.depthAll _) ≤ _; exact Nat.max_le.mpr ⟨e.dle x, depthAll_of e xs⟩
theorem eqvAll_of {R : Rp K α} (e : Eqp R) : ∀ xs ys : List α, PyData.eqvAll (xs.map e.enc) (ys.map e.enc) = true ↔ xs = ys
  | [], [] => by simp [PyData.eqvAll]
  | [], _ :: _ => by simp [PyData.eqvAll]
  | _ :: _, [] => by simp [PyData.eqvAll]
  | x :: xs, y :: ys => by
    show (PyData.eqv _ _ && PyData.eqvAll _ _) = true ↔ _
    rw [Bool.and_eq_true, e.eqv, eqvAll_of e xs ys]
    simp
def eqL {R : Rp K α} (e : Eqp R) : Eqp (rL R) := ⟨fun xs => .list (xs.map e.enc), e.dep + 1, fun G v xs ⟨a, vs, h1, h2, h3, _⟩ => by rw [h1]; exact .lst h2 (dpAll_of e h3), fun xs => plainAll_of e xs, fun xs => Nat.succ_le_succ (depthAll_of e xs), fun xs ys => by
  rw [PyData.eqv]; exact eqvAll_of e xs ys⟩
def eqU {R : Rp K α} (e : Eqp R) : Eqp (rU R) := ⟨fun xs => .tuple (xs.map e.enc), e.dep + 1, fun G v xs ⟨a, vs, h1, h2, h3, _⟩ => by rw [h1]; exact .tup h2 (dpAll_of e h3), fun xs => plainAll_of e xs, fun xs => Nat.succ_le_succ (depthAll_of e xs), fun xs ys => by
  rw [PyData.eqv]; exact eqvAll_of e xs ys⟩
/-- None or not: the rest is never None -/
structure EqNn {R : Rp K α} (e : Eqp R) : Prop where
  l : ∀ x, PyData.eqv .none (e.enc x) = false
  r : ∀ x, PyData.eqv (e.enc x) .none = false
theorem enn_I : EqNn (eqI : Eqp (rI : Rp K Int)) := ⟨fun _ => by simp [eqI, PyData.eqv], fun _ => by simp [eqI, PyData.eqv]⟩
theorem enn_S : EqNn (eqS : Eqp (rS : Rp K Str)) := ⟨fun _ => by simp [eqS, PyData.eqv], fun _ => by simp [eqS, PyData.eqv]⟩
theorem enn_L {R : Rp K α} {e : Eqp R} : EqNn (eqL e) := ⟨fun _ => by simp [eqL, PyData.eqv], fun _ => by simp [eqL, PyData.eqv]⟩
def eqO {R : Rp K α} (e : Eqp R) (n : EqNn e) : Eqp (rO R) := ⟨fun o => match o with | none => .none | some x => e.enc x, e.dep, fun G v o h => by
  cases o with
  | none => rw [show v = V.non from h]; exact .non
  | some x => exact e.dp _ _ _ h, fun o => by cases o with | none => rfl | some x => exact e.pl x, fun o => by cases o with | none => exact Nat.zero_le _ | some x => exact e.dle x, fun o o' => by
  cases o with
  | none => cases o' with
    | none => simp [PyData.eqv]
    | some y => simp [n.l]
  | some x => cases o' with
    | none => simp [n.r]
    | some y => simp [e.eqv]⟩
/-- rows of fixed places -/
structure EqF (F : Fs K α) where
  enc : α → List PyData
  dep : Nat
  dp : ∀ (G : Hp) (vs : List V) (x : α), F.ok G vs x → DpAll K G vs (enc x)
  pl : ∀ x, PyData.plainAll (enc x) = true
  dle : ∀ x, PyData.depthAll (enc x) ≤ dep
  eqv : ∀ x y, PyData.eqvAll (enc x) (enc y) = true ↔ x = y
def eqf1 {R : Rp K α} (e : Eqp R) : EqF (fs1 R) := ⟨fun x => [e.enc x], e.dep, fun G vs x ⟨v, h, q⟩ => by rw [h]; exact .cons (e.dp _ _ _ q) .nil, fun x => by show (PyData.plain _ && true) = true; rw [e.pl]; rfl,
  fun x => by show max _ 0 ≤ _; exact Nat.max_le.mpr ⟨e.dle x, Nat.zero_le _⟩, fun x y => by show (PyData.eqv _ _ && true) = true ↔ _; rw [Bool.and_true]; exact e.eqv x y⟩
def eqfC {R : Rp K α} {F : Fs K β} (e : Eqp R) (f : EqF F) : EqF (fsC R F) := ⟨fun x => e.enc x.1 :: f.enc x.2, max e.dep f.dep, fun G vs x ⟨v, r, h, q, z⟩ => by rw [h]; exact .cons (e.dp _ _ _ q) (f.dp _ _ _ z),
  fun x => by show (PyData.plain _ && PyData.plainAll _) = true; rw [e.pl, f.pl]; rfl, fun x => by show max _ _ ≤ _; exact Nat.max_le.mpr ⟨Nat.le_trans (e.dle x.1) (Nat.le_max_left _ _), Nat.le_trans (f.dle x.2) (Nat.le_max_right _ _)⟩,
  fun x y => by
    show (PyData.eqv _ _ && PyData.eqvAll _ _) = true ↔ _
    rw [Bool.and_eq_true, e.eqv, f.eqv]
    exact ⟨fun h => Prod.ext h.1 h.2, fun h => by rw [h]; exact ⟨rfl, rfl⟩⟩⟩
def eqT {F : Fs K α} (f : EqF F) : Eqp (rT F) := ⟨fun x => .tuple (f.enc x), f.dep + 1, fun G v x ⟨a, vs, h1, h2, h3⟩ => by rw [h1]; exact .tup h2 (f.dp _ _ _ h3), fun x => f.pl x, fun x => Nat.succ_le_succ (f.dle x), fun x y => by
  rw [PyData.eqv]; exact f.eqv x y⟩
mutual
theorem Dp.same {H H' : Hp} (e : Same H H') : ∀ {v : V} (d : PyData), Dp K H v d → Dp K H' v d
  | _, .none, h => by cases h; exact .non
  | _, .bool _, h => by cases h; exact .bl _
  | _, .int _, h => by cases h; exact .int _
  | _, .str _, h => by cases h; exact .str _
  | _, .list ds, h => by cases h with | lst h1 h2 => exact .lst (Same.seq e h1) (DpAll.same e ds h2)
  | _, .tuple ds, h => by cases h with | tup h1 h2 => exact .tup (same_t e h1) (DpAll.same e ds h2)
  | _, .dict _, h => by cases h
theorem DpAll.same {H H' : Hp} (e : Same H H') : ∀ {vs : List V} (ds : List PyData), DpAll K H vs ds → DpAll K H' vs ds
  | _, [], h => by cases h; exact .nil
  | _, d :: ds, h => by cases h with | cons h1 h2 => exact .cons (Dp.same e d h1) (DpAll.same e ds h2)
end
def rEqP (K : PySem.W.Frag) : R2 := fun x y H Q => ∃ d e, Dp K H x d ∧ Dp K H y e ∧ d.plain = true ∧ e.plain = true ∧ d.depth ≤ 64 ∧ Q (.bl (PyData.eqv d e)) H
def rNeP (K : PySem.W.Frag) : R2 := fun x y H Q => ∃ d e, Dp K H x d ∧ Dp K H y e ∧ d.plain = true ∧ e.plain = true ∧ d.depth ≤ 64 ∧ Q (.bl (!PyData.eqv d e)) H
theorem r2_eq [DecidableEq α] {R : Rp K α} (e : Eqp R) (hd : e.dep ≤ 64 := by exact Nat.le_of_ble_eq_true rfl) : R2Ok (rEqP K) R R (rB : Rp K Bool) (fun x y P => P (decide (x = y))) := fun G H v u x y P Q s h1 h2 p k =>
  ⟨e.enc x, e.enc y, Dp.same s _ (e.dp _ _ _ h1), Dp.same s _ (e.dp _ _ _ h2), e.pl x, e.pl y, Nat.le_trans (e.dle x) hd, k G H _ _ (Step.refl s) p (by
    show V.bl _ = V.bl _
    congr 1
    rw [Bool.eq_iff_iff, e.eqv, decide_eq_true_iff])⟩
theorem r2_ne [DecidableEq α] {R : Rp K α} (e : Eqp R) (hd : e.dep ≤ 64 := by exact Nat.le_of_ble_eq_true rfl) : R2Ok (rNeP K) R R (rB : Rp K Bool) (fun x y P => P (!decide (x = y))) := fun G H v u x y P Q s h1 h2 p k =>
  ⟨e.enc x, e.enc y, Dp.same s _ (e.dp _ _ _ h1), Dp.same s _ (e.dp _ _ _ h2), e.pl x, e.pl y, Nat.le_trans (e.dle x) hd, k G H _ _ (Step.refl s) p (by
    show V.bl (!_) = V.bl (!_)
    congr 2
    rw [Bool.eq_iff_iff, e.eqv, decide_eq_true_iff])⟩
end
section
variable {X : Cx} {K : PySem.W.Frag} [HK X K]
theorem op_eqP (hu : X.A.units + 64 < cLine) : OpR X (compareOp .Eq) (rEqP X.K) := by
  intro pins s σ H x y v u Q I rx ry h
  obtain ⟨d, e, hd, he, sd, se, dd, q⟩ := h
  obtain ⟨as, r1⟩ := Dp.reads I d x v hd rx
  obtain ⟨bs, r2⟩ := Dp.reads I e y u he ry
  exact PySem.SeqAt.eq_plain r1 r2 sd se (by have := Nat.min_le_left d.depth e.depth; omega) ⟨.bl _, H, I, rfl, q⟩
theorem op_neP (hu : X.A.units + 64 < cLine) : OpR X (compareOp .NotEq) (rNeP X.K) := by
  intro pins s σ H x y v u Q I rx ry h
  obtain ⟨d, e, hd, he, sd, se, dd, q⟩ := h
  obtain ⟨as, r1⟩ := Dp.reads I d x v hd rx
  obtain ⟨bs, r2⟩ := Dp.reads I e y u he ry
  exact PySem.SeqAt.ne_plain r1 r2 sd se (by have := Nat.min_le_left d.depth e.depth; omega) ⟨.bl _, H, I, rfl, q⟩
end
/-! ### built-in calls -/
section
variable {K : PySem.W.Frag} {α β : Type}
theorem rc_len {R : Rp K α} : RCOk (fun xs H Q => ∃ p ys, xs = [.ref p] ∧ (SqL K H p ys ∨ SqT K H p ys) ∧ Q (.int ys.length) H) (fs1 (rL R)) (rI : Rp K Int) (fun xs P => xs.length ≤ sizeLine → P (xs.length : Int)) := fun G H vs x P Q s ⟨v, h, a, us, h1, h2, h3, h4⟩ p k => by
  subst h; subst h1
  exact ⟨a, us, rfl, .inl (Same.seq s h2), k G H _ _ (Step.refl s) (p (by rw [← paired_len h3]; exact h4)) (by rw [paired_len h3]; rfl)⟩
theorem rc_lenU {R : Rp K α} : RCOk (fun xs H Q => ∃ p ys, xs = [.ref p] ∧ (SqL K H p ys ∨ SqT K H p ys) ∧ Q (.int ys.length) H) (fs1 (rU R)) (rI : Rp K Int) (fun xs P => xs.length ≤ sizeLine → P (xs.length : Int)) := fun G H vs x P Q s ⟨v, h, a, us, h1, h2, h3, h4⟩ p k => by
  subst h; subst h1
  exact ⟨a, us, rfl, .inr (same_t s h2), k G H _ _ (Step.refl s) (p (by rw [← paired_len h3]; exact h4)) (by rw [paired_len h3]; rfl)⟩
theorem rc_max2 : RCOk (fun xs H Q => ∃ i j, xs = [.int i, .int j] ∧ Q (.int (if j > i then j else i)) H) (fsC (rI : Rp K Int) (fs1 rI)) (rI : Rp K Int) (fun q P => P (max q.1 q.2)) := fun G H vs x P Q s ⟨v, r, h1, h2, u, h3, h4⟩ p k => by
  have e1 : v = V.int x.1 := h2
  have e2 : u = V.int x.2 := h4
  subst h3 e1 e2; subst h1
  refine ⟨x.1, x.2, rfl, ?_⟩
  have e : (if x.2 > x.1 then x.2 else x.1) = max x.1 x.2 := by split <;> omega
  rw [e]
  exact k G H _ _ (Step.refl s) p rfl
theorem rc_min2 : RCOk (fun xs H Q => ∃ i j, xs = [.int i, .int j] ∧ Q (.int (if j < i then j else i)) H) (fsC (rI : Rp K Int) (fs1 rI)) (rI : Rp K Int) (fun q P => P (min q.1 q.2)) := fun G H vs x P Q s ⟨v, r, h1, h2, u, h3, h4⟩ p k => by
  have e1 : v = V.int x.1 := h2
  have e2 : u = V.int x.2 := h4
  subst h3 e1 e2; subst h1
  refine ⟨x.1, x.2, rfl, ?_⟩
  have e : (if x.2 < x.1 then x.2 else x.1) = min x.1 x.2 := by split <;> omega
  rw [e]
  exact k G H _ _ (Step.refl s) p rfl
theorem rc_int : RCOk (fun xs H Q => (∃ i, xs = [.int i] ∧ Q (.int i) H) ∨ ∃ k, xs = [.bl k] ∧ Q (.int (if k then 1 else 0)) H) (fs1 (rI : Rp K Int)) (rI : Rp K Int) (fun x P => P x) := fun G H vs x P Q s ⟨v, h, q⟩ p k => by
  have e : v = V.int x := q
  subst e
  exact .inl ⟨x, h, k G H _ _ (Step.refl s) p rfl⟩
theorem rc_strI : RCOk (fun xs H Q => ∃ i, xs = [.int i] ∧ i.natAbs.log2 < 1920 ∧ Q (.str (toString i)) H) (fs1 (rI : Rp K Int)) (rS : Rp K Str) (fun x P => x.natAbs.log2 < 1920 ∧ P (toString x)) := fun G H vs x P Q s ⟨v, h, q⟩ p k => by
  have e : v = V.int x := q
  subst e
  exact ⟨x, h, p.1, k G H _ _ (Step.refl s) p.2 rfl⟩
theorem bls_of {G : Hp} : ∀ {us : List V} {bs : List Bool}, Paired ((rB : Rp K Bool).ok G) us bs → us = bs.map V.bl
  | _, _, .nil => rfl
  | _, _, .cons (a := u) (b := b) r t => by rw [List.map_cons, ← bls_of t, show u = V.bl b from r]
theorem rc_all : RCOk (rAll K) (fs1 (rL (rB : Rp K Bool))) (rB : Rp K Bool) (fun bs P => P (bs.all id)) := fun G H vs bs P Q s ⟨v, h, a, us, h1, h2, h3, h4⟩ p k => by
  have e : us = bs.map V.bl := bls_of h3
  subst h; subst h1; subst e
  exact ⟨a, bs, rfl, Same.seq s h2, k G H _ _ (Step.refl s) p rfl⟩
theorem rc_any : RCOk (rAny K) (fs1 (rL (rB : Rp K Bool))) (rB : Rp K Bool) (fun bs P => P (bs.any id)) := fun G H vs bs P Q s ⟨v, h, a, us, h1, h2, h3, h4⟩ p k => by
  have e : us = bs.map V.bl := bls_of h3
  subst h; subst h1; subst e
  exact ⟨a, bs, rfl, Same.seq s h2, k G H _ _ (Step.refl s) p rfl⟩
/-- list(xs) -/
theorem rcl_list {R : Rp K α} : RCL (fun xs H Q => ∃ p ys, xs = [.ref p] ∧ (SqL K H p ys ∨ SqT K H p ys) ∧ ∀ l, H l = none → Q (.ref l) (upd H l (.lst ys))) (fs1 (rL R)) R (fun xs P => P xs) := fun G H vs xs P Q s ⟨v, h, a, us, h1, h2, h3, h4⟩ p k => by
  subst h; subst h1
  exact ⟨a, us, rfl, .inl (Same.seq s h2), fun l hl => k _ l us xs (Step.lay s hl) p hl upd_same h3 h4⟩
theorem rcl_listU {R : Rp K α} : RCL (fun xs H Q => ∃ p ys, xs = [.ref p] ∧ (SqL K H p ys ∨ SqT K H p ys) ∧ ∀ l, H l = none → Q (.ref l) (upd H l (.lst ys))) (fs1 (rU R)) R (fun xs P => P xs) := fun G H vs xs P Q s ⟨v, h, a, us, h1, h2, h3, h4⟩ p k => by
  subst h; subst h1
  exact ⟨a, us, rfl, .inr (same_t s h2), fun l hl => k _ l us xs (Step.lay s hl) p hl upd_same h3 h4⟩
/-- t + u of tuples of any length -/
theorem r2_catU {R : Rp K α} : R2Ok (rCatA K) (rU R) (rU R) (rU R) (fun xs ys P => xs.length + ys.length ≤ sizeLine ∧ P (xs ++ ys)) := fun G H v u xs ys P Q s ⟨a, vs, h1, h2, h3, h4⟩ ⟨b, us, g1, g2, g3, g4⟩ ⟨hz, p⟩ k => by
  have hz' : vs.length + us.length ≤ sizeLine := by rw [paired_len h3, paired_len g3]; exact hz
  have pr := paired_app h3 g3
  refine ⟨a, b, vs, us, h1, g1, same_t s h2, same_t s g2, hz', fun e => ?_, fun e1 e2 => ?_, fun e1 e2 q hq => ?_⟩
  · subst e
    cases h3
    exact k G H _ _ (Step.refl s) p ⟨b, us, rfl, g2, g3, g4⟩
  · subst e2
    cases g3
    rw [List.append_nil] at p
    exact k G H _ _ (Step.refl s) p ⟨a, vs, rfl, h2, h3, h4⟩
  · have s2 := Step.new (M := []) (o := .tup (vs ++ us)) s hq
    exact k _ _ _ _ s2 p ⟨q, vs ++ us, rfl, SqT.of upd_same, paired_mono (fun _ _ z => R.mono s2.gg z) pr, by rw [List.length_append]; exact hz'⟩
end
end SS

set_option Elab.async false
set_option linter.all false
set_option maxRecDepth 100000
/-! SSF: own rules: lists of one's own that change, fields, instances, calls of defs, the def. Own work. -/
namespace SS
open PySem PySem.Spec L2

/-! ### lists of one's own -/
section
variable {X : Cx} {K : PySem.W.Frag} [HK X K] {τ ℓ α β γ : Type} {ρ : List (En K)} {post : τ → List (En K)} {lp : ℓ → List (En K)} {R : Rp K β} {rest : List Stmt} {pos : Pos} {e : Expr}
theorem own_get {i : Nat} {p : Addr} {Ra : Rp K α} {xs : List α} (h : ρ[i]? = some (.own p Ra xs)) {G H : Hp} {σ : L2.St} (ev : EnvOk ρ G H σ) :
    σ[i]? = some (some (.ref p)) ∧ G p = none ∧ (∃ vs, H p = some (.lst vs) ∧ Paired (Ra.ok G) vs xs ∧ vs.length ≤ sizeLine) ∧ p ∈ adrs ρ := by
  obtain ⟨o, ho, e1, n1, vs, h1, h2, h3⟩ := ev.ok i _ h
  subst e1
  exact ⟨ho, n1, ⟨vs, h1, h2, h3⟩, adrs_mem h (by simp [En.adr])⟩
theorem own_pl {i : Nat} {p : Addr} {Ra : Rp K α} {xs : List α} (h : ρ[i]? = some (.own p Ra xs)) : (ρ.getD i .off).pl = [] := by
  have e : ρ.getD i .off = .own p Ra xs := by rw [List.getD_eq_getElem?_getD, h]; rfl
  rw [e]; rfl
/-- the list at p becomes ys -/
theorem own_put {i : Nat} {p : Addr} {Ra : Rp K α} {xs ys : List α} (h : ρ[i]? = some (.own p Ra xs)) {G H : Hp} {σ : L2.St} (ev : EnvOk ρ G H σ) (s : Same G H) {us : List V} (pr : Paired (Ra.ok G) us ys) (hz : us.length ≤ sizeLine) :
    Step (adrs ρ) G H G (upd H p (.lst us)) ∧ EnvOk (ρ.set i (.own p Ra ys)) G (upd H p (.lst us)) σ := by
  obtain ⟨ho, n1, ⟨vs, h1, _, _⟩, hm⟩ := own_get h ev
  have s1 : Step [p] G H G (upd H p (.lst us)) := Step.put s (by simp) n1
  refine ⟨s1.wide fun a ha => by rw [mem1 ha]; exact hm, ⟨by rw [List.length_set, ev.len], fun j e' hj => ?_, (nodup_same (e' := .own p Ra ys) ev.nd h (.inl rfl)).1⟩⟩
  by_cases hij : i = j
  · subst hij
    rw [List.getElem?_set_self (List.getElem?_eq_some_iff.mp h).1] at hj
    cases hj
    exact ⟨_, ho, rfl, n1, us, upd_same, pr, hz⟩
  · rw [List.getElem?_set_ne hij] at hj
    obtain ⟨o', ho', q⟩ := ev.ok j e' hj
    exact ⟨o', ho', En.step q s1 fun a ha z => nodup_apart ev.nd h hj hij (by rw [mem1 z]; simp [En.adr]) ha⟩
theorem own_cts {D : Ends} {P : Out τ ℓ β → Prop} {i : Nat} {p : Addr} {Ra : Rp K α} {xs ys : List α} {G H G' H' : Hp} (c : Cts D post lp R P ρ G H) (st : Step (adrs ρ) G H G' H') (h : ρ[i]? = some (.own p Ra xs)) :
    Cts D post lp R P (ρ.set i (.own p Ra ys)) G' H' :=
  c.step st (fun b hb => (adrs_set hb).elim .inl fun z => .inl (adrs_mem h z)) fun q hq => pls_set (own_pl h) hq
/-- x.append(e) -/
theorem b_app {i : Nat} {nm : Str} {pn ap cp : Pos} {p : Addr} {Ra : Rp K α} {xs : List α} {w : W α} {m : α → W (Out τ ℓ β)} (hv : PE X (.Name nm pn) (tVar i)) (ho : ρ[i]? = some (.own p Ra xs)) (h : PE X e (TEx ρ Ra w))
    (hr : ∀ a, PSs X rest (TBO (ρ.set i (.own p Ra (xs ++ [a]))) post lp R (m a)))
    (hbase : attributeBase (.Name nm pn) "append" X.env (eval (.Name nm pn) X.env) = eval (.Name nm pn) X.env := by rfl)
    (hfew : ((backTo cp (starEach [e] X.env)).all (fun x => !x.1) && (backToKw cp (keywordEach [] X.env)).all (fun x => x.1.isSome)
      && decide ([e].length + ([] : List Keyword).length + (if ([] : List Keyword).isEmpty then 0 else 1) < 30)) = true := by rfl)
    (hline : (ap.endLine == cp.line) = true := by rfl) (hs : starEach [e] X.env = (false, eval e X.env) :: starEach [] X.env := by rfl) (hplain : (backTo cp (starEach [] X.env)).any (·.1) = false := by rfl)
    (hsw : swapsWith (.Call (.Attribute (.Name nm pn) "append" ap) [e] [] cp) none pos.line X.env = pure false := by rfl) :
    PSs X (.Expr (.Call (.Attribute (.Name nm pn) "append" ap) [e] [] cp) pos :: rest) (TBO ρ post lp R fun P => w fun a => (xs.length ≤ sizeLine → xs.length < sizeLine) ∧ m a P) := by
  refine pss_imp (pss_cons (ps_expr (pe_bm PySem.F.plainAttrs_list PySem.F.slot_list_append PySem.F.type_list_append mt_append hv (pa_cons h pa_nil hs) hbase hfew hline hs hplain) hsw) (pss_fam hr)) fun D σ H ⟨G, P, s, ev, pp, c⟩ => ?_
  obtain ⟨hσ, n1, ⟨vs, h1, h2, h3⟩, hm⟩ := own_get ho ev
  refine ⟨.ref p, hσ, .inl ⟨rfl, vs, SqL.of h1⟩, G, _, s, ev, pp, fun G1 H1 v a st e1 pa ra => ?_⟩
  obtain ⟨_, _, ⟨vs1, k1, k2, k3⟩, _⟩ := own_get ho e1
  obtain ⟨s2, e2⟩ := own_put ho e1 st.gh (paired_app k2 (.cons ra .nil)) (by have := pa.1 (by rw [← paired_len k2]; exact k3); rw [List.length_append, paired_len k2]; exact this)
  exact ⟨p, vs1, v, rfl, rfl, k1, by rw [paired_len k2]; exact pa.1 (by rw [← paired_len k2]; exact k3), a, G1, P, s2.gh, e2, pa.2, own_cts c ((st.wide fun a ha => padr_sub ha).trans s2) ho⟩
/-- x.extend(e), e a new list -/
theorem b_ext {i : Nat} {nm : Str} {pn ap cp : Pos} {p : Addr} {Ra : Rp K α} {xs : List α} {w : W (List α)} {m : List α → W (Out τ ℓ β)} (hv : PE X (.Name nm pn) (tVar i)) (ho : ρ[i]? = some (.own p Ra xs)) (h : PE X e (TEL ρ Ra w))
    (hr : ∀ ys, PSs X rest (TBO (ρ.set i (.own p Ra (xs ++ ys))) post lp R (m ys)))
    (hbase : attributeBase (.Name nm pn) "extend" X.env (eval (.Name nm pn) X.env) = eval (.Name nm pn) X.env := by rfl)
    (hfew : ((backTo cp (starEach [e] X.env)).all (fun x => !x.1) && (backToKw cp (keywordEach [] X.env)).all (fun x => x.1.isSome)
      && decide ([e].length + ([] : List Keyword).length + (if ([] : List Keyword).isEmpty then 0 else 1) < 30)) = true := by rfl)
    (hline : (ap.endLine == cp.line) = true := by rfl) (hs : starEach [e] X.env = (false, eval e X.env) :: starEach [] X.env := by rfl) (hplain : (backTo cp (starEach [] X.env)).any (·.1) = false := by rfl)
    (hsw : swapsWith (.Call (.Attribute (.Name nm pn) "extend" ap) [e] [] cp) none pos.line X.env = pure false := by rfl) :
    PSs X (.Expr (.Call (.Attribute (.Name nm pn) "extend" ap) [e] [] cp) pos :: rest) (TBO ρ post lp R fun P => w fun ys => xs.length + ys.length ≤ sizeLine ∧ m ys P) := by
  refine pss_imp (pss_cons (ps_expr (pe_bm PySem.F.plainAttrs_list PySem.F.slot_list_extend PySem.F.type_list_extend mt_extend hv (pa_cons h pa_nil hs) hbase hfew hline hs hplain) hsw) (pss_fam hr)) fun D σ H ⟨G, P, s, ev, pp, c⟩ => ?_
  obtain ⟨hσ, n1, ⟨vs, h1, h2, h3⟩, hm⟩ := own_get ho ev
  refine ⟨.ref p, hσ, .inl ⟨rfl, vs, SqL.of h1⟩, G, _, s, ev, pp, fun G1 H1 q us ys st e1 pa q1 q2 hq pr hz => ?_⟩
  obtain ⟨_, _, ⟨vs1, k1, k2, k3⟩, _⟩ := own_get ho e1
  have hl : vs1.length + us.length ≤ sizeLine := by rw [paired_len k2, paired_len pr]; exact pa.1
  obtain ⟨s2, e2⟩ := own_put ho e1 st.gh (paired_app k2 pr) (by rw [List.length_append]; exact hl)
  exact ⟨p, q, vs1, us, rfl, rfl, k1, hq, hl, ys, G1, P, s2.gh, e2, pa.2, own_cts c ((st.wide fun a ha => padr_sub ha).trans s2) ho⟩
/-- x[j] = e -/
theorem b_seti {i : Nat} {nm : Str} {pn sp : Pos} {ej : Expr} {p : Addr} {Ra : Rp K α} {xs : List α} {w : W α} {wj : W Int} {m : Nat → α → W (Out τ ℓ β)} (hv : PE X (.Name nm pn) (tVar i)) (ho : ρ[i]? = some (.own p Ra xs)) (h : PE X e (TEx ρ Ra w)) (hj : PE X ej (TEx ρ rI wj))
    (hr : ∀ (k : Nat) (z : α), PSs X rest (TBO (ρ.set i (.own p Ra (xs.set k z))) post lp R (m k z)))
    (ha : ∀ v, assign (.Subscript (.Name nm pn) ej sp) X.env v = (do
      let ov ← holding [v] (eval (.Name nm pn) X.env)
      let iv ← holding [v, ov] (eval ej X.env)
      standAt sp
      holding [v, ov, iv] (setItem ov iv v)
      release [v, ov, iv] []) := by intro _; rfl)
    (hs : swapsWithSole [.Subscript (.Name nm pn) ej sp] e pos.line X.env = pure false := by rfl) (hw : swappedStores [.Subscript (.Name nm pn) ej sp] e X.env = pure none := by rfl) (h1 : (assignEach [.Subscript (.Name nm pn) ej sp] X.env).map (·.2) = [assign (.Subscript (.Name nm pn) ej sp) X.env] := by rfl) :
    PSs X (.Assign [.Subscript (.Name nm pn) ej sp] e pos :: rest) (TBO ρ post lp R fun P => w fun a => wj fun z => ∃ k, ixN xs.length z = some k ∧ m k a P) := by
  refine pss_imp (pss_cons (ps_asg h (pg_sub hv hj set_list ha) hs hw h1) (pss_fam fun q : Nat × α => hr q.1 q.2)) fun D σ H ⟨G, P, s, ev, pp, c⟩ => ⟨G, _, s, ev, pp, fun G1 H1 v a st e1 pa ra => ?_⟩
  obtain ⟨hσ, n1, _, hm⟩ := own_get ho e1
  refine ⟨.ref p, hσ, G1, _, st.gh, e1, pa, fun G2 H2 u z st2 e2 pz rz => ?_⟩
  obtain ⟨_, _, ⟨vs1, k1, k2, k3⟩, _⟩ := own_get ho e2
  have rz' : u = V.int z := rz
  subst rz'
  obtain ⟨k, hk, pk⟩ := pz
  obtain ⟨s3, e3⟩ := own_put ho e2 st2.gh (paired_set (Ra.mono st2.gg ra) k k2) (by rw [List.length_set]; exact k3)
  exact ⟨p, vs1, z, k, rfl, rfl, k1, by rw [paired_len k2]; exact hk, (k, a), G2, P, s3.gh, e3, pk, own_cts c (((st.trans st2).wide fun a ha => padr_sub ha).trans s3) ho⟩
/-! reading one's own list: items, length -/
theorem pr_ownix {i : Nat} {nm : Str} {pn : Pos} {p : Addr} {Ra : Rp K α} {xs : List α} {wj : W Int} {ej : Expr} (hv : PE X (.Name nm pn) (tVar i)) (ho : ρ[i]? = some (.own p Ra xs)) (hj : PE X ej (TEx ρ rI wj)) (hs : PlainIx ej := by exact fun _ _ => rfl) :
    PE X (.Subscript (.Name nm pn) ej pos) (TEx ρ Ra fun P => wj fun z => ∃ x, atI xs z = some x ∧ P x) := by
  refine pe_imp (pe_ix ix_list hv hj hs) fun σ H Q ⟨G, P, s, ev, pp, c⟩ => ?_
  obtain ⟨hσ, _⟩ := own_get ho ev
  refine ⟨.ref p, hσ, G, _, s, ev, pp, fun G1 H1 v z st e1 pz rz => ?_⟩
  obtain ⟨_, _, ⟨vs1, k1, k2, k3⟩, _⟩ := own_get ho e1
  obtain ⟨x, hx, px⟩ := pz
  obtain ⟨u, hu, ru⟩ := atI_pair k2 hx
  exact ⟨p, vs1, z, u, rfl, rz, SqL.of k1, hu, c G1 H1 u x st e1 px ru⟩
/-- an own list, read as if frozen, where the answer holds nothing of it -/
def hide {K : PySem.W.Frag} : En K → En K
  | .pool _ _ => .off
  | e => e
def Flat {K : PySem.W.Frag} {α : Type} (R : Rp K α) : Prop := ∀ (G G' : Hp) (v : V) (x : α), R.ok G v x → R.ok G' v x
theorem hide_pls {K : PySem.W.Frag} (ρ : List (En K)) : pls (ρ.map hide) = [] := by
  induction ρ with
  | nil => rfl
  | cons e r ih => show (hide e).pl ++ pls (r.map hide) = []; rw [ih]; cases e <;> rfl
theorem hide_adrs {K : PySem.W.Frag} (ρ : List (En K)) : (adrs (ρ.map hide)).Sublist (adrs ρ) := by
  induction ρ with
  | nil => exact List.Sublist.refl _
  | cons e r ih =>
    show ((hide e).adr ++ adrs (r.map hide)).Sublist (e.adr ++ adrs r)
    cases e with
    | pool p g => exact ih.trans (List.sublist_append_right _ _)
    | _ => exact List.Sublist.append (List.Sublist.refl _) ih
theorem pls_setoff {K : PySem.W.Frag} {ρ : List (En K)} {i : Nat} {e : En K} (h : pls ρ = []) (he : e.pl = []) : pls (ρ.set i e) = [] := by
  induction ρ generalizing i with
  | nil => exact h
  | cons x r ih =>
    have h' : x.pl = [] ∧ pls r = [] := List.append_eq_nil_iff.mp h
    cases i with
    | zero => show e.pl ++ pls r = []; rw [he, h'.2]; rfl
    | succ i => show x.pl ++ pls (r.set i e) = []; rw [h'.1, ih h'.2]; rfl
theorem pr_thaw {i : Nat} {p : Addr} {Ra : Rp K α} {xs : List α} {Rb : Rp K γ} {w : W γ} (ho : ρ[i]? = some (.own p Ra xs)) (hf : Flat Rb) (h : PE X e (TEx ((ρ.map hide).set i (.fr (rL Ra) xs)) Rb w)) : PE X e (TEx ρ Rb w) := by
  refine pe_imp h fun σ H Q ⟨G, P, s, ev, pp, c⟩ => ?_
  obtain ⟨hσ, n1, ⟨vs, h1, h2, h3⟩, hm⟩ := own_get ho ev
  have s1 : Step [p] G H (upd G p (.lst vs)) H := Step.freeze s (by simp) n1 h1
  have hpl : pls ((ρ.map hide).set i (.fr (rL Ra) xs : En K)) = [] := pls_setoff (hide_pls ρ) rfl
  have nd0 : (adrs (ρ.map hide)).Nodup := ev.nd.sublist (hide_adrs ρ)
  refine ⟨upd G p (.lst vs), P, s1.gh, ⟨by simp [ev.len], fun j e' hj => ?_, (nodup_fr nd0 rfl).1⟩, pp, fun G' H' v b st e' pb rb => ?_⟩
  · by_cases hij : i = j
    · subst hij
      have hl : i < (ρ.map hide).length := by rw [List.length_map]; exact (List.getElem?_eq_some_iff.mp ho).1
      rw [List.getElem?_set_self hl] at hj
      cases hj
      exact ⟨_, hσ, .ref p, rfl, p, vs, rfl, SqL.of upd_same, paired_mono (fun _ _ z => Ra.mono s1.gg z) h2, h3⟩
    · rw [List.getElem?_set_ne hij, List.getElem?_map] at hj
      cases q : ρ[j]? with
      | none => rw [q] at hj; cases hj
      | some e0 =>
        rw [q] at hj
        obtain ⟨o, ho', q'⟩ := ev.ok j e0 q
        have ee : hide e0 = e' := by simpa using hj
        subst ee
        refine ⟨o, ho', ?_⟩
        cases e0 with
        | pool a b => trivial
        | off => trivial
        | fr R' x' => exact En.step (e := .fr R' x') q' s1 fun a ha => nomatch ha
        | own a' R' x' => exact En.step (e := .own a' R' x') q' s1 fun a ha z => nodup_apart ev.nd ho q hij (by rw [mem1 z]; simp [En.adr]) ha
        | obj a' C' x' => exact En.step (e := .obj a' C' x') q' s1 fun a ha z => nodup_apart ev.nd ho q hij (by rw [mem1 z]; simp [En.adr]) ha
  · -- the ghost without p
    have st0 : Step [] (upd G p (.lst vs)) H G' H' := by
      have e0 : padr ((ρ.map hide).set i (.fr (rL Ra) xs : En K)) = [] := by unfold padr; rw [hpl]; rfl
      rw [e0] at st
      exact st
    let G2 : Hp := fun a => if a = p then none else G' a
    have g2 : ∀ a o, G2 a = some o → G' a = some o ∧ a ≠ p := fun a o q => by
      by_cases z : a = p
      · have : G2 a = none := if_pos z
        rw [this] at q; cases q
      · have : G2 a = G' a := if_neg z
        rw [this] at q; exact ⟨q, z⟩
    have stf : Step [] G H G2 H' := by
      refine ⟨fun a o q => ?_, fun a o q => st0.gh a o (g2 a o q).1, fun a o q _ => st0.keep a o q (by simp), fun a o q n _ => ?_⟩
      · have z : a ≠ p := ne_of_none q n1
        have : G2 a = G' a := if_neg z
        rw [this]
        exact st0.gg a o (by rw [upd_ne z]; exact q)
      · by_cases z : a = p
        · exact if_pos z
        · have : G2 a = G' a := if_neg z
          rw [this]
          exact st0.old a o q (by rw [upd_ne z]; exact n) (by simp)
    exact c G2 H' v b stf.of0 (ev.step0 stf) pb (hf _ _ _ _ rb)
end

/-! ### instances -/
section
variable {K : PySem.W.Frag} {α β : Type}
abbrev KP (G : Hp) : Str × V → Str × Mp → Prop := fun p q => p.1 = q.1 ∧ q.2.1 G p.2
def rIns (C : Addr) (F : α → List (Str × Mp)) : Rp K α := ⟨fun G v x => ∃ a dx vs, v = .ref a ∧ G a = some (.ins C dx vs) ∧ Paired (KP G) vs (F x), fun e ⟨a, dx, vs, h1, h2, h3⟩ => ⟨a, dx, vs, h1, e _ _ h2, paired_mono2 (fun p q ⟨z1, z2⟩ => ⟨z1, q.2.2 _ _ _ e z2⟩) h3⟩⟩
theorem kp_keys {G : Hp} : ∀ {vs : List (Str × V)} {fs : List (Str × Mp)}, Paired (KP G) vs fs → vs.map (·.1) = fs.map (·.1)
  | _, _, .nil => rfl
  | _, _, .cons r t => by rw [List.map_cons, List.map_cons, kp_keys t, r.1]
theorem lookup_ix {vs : List (Str × V)} {j : Nat} {f : Str} {v : V} (h : vs[j]? = some (f, v)) (hn : ∀ i, i < j → (vs.map (·.1))[i]? ≠ some f) : vs.lookup f = some v := by
  induction vs generalizing j with
  | nil => simp at h
  | cons p r ih =>
    obtain ⟨k, u⟩ := p
    cases j with
    | zero =>
      have e : (k, u) = (f, v) := by simpa using h
      cases e
      simp [List.lookup]
    | succ j =>
      have hk : ¬ f = k := fun z => hn 0 (by omega) (by simp [z])
      have : (f == k) = false := beq_eq_false_iff_ne.mpr hk
      rw [List.lookup, this]
      exact ih (by simpa using h) fun i hi => by simpa using hn (i + 1) (by omega)
theorem lookup_no {vs : List (Str × V)} {f : Str} (h : f ∉ vs.map (·.1)) : vs.lookup f = none := by
  induction vs with
  | nil => rfl
  | cons p r ih =>
    obtain ⟨k, u⟩ := p
    have hk : ¬ f = k := fun z => h (by simp [z])
    have : (f == k) = false := beq_eq_false_iff_ne.mpr hk
    rw [List.lookup, this]
    exact ih fun z => h (by simpa using Or.inr (by simpa using z))
theorem putF_new {f : Str} {v : V} : ∀ {vs : List (Str × V)}, f ∉ vs.map (·.1) → putF f v vs = vs ++ [(f, v)]
  | [], _ => rfl
  | (k, u) :: r, h => by
    have hk : ¬ k = f := fun z => h (by simp [z])
    have e := putF_new (f := f) (v := v) (vs := r) fun z => h (by simpa using Or.inr (by simpa using z))
    show (if k = f then _ else _) = _
    rw [if_neg hk, e]
    rfl
def firstAt (ks : List Str) (f : Str) (j : Nat) : Bool := decide (ks[j]? = some f) && (ks.take j).all fun k => !decide (k = f)
def notIn (ks : List Str) (f : Str) : Bool := ks.all fun k => !decide (k = f)
theorem notIn_ok {ks : List Str} {f : Str} (h : notIn ks f = true) : f ∉ ks := fun z => by
  have := List.all_eq_true.mp h f z
  simp at this
theorem firstAt_ok {ks : List Str} {f : Str} {j : Nat} (h : firstAt ks f j = true) : ∀ i, i < j → ks[i]? ≠ some f := fun i hi z => by
  obtain ⟨_, h2⟩ := Bool.and_eq_true_iff.mp h
  have hm : f ∈ ks.take j := List.mem_of_getElem? (by rw [List.getElem?_take_of_lt hi]; exact z)
  have := List.all_eq_true.mp h2 f hm
  simp at this
end
section
variable {X : Cx} {K : PySem.W.Frag} [HK X K] {τ ℓ α β γ δ : Type} {ρ : List (En K)} {post : τ → List (En K)} {lp : ℓ → List (En K)} {R : Rp K β} {rest : List Stmt} {pos apos : Pos} {e o : Expr}
/-- o.f of a frozen instance -/
theorem pr_fld {C : Addr} {F : α → List (Str × Mp)} {f : Str} {w : W α} {Rb : Rp K γ} {g : α → γ} {ks : List Str} (j : Nat) (h : PE X o (TEx ρ (rIns C F) w)) (hc : Cls K C) (hn : NoAttr K C f) (hk : ∀ x, (F x).map (·.1) = ks) (hj : ∀ x, (F x)[j]? = some (f, Rb.mp (g x))) (hf : firstAt ks f j = true)
    (hb : attributeBase o f X.env (eval o X.env) = eval o X.env := by rfl) : PE X (.Attribute o f apos) (TEx ρ Rb fun P => w fun x => P (g x)) := by
  have hK : X.K = K := HK.eq
  subst hK
  exact pe_imp (pe_fld h hb) fun σ H Q ⟨G, P, s, ev, pp, c⟩ => ⟨G, _, s, ev, pp, fun G1 H1 v x st e1 px ⟨a, dx, vs, h1, h2, h3⟩ => by
    obtain ⟨q, hq, k1, k2⟩ := paired_get h3 (hj x)
    obtain ⟨q1, q2⟩ := q
    have k1' : q1 = f := k1
    subst k1'
    exact ⟨a, C, dx, vs, q2, h1, st.gh _ _ h2, hc, hn, lookup_ix hq (by rw [kp_keys h3, hk]; exact firstAt_ok hf), c G1 H1 q2 (g x) st e1 px k2⟩⟩
/-- self.f = e while the instance is made -/
theorem b_fld {i : Nat} {nm : Str} {pn fp : Pos} {a C : Addr} {fs : List (Str × Mp)} {f : Str} {Ra : Rp K α} {w : W α} {m : α → W (Out τ ℓ β)} {ks : List Str} (hv : PE X (.Name nm pn) (tVar i)) (ho : ρ[i]? = some (.obj a C fs)) (hc : Cls K C) (hn : NoAttr K C f) (h : PE X e (TEx ρ Ra w))
    (hk : fs.map (·.1) = ks) (hf : (notIn ks f && decide (ks.length < 900)) = true) (hr : ∀ x, PSs X rest (TBO (ρ.set i (.obj a C (fs ++ [(f, Ra.mp x)]))) post lp R (m x)))
    (hs : swapsWith e (some (.Attribute (.Name nm pn) f fp)) pos.line X.env = pure false := by rfl) :
    PSs X (.Assign [.Attribute (.Name nm pn) f fp] e pos :: rest) (TBO ρ post lp R fun P => w fun x => m x P) := by
  have hK : X.K = K := HK.eq
  subst hK
  obtain ⟨hf1, hf2⟩ := Bool.and_eq_true_iff.mp hf
  refine pss_imp (pss_cons (ps_fld hv h hs) (pss_fam hr)) fun D σ H ⟨G, P, s, ev, pp, c⟩ => ⟨G, _, s, ev, pp, fun G1 H1 v x st e1 px rx => ?_⟩
  obtain ⟨oo, hoo, eq, n1, dx, vs, k1, k2⟩ := e1.ok i _ ho
  subst eq
  have hkv : vs.map (·.1) = ks := (kp_keys k2).trans hk
  have hlen : vs.length = ks.length := by rw [← hkv, List.length_map]
  have hlt : ks.length < 900 := of_decide_eq_true hf2
  have hpf : putF f v vs = vs ++ [(f, v)] := putF_new (by rw [hkv]; exact notIn_ok hf1)
  refine ⟨.ref a, hoo, a, C, dx, vs, rfl, k1, hc, hn, by omega, ?_⟩
  rw [hpf]
  have s1 : Step [a] G1 H1 G1 (upd H1 a (.ins C dx (vs ++ [(f, v)]))) := Step.put st.gh (by simp) n1
  have hm : a ∈ adrs ρ := adrs_mem ho (by simp [En.adr])
  have hpl : (ρ.getD i .off).pl = [] := by
    have e : ρ.getD i .off = .obj a C fs := by rw [List.getD_eq_getElem?_getD, ho]; rfl
    rw [e]; rfl
  refine ⟨x, G1, P, s1.gh, ⟨by rw [List.length_set, e1.len], fun j e' hj => ?_, (nodup_same (e' := .obj a C (fs ++ [(f, Ra.mp x)])) e1.nd ho (.inl rfl)).1⟩, px, c.step ((st.wide fun a ha => padr_sub ha).trans (s1.wide fun b hb => by rw [mem1 hb]; exact hm)) (fun b hb => (adrs_set hb).elim .inl fun z => .inl (adrs_mem ho z)) fun q hq => pls_set hpl hq⟩
  by_cases hij : i = j
  · subst hij
    rw [List.getElem?_set_self (List.getElem?_eq_some_iff.mp ho).1] at hj
    cases hj
    exact ⟨_, hoo, rfl, n1, dx, _, upd_same, paired_app k2 (.cons ⟨rfl, rx⟩ .nil)⟩
  · rw [List.getElem?_set_ne hij] at hj
    obtain ⟨o', ho', q⟩ := e1.ok j e' hj
    exact ⟨o', ho', En.step q s1 fun b hb z => nodup_apart e1.nd ho hj hij (by rw [mem1 z]; simp [En.adr]) hb⟩
end

/-! ### promises and calls -/
section
variable {K : PySem.W.Frag} {α β : Type}
def SpF (F : Fs K α) (R : Rp K β) (m : α → W β) : Sp := fun vs H Q _ => ∃ (G : Hp) (a : α) (P : β → Prop), Same G H ∧ F.ok G vs a ∧ m a P ∧ ∀ G' H' v b, Step [] G H G' H' → P b → R.ok G' v b → Q v H'
/-- a def that draws: the pool is its first argument -/
def SpP (F : Fs K α) (R : Rp K β) (m : α → W β) : Sp := fun vs H Q _ => ∃ (G : Hp) (p g : Addr) (us : List V) (a : α) (P : β → Prop), vs = .ref p :: us ∧ Same G H ∧ PoolAt G H p g ∧ F.ok G us a ∧ m a P ∧
  ∀ G' H' v b, Step [p, g] G H G' H' → PoolAt G' H' p g → P b → R.ok G' v b → Q v H'
/-- __init__ -/
def SpI (C : Addr) (F : Fs K α) (R : Rp K β) (m : α → W β) : Sp := fun vs H Q _ => ∃ (G : Hp) (x dx : Addr) (us : List V) (a : α) (P : β → Prop), vs = .ref x :: us ∧ Same G H ∧ G x = none ∧ H x = some (.ins C dx []) ∧ F.ok G us a ∧ m a P ∧
  ∀ G' H' b, Step [x] G H G' H' → P b → R.ok G' (.ref x) b → Q .non H'
end
structure FnG (P : Program) (w : World) (K : PySem.W.Frag) (mg : Str → Option Value) (base : Heap) (x : Str) (k : Nat) (ps : List Str) (sp : Sp) : Prop where
  ex : ∃ f fd, mg x = some (.ref f) ∧ PySem.W.keepIn K (.ref f) = true ∧ Binds K fd ps [] ∧ FnOk P w K mg base CX0 k f fd ps sp
structure FnM (P : Program) (w : World) (K : PySem.W.Frag) (mg : Str → Option Value) (base : Heap) (C : Addr) (x : Str) (k : Nat) (ps : List Str) (sp : Sp) : Prop where
  ex : ∃ f fd, Cls K C ∧ Meth K C x f ∧ Binds K fd ps [] ∧ FnOk P w K mg base CX0 k f fd ps sp
structure FnC (P : Program) (w : World) (K : PySem.W.Frag) (mg : Str → Option Value) (base : Heap) (x : Str) (C : Addr) (k : Nat) (ps : List Str) (sp : Sp) : Prop where
  ex : ∃ f fd, mg x = some (.ref C) ∧ Mk K C f ∧ Binds K fd ps [] ∧ FnOk P w K mg base CX0 k f fd ps sp
section
variable {X : Cx} {K : PySem.W.Frag} [HK X K] {α β : Type} {ρ : List (En K)} {R : Rp K β} {F : Fs K α} {m : α → W β} {w : W α} {x : Str} {k : Nat} {ps : List Str} {p pos apos : Pos} {e o : Expr} {es : List Expr}
theorem pr_call (h : FnG X.prog X.w K X.mg X.base x k ps (SpF F R m)) (hr : Room k X.A) (ha : PA X (e :: es) (TAx ρ F w)) (hg : Gl X x := by rfl) (hdb : (x == ("__debug__" : Str)) = false := by decide) (he : starEach (e :: es) X.env = (false, eval e X.env) :: starEach es X.env := by rfl)
    (hpl : (backTo pos (starEach es X.env)).any (·.1) = false := by rfl) : PE X (.Call (.Name x p) (e :: es) [] pos) (TEx ρ R fun P => w fun a => m a P) := by
  have hK : X.K = K := HK.eq
  subst hK
  obtain ⟨f, fd, h1, h2, h3, h4⟩ := h.ex
  refine pe_imp (pe_call h4 hr hg h1 h2 h3 .nil pass0 ha hdb he hpl) fun σ H Q ⟨G, P, s, ev, pp, c⟩ => ⟨G, _, s, ev, pp, fun G1 H1 vs a st e1 pa ra => ?_⟩
  show SpF F R m (vs ++ []) H1 Q E0
  rw [List.append_nil]
  exact ⟨G1, a, P, st.gh, ra, pa, fun G2 H2 v b st2 pb rb => c G2 H2 v b (st.trans st2.of0) (e1.step0 st2) pb rb⟩
/-- f(pool, ..) -/
theorem tx_pool {i : Nat} {pp g : Addr} {σ : L2.St} {H G : Hp} {Q : VK} {P : β → Prop} (hi : ρ[i]? = some (.pool pp g)) {G1 H1 : Hp} {us : List V} {a : α} (c : Ct ρ σ G H R P Q) (st : Step (padr ρ) G H G1 H1) (e1 : EnvOk ρ G1 H1 σ) (pa : m a P) (ra : F.ok G1 us a) (hone : pls ρ = [(pp, g)]) : SpP F R m (.ref pp :: us) H1 Q E0 := by
  obtain ⟨oo, hoo, z1, z2⟩ := e1.ok i _ hi
  refine ⟨G1, pp, g, us, a, P, rfl, st.gh, z2, ra, pa, fun G2 H2 v b st2 pl pb rb => ?_⟩
  have hpd : padr ρ = [pp, g] := by unfold padr; rw [hone]; rfl
  refine c G2 H2 v b (st.trans (by rw [hpd]; exact st2)) ⟨e1.len, fun j e' hj => ?_, e1.nd⟩ pb rb
  obtain ⟨o', ho', q⟩ := e1.ok j e' hj
  refine ⟨o', ho', ?_⟩
  cases e' with
  | pool a' b' =>
    have : (a', b') ∈ pls ρ := pls_mem hj (by simp [En.pl])
    rw [hone] at this
    have e : (a', b') = (pp, g) := by simpa using this
    cases e
    exact ⟨q.1, pl⟩
  | off => trivial
  | fr R' x' => exact En.step (e := .fr R' x') q st2 fun a ha => nomatch ha
  | own a' R' x' => exact En.step (e := .own a' R' x') q st2 fun a ha z => own_ne_pool e1.nd hj hi ha (by simpa using z)
  | obj a' C' x' => exact En.step (e := .obj a' C' x') q st2 fun a ha z => own_ne_pool e1.nd hj hi ha (by simpa using z)
theorem pr_draw {i : Nat} {nm : Str} {pn : Pos} {pp g : Addr} (h : FnG X.prog X.w K X.mg X.base x k ps (SpP F R m)) (hr : Room k X.A) (hv : PE X (.Name nm pn) (tVar i)) (hi : ρ[i]? = some (.pool pp g)) (ha : PA X es (TAx ρ F w)) (hone : pls ρ = [(pp, g)] := by rfl) (hg : Gl X x := by rfl) (hdb : (x == ("__debug__" : Str)) = false := by decide)
    (he : starEach (.Name nm pn :: es) X.env = (false, eval (.Name nm pn) X.env) :: starEach es X.env := by rfl) (hpl : (backTo pos (starEach es X.env)).any (·.1) = false := by rfl) : PE X (.Call (.Name x p) (.Name nm pn :: es) [] pos) (TEx ρ R fun P => w fun a => m a P) := by
  have hK : X.K = K := HK.eq
  subst hK
  obtain ⟨f, fd, h1, h2, h3, h4⟩ := h.ex
  refine pe_imp (pe_call h4 hr hg h1 h2 h3 .nil pass0 (pa_cons hv ha he) hdb he hpl) fun σ H Q ⟨G, P, s, ev, pp', c⟩ => ?_
  obtain ⟨oo, hoo, z1, z2⟩ := ev.ok i _ hi
  subst z1
  refine ⟨_, hoo, G, _, s, ev, pp', fun G1 H1 us a st e1 pa ra => ?_⟩
  show SpP F R m (.ref pp :: us ++ []) H1 Q E0
  rw [List.append_nil]
  exact tx_pool hi c st e1 pa ra hone
/-- o.m(..) of a frozen instance -/
theorem pr_meth {C : Addr} {mn : Str} {FI : β → List (Str × Mp)} {γ δ : Type} {Rc : Rp K γ} {F' : Fs K δ} {wo : W β} {w' : W δ} {m' : β × δ → W γ} {ks : List Str} {pl : Sem Bool} (h : FnM X.prog X.w K X.mg X.base C mn k ps (SpF (fsC (rIns C FI) F') Rc m')) (hr : Room k X.A) (ho : PE X o (TEx ρ (rIns C FI) wo))
    (hk : ∀ y, (FI y).map (·.1) = ks) (hm : notIn ks mn = true) (ha : PA X (e :: es) (TAx ρ F' w'))
    (hst : starEach (e :: es) X.env = (false, eval e X.env) :: starEach es X.env := by rfl) (hpl : (backTo pos (starEach es X.env)).any (·.1) = false := by rfl)
    (ht : eval (.Call (.Attribute o mn apos) (e :: es) [] pos) X.env = (do
      let ov ← eval o X.env
      standAt apos.atName
      let (f, first) ← holding [ov] (getMethod ov mn pl)
      callWith pos f first (backTo pos (starEach (e :: es) X.env)) (backToKw pos (keywordEach [] X.env))) := by rfl) : PE X (.Call (.Attribute o mn apos) (e :: es) [] pos) (TEx ρ Rc fun P => wo fun y => w' fun a => m' (y, a) P) := by
  have hK : X.K = K := HK.eq
  subst hK
  obtain ⟨f, fd, hc, h2, h3, h4⟩ := h.ex
  refine pe_imp (pe_meth ho hc h2 h4 hr h3 .nil pass0 ha hst hpl ht) fun σ H Q ⟨G, P, s, ev, pp, c⟩ => ⟨G, _, s, ev, pp, fun G1 H1 v y st e1 py ⟨a, dx, vs, k1, k2, k3⟩ => ?_⟩
  subst k1
  refine ⟨a, dx, vs, rfl, st.gh _ _ k2, lookup_no (by rw [kp_keys k3, hk]; exact notIn_ok hm), G1, _, st.gh, e1, py, fun G2 H2 us z st2 e2 pz rz => ?_⟩
  show SpF (fsC (rIns C FI) F') Rc m' (.ref a :: (us ++ [])) H2 Q E0
  rw [List.append_nil]
  exact ⟨G2, (y, z), P, st2.gh, ⟨_, us, rfl, (rIns C FI).mono st2.gg ⟨a, dx, vs, rfl, k2, k3⟩, rz⟩, pz, fun G3 H3 u b st3 pb rb => c G3 H3 u b ((st.trans st2).trans st3.of0) (e2.step0 st3) pb rb⟩
/-- o.m() -/
theorem pr_meth0 {C : Addr} {mn : Str} {FI : β → List (Str × Mp)} {γ : Type} {Rc : Rp K γ} {wo : W β} {m' : β → W γ} {ks : List Str} {pl : Sem Bool} (h : FnM X.prog X.w K X.mg X.base C mn k ps (SpF (fs1 (rIns C FI)) Rc m')) (hr : Room k X.A) (ho : PE X o (TEx ρ (rIns C FI) wo))
    (hk : ∀ y, (FI y).map (·.1) = ks) (hm : notIn ks mn = true)
    (ht : eval (.Call (.Attribute o mn apos) [] [] pos) X.env = (do
      let ov ← eval o X.env
      standAt apos.atName
      let (f, first) ← holding [ov] (getMethod ov mn pl)
      callWith pos f first (backTo pos (starEach [] X.env)) (backToKw pos (keywordEach [] X.env))) := by rfl) : PE X (.Call (.Attribute o mn apos) [] [] pos) (TEx ρ Rc fun P => wo fun y => m' y P) := by
  have hK : X.K = K := HK.eq
  subst hK
  obtain ⟨f, fd, hc, h2, h3, h4⟩ := h.ex
  refine pe_imp (pe_meth0 ho hc h2 h4 hr h3 .nil pass0 ht) fun σ H Q ⟨G, P, s, ev, pp, c⟩ => ⟨G, _, s, ev, pp, fun G1 H1 v y st e1 py ⟨a, dx, vs, k1, k2, k3⟩ => ?_⟩
  refine ⟨a, dx, vs, k1, st.gh _ _ k2, lookup_no (by rw [kp_keys k3, hk]; exact notIn_ok hm), ?_⟩
  exact ⟨G1, y, P, st.gh, ⟨v, by rw [k1]; rfl, a, dx, vs, k1, k2, k3⟩, py, fun G3 H3 u b st3 pb rb => c G3 H3 u b (st.trans st3.of0) (e1.step0 st3) pb rb⟩
/-- C(..) -/
theorem pr_make {C : Addr} (h : FnC X.prog X.w K X.mg X.base x C k ps (SpI C F R m)) (hr : Room (k + 1) X.A) (ha : PA X (e :: es) (TAx ρ F w)) (hg : Gl X x := by rfl) (hdb : (x == ("__debug__" : Str)) = false := by decide) (he : starEach (e :: es) X.env = (false, eval e X.env) :: starEach es X.env := by rfl)
    (hpl : (backTo pos (starEach es X.env)).any (·.1) = false := by rfl) : PE X (.Call (.Name x p) (e :: es) [] pos) (TEx ρ R fun P => w fun a => m a P) := by
  have hK : X.K = K := HK.eq
  subst hK
  obtain ⟨f, fd, h1, h2, h3, h4⟩ := h.ex
  refine pe_imp (pe_make h2 h4 hr hg h1 h3 .nil pass0 ha hdb he hpl) fun σ H Q ⟨G, P, s, ev, pp, c⟩ => ⟨G, _, s, ev, pp, fun G1 H1 vs a st e1 pa ra => fun xx dx hx hdx ne => ?_⟩
  show SpI C F R m (.ref xx :: (vs ++ [])) _ _ _
  rw [List.append_nil]
  have s1 : Step [] G1 H1 G1 (upd H1 dx (.own xx)) := Step.lay st.gh hdx
  have hx1 : (upd H1 dx (.own xx)) xx = none := by rw [upd_ne (Ne.symm ne)]; exact hx
  have s2 : Step [] G1 (upd H1 dx (.own xx)) G1 (upd (upd H1 dx (.own xx)) xx (.ins C dx [])) := Step.lay s1.gh hx1
  refine ⟨G1, xx, dx, vs, a, P, rfl, s2.gh, st.gh.free hx, upd_same, ra, pa, fun G2 H2 b st2 pb rb => ⟨rfl, ?_⟩⟩
  have hxr : xx ∉ adrs ρ := e1.fresh hx
  have s12 : Step [] G1 H1 G1 (upd (upd H1 dx (.own xx)) xx (.ins C dx [])) := s1.trans s2
  have s3 : Step [] G1 H1 G2 H2 := s12.cut st2 fun a ha => .inr (by rw [mem1 ha]; exact hx)
  exact c G2 H2 _ b (st.trans s3.of0) (e1.step0 s3) pb rb
end
/-! ### the def -/
structure FsE {K : PySem.W.Frag} {α : Type} (F : Fs K α) (env : α → List (En K)) : Prop where
  len : ∀ x, (env x).length = F.n
  ok : ∀ (G H : Hp) (vs : List V) (x : α), F.ok G vs x → ∀ (i : Nat) (e : En K), (env x)[i]? = some e → ∃ v, vs[i]? = some v ∧ e.ok G H (some v)
  no : ∀ x, adrs (env x) = []
section
variable {K : PySem.W.Frag} {α β : Type}
theorem fsE_N : FsE (fsN : Fs K Unit) (fun _ => []) := ⟨fun _ => rfl, fun G H vs x h i e hi => by simp at hi, fun _ => rfl⟩
theorem fsE_1 {R : Rp K α} : FsE (fs1 R) (fun x => [.fr R x]) := ⟨fun _ => rfl, fun G H vs x ⟨v, h, q⟩ i e hi => by
  cases i with
  | zero => simp at hi; subst hi; exact ⟨v, by rw [h]; rfl, v, rfl, q⟩
  | succ i => simp at hi, fun _ => rfl⟩
theorem fsE_C {R : Rp K α} {F : Fs K β} {env : β → List (En K)} (h : FsE F env) : FsE (fsC R F) (fun x => .fr R x.1 :: env x.2) := ⟨fun x => by rw [List.length_cons, h.len]; rfl, fun G H vs x ⟨v, r, h1, h2, h3⟩ i e hi => by
  cases i with
  | zero => simp at hi; subst hi; exact ⟨v, by rw [h1]; rfl, v, rfl, h2⟩
  | succ i =>
    obtain ⟨u, k1, k2⟩ := h.ok G H r x.2 h3 i e (by simpa using hi)
    exact ⟨u, by rw [h1]; simpa using k1, k2⟩, fun x => by show [] ++ adrs (env x.2) = []; rw [h.no]; rfl⟩
theorem adrs_off_rep (n : Nat) : adrs (List.replicate n (.off : En K)) = [] := by
  induction n with
  | zero => rfl
  | succ n ih => rw [List.replicate_succ]; show [] ++ adrs _ = []; rw [ih]; rfl
theorem adrs_app (a b : List (En K)) : adrs (a ++ b) = adrs a ++ adrs b := by
  induction a with
  | nil => rfl
  | cons e r ih => show e.adr ++ adrs (r ++ b) = (e.adr ++ adrs r) ++ adrs b; rw [ih, List.append_assoc]
theorem start_get (N : List Str) (vs : List V) (i : Nat) : (L2.start N vs)[i]? = if i < vs.length then vs[i]?.map some else if i < N.length then some none else none := by
  unfold L2.start
  by_cases h : i < vs.length
  · rw [if_pos h, List.getElem?_append_left (by simpa using h), List.getElem?_map]
  · rw [if_neg h, List.getElem?_append_right (by simpa using h)]
    simp only [List.length_map, List.getElem?_replicate]
    by_cases h2 : i < N.length
    · rw [if_pos h2, if_pos (by omega)]
    · rw [if_neg h2, if_neg (by omega)]
theorem env_start {F : Fs K α} {env : α → List (En K)} (hE : FsE F env) {N : List Str} {G H : Hp} {vs : List V} {x : α} {pre : List (En K)} {pv : List V} (hp : pre.length = pv.length) (hpo : ∀ (i : Nat) (e : En K), pre[i]? = some e → ∃ v, pv[i]? = some v ∧ e.ok G H (some v)) (nd : (adrs pre).Nodup)
    (h : F.ok G vs x) (hn : pre.length + F.n ≤ N.length) : EnvOk (pre ++ (env x ++ List.replicate (N.length - (pre.length + F.n)) .off)) G H (L2.start N (pv ++ vs)) := by
  have hl := F.len h
  have hle := hE.len x
  refine ⟨?_, fun i e hi => ?_, ?_⟩
  · unfold L2.start
    simp only [List.length_append, List.length_map, List.length_replicate, hle, hl, hp]
    omega
  · rw [start_get]
    by_cases h1 : i < pre.length
    · rw [List.getElem?_append_left h1] at hi
      obtain ⟨v, k1, k2⟩ := hpo i e hi
      exact ⟨some v, by rw [if_pos (by rw [List.length_append]; omega), List.getElem?_append_left (by omega), k1]; rfl, k2⟩
    · rw [List.getElem?_append_right (by omega)] at hi
      by_cases h2 : i - pre.length < (env x).length
      · rw [List.getElem?_append_left h2] at hi
        obtain ⟨v, k1, k2⟩ := hE.ok G H vs x h _ e hi
        refine ⟨some v, ?_, k2⟩
        rw [if_pos (by rw [List.length_append]; omega), List.getElem?_append_right (by omega), ← hp, k1]
        rfl
      · rw [List.getElem?_append_right (by omega)] at hi
        obtain ⟨hb, he⟩ := List.getElem?_eq_some_iff.mp hi
        simp only [List.length_replicate] at hb
        have : e = .off := by rw [← he]; simp
        subst this
        exact ⟨none, by rw [if_neg (by rw [List.length_append]; omega), if_pos (by omega)], trivial⟩
  · rw [adrs_app, adrs_app, hE.no, adrs_off_rep]
    simpa using nd
end
section
variable {P : Program} {w : World} {K : PySem.W.Frag} {mg : Str → Option Value} {base : Heap} {x qual : Str} {params : Arguments} {body : List Stmt} {sc : Scope} {f : Addr} {fd : FuncData} {N ps : List Str} {k : Nat} {α β τ : Type}
def XC (P : Program) (w : World) (K : PySem.W.Frag) (mg : Str → Option Value) (base : Heap) (N : List Str) (qual : Str) (sc : Scope) (f : Addr) (cdv : Value) (A : Around) (outer : List Env) (s : Shared) (H : Hp) (E : XK) : Cx :=
  (cxOf CX0 P w K mg base N qual sc f cdv A outer s H E).nox
instance {N : List Str} {qual : Str} {sc : Scope} {f : Addr} {cdv : Value} {A : Around} {outer : List Env} {s : Shared} {H : Hp} {E : XK} : HK (XC P w K mg base N qual sc f cdv A outer s H E) K := ⟨rfl⟩
/-- the end of a def: its value, or None -/
def fin {τ ℓ β : Type} (fall : Prop) (P : β → Prop) : Out τ ℓ β → Prop
  | .rt b => P b
  | .nx _ => fall
  | _ => False
/-- a def that hands back a value -/
theorem fnok_of {F : Fs K α} {R : Rp K β} {m : α → W β} {env : α → List (En K)} {post : τ → List (En K)} {wb : α → W (Out τ Empty β)} (D : FunD K x qual params body sc [] [] f fd) (S : FnScope N ps sc) (hn : F.n = ps.length) (hl : ps.length ≤ N.length) (hE : FsE F env) (ρ0 : α → List (En K)) (h0 : ∀ a, env a ++ List.replicate (N.length - ps.length) .off = ρ0 a)
    (hb : ∀ (a : α) cdv A outer s H E, Room k (A.deeper (PyProof.Rows.envOfC qual sc s.heap.objs.size f cdv)) → PSs (XC P w K mg base N qual sc f cdv A outer s H E) body (TBO (K := K) (ρ0 a) post (fun z : Empty => nomatch z) R (wb a)))
    (hm : ∀ a Q, m a Q → wb a (fin False Q)) : FnOk P w K mg base CX0 (k + 1) f fd ps (SpF F R m) := by
  refine D.ok S (fun vs H Q E ⟨G, a, Pp, s, h, _⟩ => by rw [F.len h, hn]) fun cdv A outer s H vs Q E hr ⟨G, a, Pp, sG, h, hp, c⟩ => ⟨_, (hb a cdv A outer s H E hr).nox, ?_⟩
  have ev := env_start (N := N) (H := H) hE (pre := []) (pv := []) rfl (fun i e hi => by simp at hi) List.nodup_nil h (by simp [hn]; exact hl)
  rw [List.nil_append] at ev
  have e0 : adrs (ρ0 a) = [] := by rw [← h0, adrs_app, hE.no, adrs_off_rep]; rfl
  refine ⟨G, fin False Pp, sG, by rw [← h0]; simpa [hn] using ev, hm a Pp hp, ⟨fun t G' H' σ' st _ z => z.elim, fun t => (nomatch t), fun t => (nomatch t), fun b G' H' v st _ pb rb => c G' H' v b (by rw [e0] at st; exact st) pb rb⟩⟩
/-- a def that hands back None -/
theorem fnok_ofN {F : Fs K α} {m : α → W Unit} {env : α → List (En K)} {post : τ → List (En K)} {wb : α → W (Out τ Empty Unit)} (D : FunD K x qual params body sc [] [] f fd) (S : FnScope N ps sc) (hn : F.n = ps.length) (hl : ps.length ≤ N.length) (hE : FsE F env) (ρ0 : α → List (En K)) (h0 : ∀ a, env a ++ List.replicate (N.length - ps.length) .off = ρ0 a)
    (hb : ∀ (a : α) cdv A outer s H E, Room k (A.deeper (PyProof.Rows.envOfC qual sc s.heap.objs.size f cdv)) → PSs (XC P w K mg base N qual sc f cdv A outer s H E) body (TBO (K := K) (ρ0 a) post (fun z : Empty => nomatch z) rN (wb a)))
    (hm : ∀ a Q, m a Q → wb a (fin (Q ()) Q)) : FnOk P w K mg base CX0 (k + 1) f fd ps (SpF F rN m) := by
  refine D.ok S (fun vs H Q E ⟨G, a, Pp, s, h, _⟩ => by rw [F.len h, hn]) fun cdv A outer s H vs Q E hr ⟨G, a, Pp, sG, h, hp, c⟩ => ⟨_, (hb a cdv A outer s H E hr).nox, ?_⟩
  have ev := env_start (N := N) (H := H) hE (pre := []) (pv := []) rfl (fun i e hi => by simp at hi) List.nodup_nil h (by simp [hn]; exact hl)
  rw [List.nil_append] at ev
  have e0 : adrs (ρ0 a) = [] := by rw [← h0, adrs_app, hE.no, adrs_off_rep]; rfl
  refine ⟨G, fin (Pp ()) Pp, sG, by rw [← h0]; simpa [hn] using ev, hm a Pp hp, ⟨fun t G' H' σ' st _ z => c G' H' .non () (by rw [e0] at st; exact st) z rfl, fun t => (nomatch t), fun t => (nomatch t), fun b G' H' v st _ pb rb => c G' H' v b (by rw [e0] at st; exact st) pb rb⟩⟩
/-- a def that draws -/
theorem fnok_ofP {F : Fs K α} {R : Rp K β} {m : α → W β} {env : α → List (En K)} {post : Addr → Addr → τ → List (En K)} {wb : Addr → Addr → α → W (Out τ Empty β)} (D : FunD K x qual params body sc [] [] f fd) (S : FnScope N ps sc) (hn : F.n + 1 = ps.length) (hl : ps.length ≤ N.length) (hE : FsE F env) (ρ0 : Addr → Addr → α → List (En K)) (h0 : ∀ p g a, .pool p g :: (env a ++ List.replicate (N.length - ps.length) .off) = ρ0 p g a)
    (hb : ∀ (p g : Addr) (a : α) cdv A outer s H E, Room k (A.deeper (PyProof.Rows.envOfC qual sc s.heap.objs.size f cdv)) → PSs (XC P w K mg base N qual sc f cdv A outer s H E) body (TBO (K := K) (ρ0 p g a) (post p g) (fun z : Empty => nomatch z) R (wb p g a)))
    (hm : ∀ p g a Q, m a Q → wb p g a (fin False Q)) : FnOk P w K mg base CX0 (k + 1) f fd ps (SpP F R m) := by
  refine D.ok S (fun vs H Q E ⟨G, p, g, us, a, Pp, e, s, _, h, _⟩ => by rw [e, List.length_cons, F.len h, hn]) fun cdv A outer s H vs Q E hr ⟨G, p, g, us, a, Pp, e, sG, hP, h, hp, c⟩ => ⟨_, (hb p g a cdv A outer s H E hr).nox, ?_⟩
  subst e
  have ev := env_start (N := N) (H := H) hE (pre := [.pool p g]) (pv := [.ref p]) rfl (fun i e hi => by
    cases i with
    | zero => simp at hi; subst hi; exact ⟨.ref p, rfl, rfl, hP⟩
    | succ i => simp at hi) (by have := hP.2.2.1; simp [adrs, En.adr, this]) h (by simp only [List.length_cons, List.length_nil]; omega)
  have e1 : N.length - ([En.pool (K := K) p g].length + F.n) = N.length - ps.length := by simp only [List.length_cons, List.length_nil]; omega
  rw [e1] at ev
  have e0 : adrs (ρ0 p g a) = [p, g] := by rw [← h0]; show [p, g] ++ adrs _ = _; rw [adrs_app, hE.no, adrs_off_rep]; rfl
  refine ⟨G, fin False Pp, sG, by rw [← h0]; exact ev, hm p g a Pp hp, ⟨fun t G' H' σ' st _ z => z.elim, fun t => (nomatch t), fun t => (nomatch t), fun b G' H' v st pl pb rb => c G' H' v b (by rw [e0] at st; exact st) (pl (p, g) (by rw [← h0]; simp [pls, En.pl])) pb rb⟩⟩
/-- __init__: the record is made by the stores -/
theorem fnok_ofI {C : Addr} {F : Fs K α} {FI : β → List (Str × Mp)} {m : α → W β} {env : α → List (En K)} {wb : Addr → α → W (Out β Empty Unit)} (D : FunD K x qual params body sc [] [] f fd) (S : FnScope N ps sc) (hn : F.n + 1 = ps.length) (hl : ps.length ≤ N.length) (hE : FsE F env) (ρ0 : Addr → α → List (En K)) (h0 : ∀ i a, .obj i C [] :: (env a ++ List.replicate (N.length - ps.length) .off) = ρ0 i a) (post : Addr → β → List (En K)) (hpost : ∀ i b, (post i b)[0]? = some (.obj i C (FI b)))
    (hb : ∀ (i : Addr) (a : α) cdv A outer s H E, Room k (A.deeper (PyProof.Rows.envOfC qual sc s.heap.objs.size f cdv)) → PSs (XC P w K mg base N qual sc f cdv A outer s H E) body (TBO (K := K) (ρ0 i a) (post i) (fun z : Empty => nomatch z) rN (wb i a)))
    (hm : ∀ i a Q, m a Q → wb i a (fun o => match o with | .nx b => Q b | _ => False)) : FnOk P w K mg base CX0 (k + 1) f fd ps (SpI C F (rIns C FI) m) := by
  refine D.ok S (fun vs H Q E ⟨G, i, dx, us, a, Pp, e, s, _, _, h, _⟩ => by rw [e, List.length_cons, F.len h, hn]) fun cdv A outer s H vs Q E hr ⟨G, i, dx, us, a, Pp, e, sG, n1, hH, h, hp, c⟩ => ⟨_, (hb i a cdv A outer s H E hr).nox, ?_⟩
  subst e
  have ev := env_start (N := N) (H := H) hE (pre := [.obj i C []]) (pv := [.ref i]) rfl (fun j e hi => by
    cases j with
    | zero => simp at hi; subst hi; exact ⟨.ref i, rfl, rfl, n1, dx, [], hH, .nil⟩
    | succ j => simp at hi) (by simp [adrs, En.adr]) h (by simp only [List.length_cons, List.length_nil]; omega)
  have e1 : N.length - ([En.obj (K := K) i C []].length + F.n) = N.length - ps.length := by simp only [List.length_cons, List.length_nil]; omega
  rw [e1] at ev
  have e0 : adrs (ρ0 i a) = [i] := by rw [← h0]; show [i] ++ adrs _ = _; rw [adrs_app, hE.no, adrs_off_rep]; rfl
  refine ⟨G, _, sG, by rw [← h0]; exact ev, hm i a Pp hp, ⟨fun b G' H' σ' st e' z => ?_, fun t => (nomatch t), fun t => (nomatch t), fun b G' H' v st _ pb rb => pb.elim⟩⟩
  rw [e0] at st
  obtain ⟨o, ho, eo, n2, dx2, vs, k1, k2⟩ := e'.ok 0 _ (hpost i b)
  have s2 : Step [i] G' H' (upd G' i (.ins C dx2 vs)) H' := Step.freeze st.gh (by simp) n2 k1
  exact c _ _ b (st.trans s2) z ⟨i, dx2, vs, rfl, upd_same, paired_mono2 (fun p q ⟨z1, z2⟩ => ⟨z1, q.2.2 _ _ _ s2.gg z2⟩) k2⟩
end
end SS

set_option Elab.async false
set_option linter.all false
set_option maxRecDepth 100000
/-! SSG: own rules: isinstance of a text, the greatest of triples, items of a list changed in place, loops by word. Own work. -/
namespace SS
open PySem PySem.Spec L2

/-! ### loops and comprehensions, by an invariant -/
section
variable {α β γ σ : Type}
theorem forW_inv {N : σ → Prop} {Rr : β → Prop} {f : σ → α → W (Out σ σ β)} {xs : List α} {st0 : σ} (I : List α → List α → σ → Prop) (h0 : I [] xs st0)
    (hs : ∀ (pre : List α) (x : α) (suf : List α) (st : σ) (C : Out σ σ β → Prop), xs = pre ++ x :: suf → I pre (x :: suf) st → (∀ st', I (pre ++ [x]) suf st' → C (.nx st')) → (∀ st', I (pre ++ [x]) suf st' → C (.ct st')) → (∀ st', N st' → C (.bk st')) → (∀ b, Rr b → C (.rt b)) → f st x C)
    (hN : ∀ st, I xs [] st → N st) : forW xs st0 f N Rr := by
  suffices ∀ (suf pre : List α) (st : σ), xs = pre ++ suf → I pre suf st → forW suf st f N Rr from this xs [] st0 rfl h0
  intro suf
  induction suf with
  | nil => intro pre st e i; rw [List.append_nil] at e; subst e; exact hN st i
  | cons x suf ih =>
    intro pre st e i
    refine hs pre x suf st _ e i (fun st' i' => ?_) (fun st' i' => ?_) (fun st' i' => i') (fun b hb => hb)
    · exact ih (pre ++ [x]) st' (by rw [e]; simp) i'
    · exact ih (pre ++ [x]) st' (by rw [e]; simp) i'
/-- a map with a test, both plain -/
theorem lcW_map {P : List β → Prop} {t : α → W Bool} {f : α → W β} (p : α → Bool) (g : α → β) : ∀ (xs : List α), (∀ x ∈ xs, ∀ C : Bool → Prop, C (p x) → t x C) → (∀ x ∈ xs, p x = true → ∀ C : β → Prop, C (g x) → f x C) → P ((xs.filter p).map g) → lcW xs t f P
  | [], _, _, h => h
  | x :: xs, ht, hf, h => by
    refine ht x (by simp) _ ?_
    cases e : p x with
    | true =>
      simp only [if_true]
      rw [List.filter_cons_of_pos e] at h
      exact hf x (by simp) e _ (lcW_map (P := fun ys => P (g x :: ys)) p g xs (fun y hy => ht y (by simp [hy])) (fun y hy => hf y (by simp [hy])) h)
    | false =>
      simp only [Bool.false_eq_true, if_false]
      rw [List.filter_cons_of_neg (by rw [e]; simp)] at h
      exact lcW_map p g xs (fun y hy => ht y (by simp [hy])) (fun y hy => hf y (by simp [hy])) h
theorem lcW_map1 {P : List β → Prop} {f : α → W β} (g : α → β) (xs : List α) (hf : ∀ x ∈ xs, ∀ C : β → Prop, C (g x) → f x C) (h : P (xs.map g)) : lcW xs yesW f P :=
  lcW_map (fun _ => true) g xs (fun x _ C c => c) (fun x hx _ C c => hf x hx C c) (by rw [List.filter_eq_self.mpr (by simp)]; exact h)
/-- every made item satisfies a word -/
theorem lcW_all {t : α → W Bool} {f : α → W β} (I : α → β → Prop) : ∀ (xs : List α) (P : List β → Prop), (∀ x ∈ xs, ∀ C : Bool → Prop, (∀ b, C b) → t x C) → (∀ x ∈ xs, ∀ C : β → Prop, (∀ y, I x y → C y) → f x C) → (∀ ys, (∃ zs, zs.Sublist xs ∧ Paired I zs ys) → P ys) → lcW xs t f P
  | [], P, _, _, h => h [] ⟨[], List.Sublist.refl _, .nil⟩
  | x :: xs, P, ht, hf, h => by
    refine ht x (by simp) _ fun b => ?_
    cases b with
    | true =>
      simp only [if_true]
      refine hf x (by simp) _ fun y hy => ?_
      refine lcW_all I xs _ (fun y hy => ht y (by simp [hy])) (fun y hy => hf y (by simp [hy])) fun ys ⟨zs, h1, h2⟩ => h _ ⟨x :: zs, h1.cons₂ x, .cons hy h2⟩
    | false =>
      simp only [Bool.false_eq_true, if_false]
      exact lcW_all I xs P (fun y hy => ht y (by simp [hy])) (fun y hy => hf y (by simp [hy])) fun ys ⟨zs, h1, h2⟩ => h _ ⟨zs, h1.cons x, h2⟩
/-- .. without a test: all the items -/
theorem lcW_all1 {f : α → W β} (I : α → β → Prop) (xs : List α) (P : List β → Prop) (hf : ∀ x ∈ xs, ∀ C : β → Prop, (∀ y, I x y → C y) → f x C) (h : ∀ ys, Paired I xs ys → P ys) : lcW xs yesW f P := by
  induction xs generalizing P with
  | nil => exact h [] .nil
  | cons x xs ih =>
    show if true = true then f x (fun y => lcW xs yesW f fun ys => P (y :: ys)) else lcW xs yesW f P
    rw [if_pos rfl]
    exact hf x (by simp) _ fun y hy => ih _ (fun z hz => hf z (by simp [hz])) fun ys hys => h _ (.cons hy hys)
/-- two clauses, both plain -/
theorem lc2W_map {P : List γ → Prop} {wi1 : α → W (List β)} {f : α → β → W γ} (k : α → List β) (g : α → β → γ) : ∀ (xs : List α) (acc : List γ), (∀ x ∈ xs, ∀ C : List β → Prop, C (k x) → wi1 x C) → (∀ x ∈ xs, ∀ y ∈ k x, ∀ C : γ → Prop, C (g x y) → f x y C) → acc.length + (xs.flatMap k).length ≤ sizeLine →
    P (acc ++ xs.flatMap fun x => (k x).map (g x)) → lc2W xs acc yesW wi1 (fun _ => yesW) f P
  | [], acc, _, _, _, h => by
    show P acc
    simpa using h
  | x :: xs, acc, hi, hf, hz, h => by
    show if true = true then wi1 x (fun ys => acc.length + ys.length ≤ sizeLine ∧ lcW ys yesW (f x) fun zs => lc2W xs (acc ++ zs) yesW wi1 (fun _ => yesW) f P) else lc2W xs acc yesW wi1 (fun _ => yesW) f P
    rw [if_pos rfl]
    rw [List.flatMap_cons, List.length_append] at hz
    refine hi x (by simp) _ ⟨by omega, ?_⟩
    refine lcW_map1 (g x) (k x) (fun y hy C c => hf x (by simp) y hy C c) ?_
    refine lc2W_map k g xs _ (fun y hy => hi y (by simp [hy])) (fun y hy => hf y (by simp [hy])) (by rw [List.length_append, List.length_map]; omega) ?_
    rw [List.flatMap_cons] at h
    rw [List.append_assoc]
    exact h
end

/-! ### isinstance(x, str), len of a text, a sign in a text -/
section
variable {X : Cx} {K : PySem.W.Frag} [HK X K] {α β γ : Type} {ρ : List (En K)} {e : Expr} {pos : Pos}
theorem rc_lenS : RCOk (fun xs H Q => ∃ z : Str, xs = [.str z] ∧ z.length ≤ sizeLine ∧ Q (.int z.length) H) (fs1 (rS : Rp K Str)) (rI : Rp K Int) (fun z P => z.length ≤ sizeLine ∧ P (z.length : Int)) := fun G H vs x P Q s ⟨v, h, q⟩ p k => by
  have e : v = V.str x := q
  subst h; subst e
  exact ⟨x, rfl, p.1, k G H _ _ (Step.refl s) p.2 rfl⟩
theorem r2_ninS : R2Ok (fun x y H Q => ∃ (c : Nat) (z : Str), x = .str ⟨#[c]⟩ ∧ y = .str z ∧ Q (.bl (!decide (c ∈ z.cps.toList))) H) (rS : Rp K Str) (rS : Rp K Str) (rB : Rp K Bool) (fun x z P => ∃ c : Nat, x = ⟨#[c]⟩ ∧ P (!decide (c ∈ z.cps.toList))) := fun G H v u x y P Q s h1 h2 ⟨c, e, p⟩ k => by
  have e1 : v = V.str x := h1
  have e2 : u = V.str y := h2
  subst e1 e2 e
  exact ⟨c, y, rfl, rfl, k G H _ _ (Step.refl s) p rfl⟩
def rIsiS (K : PySem.W.Frag) : List V → Hp → VK → Prop := fun xs H Q => ∃ z : Str, xs = [.str z, .ty "str"] ∧ Q (.bl true) H
theorem call_isiS : CallR X (.builtin "isinstance") (rIsiS X.K) := by
  intro pins s σ H xs us Q I r ⟨z, h, q⟩
  exact call_isi pins s σ H xs us Q I r ⟨_, _, _, _, true, h, .ty "str", .base (.str z), kit_ty (by decide +kernel), q⟩
/-- isinstance(x, str) of a text -/
theorem pr_isStr {p p2 : Pos} {w : W Str} (hm : X.mg "isinstance" = none) (hm2 : X.mg "str" = none) (h : PE X e (TEx ρ rS w)) (hg : Gl X "isinstance" := by rfl) (hg2 : Gl X "str" := by rfl)
    (hs : starEach [e, .Name "str" p2] X.env = (false, eval e X.env) :: starEach [.Name "str" p2] X.env := by rfl) (hs2 : starEach [.Name "str" p2] X.env = (false, eval (.Name "str" p2) X.env) :: starEach [] X.env := by rfl)
    (hpl : (backTo pos (starEach [.Name "str" p2] X.env)).any (·.1) = false := by rfl) :
    PE X (.Call (.Name "isinstance" p) [e, .Name "str" p2] [] pos) (TEx ρ rB fun P => w fun _ => P true) := by
  have hK : X.K = K := HK.eq
  subst hK
  exact pe_imp (pe_callB call_isiS hg hm (by decide +kernel) (pa_cons h (pa_cons (pe_bltn (v := .ty "str") hg2 hm2 (by decide +kernel) rfl) pa_nil hs2) hs) (by decide) (by decide) hs hpl)
    fun σ H Q ⟨G, P, s, ev, pp, c⟩ => ⟨G, _, s, ev, pp, fun G1 H1 v a st e1 pa ra => by
      have e2 : v = V.str a := ra
      subst e2
      exact ⟨a, rfl, c G1 H1 _ true st e1 pa rfl⟩⟩
end

/-! ### the greatest of triples of whole numbers -/
open PySem.W PySem.SeqAt
abbrev T3 : Type := Int × Int × Int
def triD (t : T3) : PyData := .tuple [.int t.1, .int t.2.1, .int t.2.2]
def ltT (x y : T3) : Prop := x.1 < y.1 ∨ (x.1 = y.1 ∧ (x.2.1 < y.2.1 ∨ (x.2.1 = y.2.1 ∧ x.2.2 < y.2.2)))
instance (x y : T3) : Decidable (ltT x y) := by unfold ltT; infer_instance
theorem ltT_trans {x y z : T3} (h1 : ltT x y) (h2 : ltT y z) : ltT x z := by unfold ltT at *; omega
theorem ltT_irr (x : T3) : ¬ ltT x x := by unfold ltT; omega
theorem dlt_T3 (x y : T3) : dataLt (triD x) (triD y) = decide (ltT x y) := by
  obtain ⟨a, b, c⟩ := x
  obtain ⟨a', b', c'⟩ := y
  unfold triD
  rw [dataLt_tuple]
  have ev : ∀ i j : Int, PyData.eqv (.int i) (.int j) = decide (i = j) := fun i j => by
    by_cases e : i = j
    · subst e; simp [PyData.eqv]
    · simp [PyData.eqv, e]
  by_cases h1 : a = a'
  · subst h1
    rw [dataLt_all_yes rfl (by rw [ev]; simp)]
    by_cases h2 : b = b'
    · subst h2
      rw [dataLt_all_yes rfl (by rw [ev]; simp)]
      by_cases h3 : c = c'
      · subst h3
        rw [dataLt_all_yes rfl (by rw [ev]; simp)]
        rw [decide_eq_false (ltT_irr _)]
        rfl
      · rw [dataLt_all_no rfl (by rw [ev]; simp [h3]), dataLt_int]
        congr 1
        unfold ltT
        simp
    · rw [dataLt_all_no rfl (by rw [ev]; simp [h2]), dataLt_int]
      congr 1
      unfold ltT
      simp [h2]
  · rw [dataLt_all_no rfl (by rw [ev]; simp [h1]), dataLt_int]
    congr 1
    unfold ltT
    simp [h1]
def maxT (x : T3) (xs : List T3) : T3 := xs.foldl (fun a y => if ltT a y then y else a) x
theorem maxD_T3 (x : T3) : ∀ xs : List T3, maxD (triD x) (xs.map triD) = triD (maxT x xs) := by
  intro xs
  unfold maxD maxT
  induction xs generalizing x with
  | nil => rfl
  | cons y r ih =>
    rw [List.map_cons, List.foldl_cons, List.foldl_cons, ← ih]
    (try dsimp only)
    rw [dlt_T3]
    by_cases h : ltT x y
    · simp [h]
    · simp [h]
theorem maxT_top (x : T3) : ∀ (xs : List T3), (¬ ltT (maxT x xs) x) ∧ (∀ y ∈ xs, ¬ ltT (maxT x xs) y) ∧ (maxT x xs = x ∨ maxT x xs ∈ xs) := by
  intro xs
  unfold maxT
  induction xs generalizing x with
  | nil => exact ⟨ltT_irr x, fun _ h => (nomatch h), .inl rfl⟩
  | cons y r ih =>
    rw [List.foldl_cons]
    by_cases h : ltT x y
    · rw [if_pos h]
      obtain ⟨h1, h2, h3⟩ := ih y
      refine ⟨fun z => h1 (ltT_trans z h), fun u hu => ?_, .inr (by rcases h3 with h3 | h3 <;> simp [h3])⟩
      rcases List.mem_cons.mp hu with e | hu
      · rw [e]; exact h1
      · exact h2 u hu
    · rw [if_neg h]
      obtain ⟨h1, h2, h3⟩ := ih x
      refine ⟨h1, fun u hu => ?_, by rcases h3 with h3 | h3 <;> simp [h3]⟩
      rcases List.mem_cons.mp hu with e | hu
      · rw [e]
        intro z
        exact h1 (by revert z h; unfold ltT; intros; omega)
      · exact h2 u hu
theorem triD_inj {x y : T3} (h : triD x = triD y) : x = y := by
  obtain ⟨a, b, c⟩ := x
  obtain ⟨a', b', c'⟩ := y
  unfold triD at h
  simp at h
  simp [h]
def rMaxT3 (K : PySem.W.Frag) : List V → Hp → VK → Prop := fun xs H Q => ∃ (p : Addr) (vs : List V) (ts : List T3), xs = [.ref p] ∧ SqL K H p vs ∧ DpAll K H vs (ts.map triD) ∧ ts ≠ [] ∧
  ∀ (i : Nat) (v : V) (t : T3), vs[i]? = some v → ts[i]? = some t → (∀ y ∈ ts, ¬ ltT t y) → Q v H
theorem dpAll_get {K : PySem.W.Frag} {H : Hp} : ∀ {vs : List V} {ds : List PyData}, DpAll K H vs ds → ∀ {i : Nat} {v : V}, vs[i]? = some v → ∃ d, ds[i]? = some d ∧ Dp K H v d
  | _, _, .nil, i, v, h => by simp at h
  | _, _, .cons r t, 0, v, h => by simp at h; subst h; exact ⟨_, rfl, r⟩
  | _, _, .cons r t, i + 1, v, h => by
    obtain ⟨d, e, q⟩ := dpAll_get t (i := i) (by simpa using h)
    exact ⟨d, by simpa using e, q⟩
theorem vals_back : ∀ {xs : List V} {us : List Value} {i : Nat} {u : Value}, Vals xs us → us[i]? = some u → ∃ x, xs[i]? = some x ∧ RelV x u
  | _, _, _, _, .nil, h => by simp at h
  | _, _, 0, _, .cons r t, h => by simp at h; subst h; exact ⟨_, rfl, r⟩
  | _, _, i + 1, _, .cons r t, h => by
    obtain ⟨x, e, q⟩ := vals_back (i := i) t (by simpa using h)
    exact ⟨x, by simpa using e, q⟩
theorem alike_T3 (ts : List T3) : AlikeAll (ts.map triD) := ⟨fun x hx y hy => by
  obtain ⟨a, _, rfl⟩ := List.mem_map.mp hx
  obtain ⟨b, _, rfl⟩ := List.mem_map.mp hy
  rfl, fun x hx => by
  obtain ⟨a, _, rfl⟩ := List.mem_map.mp hx
  intro z; cases z⟩
theorem depth_T3 : ∀ ts : List T3, PyData.depthAll (ts.map triD) ≤ 1
  | [] => Nat.zero_le _
  | t :: ts => by show max (PyData.depth _) (PyData.depthAll _) ≤ _; exact Nat.max_le.mpr ⟨Nat.le_refl _, depth_T3 ts⟩
section
variable {X : Cx} {K : PySem.W.Frag} [HK X K] {α β γ : Type} {ρ : List (En K)}
theorem cr_maxT3 (hu : X.A.units + 64 < cLine) (hc : X.calm = true) : CallR X (.builtin "max") (rMaxT3 X.K) := by
  intro pins s σ H xs us Q I r ⟨p, vs, ts, e, hq, hd, hne, k⟩
  subst e
  obtain ⟨its, rv, hl, _⟩ := I.list hq
  rw [Vals.ref1 r]
  obtain ⟨as, hr⟩ := Dp.readsAll I _ vs its hd rv
  cases ts with
  | nil => exact absurd rfl hne
  | cons t ts =>
    refine max_list_data (I.ok.hd hc) hl.isList hr (alike_T3 (t :: ts)) (by have := depth_T3 (t :: ts); rw [List.map_cons] at this; omega) fun i v h' tk bs hi hR hk => ?_
    have hi' : its[i]? = some v := by simpa using hi
    obtain ⟨x, hx, rx⟩ := vals_back rv hi'
    obtain ⟨d, hdi, hdp⟩ := dpAll_get hd hx
    rw [List.getElem?_map] at hdi
    cases ht : (t :: ts)[i]? with
    | none => rw [ht] at hdi; cases hdi
    | some u =>
      rw [ht] at hdi
      have ed : triD u = d := by simpa using hdi
      subst ed
      obtain ⟨as2, hR2⟩ := Dp.reads I _ x v hdp rx
      have hR3 := reads_keeps hk hR2
      rw [maxD_T3] at hR
      have e3 : triD u = triD (maxT t ts) := SeqAt.plain_unique _ _ _ _ _ rfl hR3 hR
      have e4 := triD_inj e3
      obtain ⟨m1, m2, _⟩ := maxT_top t ts
      exact ⟨x, H, I.kept hk, rx, k i x u hx ht fun y hy => by
        rw [e4]
        rcases List.mem_cons.mp hy with z | z
        · rw [z]; exact m1
        · exact m2 y z⟩
theorem rc_maxT3 : RCOk (rMaxT3 K) (fs1 (rL (rT (fsC rI (fsC rI (fs1 rI)))))) (rT (fsC rI (fsC rI (fs1 rI))) : Rp K T3) (fun ts P => ts ≠ [] ∧ ∀ t ∈ ts, (∀ y ∈ ts, ¬ ltT t y) → P t) := fun G H vs ts P Q s ⟨v, h, a, us, h1, h2, h3, h4⟩ p k => by
  subst h; subst h1
  refine ⟨a, us, ts, rfl, Same.seq s h2, ?_, p.1, fun i v t hi ht ht' => ?_⟩
  · exact DpAll.same s _ (dpAll_of (K := K) (eqT (eqfC eqI (eqfC eqI (eqf1 eqI)))) h3)
  · obtain ⟨x, hx, rx⟩ := paired_get' h3 hi
    rw [ht] at hx
    cases hx
    exact k G H v t (Step.refl s) (p.2 t (List.mem_of_getElem? ht) ht') rx
end

/-! ### an item of a list, by values -/
section
variable {X : Cx}
theorem get_list : PGet X (rIxL X.K) := by
  intro pins s σ H x y v u Q I rx ry h
  obtain ⟨p, xs, i, z, rfl, rfl, hq, he, q⟩ := h
  cases rx
  obtain ⟨t, rfl⟩ := ry
  obtain ⟨its, r, pl, hz⟩ := I.list hq
  obtain ⟨j, h1, h2, h3, h4, h5⟩ := atI_get he
  obtain ⟨w, ew, rw'⟩ := r.get h2
  have hl := r.length
  have hn := line63
  have fin : EP X pins σ Q w s := ⟨z, H, I, rw', q⟩
  by_cases h0 : 0 ≤ i
  · have hj : i.toNat = j := by
      rw [seqIndex_of h0 h5] at h1
      exact Option.some.inj h1
    exact PySem.wpAny_getItem_list pl.isList h0 (by omega) (by rw [hj]; simpa using ew) fin
  · have hj : (i + (its.toArray.size : Int)).toNat = j := by
      rw [seqIndex_neg (by omega) h4] at h1
      rw [List.size_toArray, ← hl]
      exact Option.some.inj h1
    exact PySem.wpAny_getItem_list_neg pl.isList (by omega) (by rw [List.size_toArray] <;> omega) (by omega) (by rw [hj]; simpa using ew) fin
end
end SS

set_option Elab.async false
set_option linter.all false
set_option maxRecDepth 100000
/-! MM: what the defs compute, in plain Lean, and the plain laws. Own work. -/
namespace MM
open PySem PySem.Spec L2 SS
abbrev Form : Type := List Int
abbrev Needs : Type := List (Int × List Int)
abbrev Rule : Type := Str × Needs × Int × Int × Option Int × Option Int × List Needs
set_option synthInstance.maxSize 2000
set_option synthInstance.maxHeartbeats 400000
instance instDecNeeds : DecidableEq Needs := inferInstance
instance instDecRule : DecidableEq Rule := inferInstance
instance instDecRules : DecidableEq (List Rule) := inferInstance
def SZ : List (List Int) := [[2,2,2,2], [2,2],[2,3],[3,2],[3,3],[2,2,2],[2,2,3],[2,3,2],[2,3,3],[3,2,2],[3,2,3],[3,3,2],[3,3,3]]
def wider (fs : List Form) (n : Int) : List Form := fs.flatMap fun f => (SS.rng 0 n.toNat).map fun v => f ++ [v]
def forms (s : List Int) : List Form := s.foldl wider [[]]
def steps : List Int → List Int
  | [] => []
  | _ :: r => r.foldl (· * ·) 1 :: steps r
def spc (s : List Int) : List Int × List Form × List Int := (s, forms s, steps s)
def num (s : List Int) (f : Form) : Int := (SS.rng 0 s.length).foldl (fun n i => n + f.getD i.toNat 0 * (steps s).getD i.toNat 0) 0
def okV (n : Int) : Int → List Int → Bool
  | _, [] => true
  | u, v :: r => decide (u < v) && decide (v < n) && okV n v r
def okN (s : List Int) : Int → Needs → Bool
  | _, [] => true
  | u, (i, vs) :: r => decide (u < i) && decide (i < s.length) && !vs.isEmpty && okV (s.getD i.toNat 0) (-1) vs && okN s i r
def CS : Str := "abcdefghijklmnopqrstuvwxyz0123456789_"
def NameOk (z : Str) : Prop := 1 ≤ z.length ∧ z.length ≤ 20 ∧ ∀ c ∈ z.cps.toList, c ∈ CS.cps.toList
def Big (x : Int) : Prop := -1000000000 ≤ x ∧ x ≤ 1000000000
def DayOk (x : Int) : Prop := -1000000 ≤ x ∧ x ≤ 1000000
def EndOk (o : Option Int) : Prop := ∀ x, o = some x → 0 ≤ x ∧ x ≤ 100
structure RuleOk (s : List Int) (r : Rule) : Prop where
  name : NameOk r.1
  needs : okN s (-1) r.2.1 = true
  due : Big r.2.2.1
  rank : Big r.2.2.2.1
  first : EndOk r.2.2.2.2.1
  last : EndOk r.2.2.2.2.2.1
  ends : ∀ a b, r.2.2.2.2.1 = some a → r.2.2.2.2.2.1 = some b → a ≤ b
  few : r.2.2.2.2.2.2.length ≤ 2
  unl : ∀ u ∈ r.2.2.2.2.2.2, u ≠ [] ∧ okN s (-1) u = true
def met (f : Form) (nd : Needs) : Bool := nd.all fun p => decide (f.getD p.1.toNat 0 ∈ p.2)
def spk (r : Rule) (f : Form) (d : Int) : Bool :=
  (match r.2.2.2.2.1 with | none => true | some a => decide (a ≤ d)) && (match r.2.2.2.2.2.1 with | none => true | some b => decide (d ≤ b)) && met f r.2.1 && !(r.2.2.2.2.2.2.any fun u => met f u)
def outr (r o : Rule) : Bool :=
  if r.2.2.2.1 = o.2.2.2.1 then (match o.2.2.2.2.1 with | none => true | some y => (match r.2.2.2.2.1 with | none => false | some x => decide (y ≤ x))) else decide (o.2.2.2.1 < r.2.2.2.1)
def dstep (f : Form) (d : Int) (found : Option Rule) (r : Rule) : Option Rule := if spk r f d && (match found with | none => true | some o => outr r o) then some r else found
def dcd (rs : List Rule) (f : Form) (d : Int) : Option Rule := rs.foldl (dstep f d) none
def dueOf (rs : List Rule) (df : Int) (d : Int) (f : Form) : Int := match dcd rs f d with | none => df | some r => r.2.2.1
def InR (n : Nat) (nd : Needs) : Prop := ∀ p ∈ nd, 0 ≤ p.1 ∧ p.1 < n
def RuleIn (n : Nat) (r : Rule) : Prop := InR n r.2.1 ∧ ∀ u ∈ r.2.2.2.2.2.2, InR n u
structure BookOk (s : List Int) (df : Int) (rs : List Rule) : Prop where
  sz : s ∈ SZ
  df : Big df
  few : rs.length ≤ 60
  ok : ∀ r ∈ rs, RuleOk s r
  nd : (rs.map (·.1)).Nodup
/-! the plain laws -/
theorem okN_in {s : List Int} : ∀ {nd : Needs} {u : Int}, -1 ≤ u → okN s u nd = true → InR s.length nd
  | [], _, _, _ => fun p h => nomatch h
  | (i, vs) :: r, u, hu, h => by
    simp only [okN, Bool.and_eq_true, decide_eq_true_eq] at h
    intro p hp
    rcases List.mem_cons.mp hp with e | hp
    · subst e
      exact ⟨by omega, h.1.1.1.2⟩
    · exact okN_in (by omega) h.2 p hp
theorem RuleOk.inn {s : List Int} {r : Rule} (h : RuleOk s r) : RuleIn s.length r := ⟨okN_in (by omega) h.needs, fun u hu => okN_in (by omega) (h.unl u hu).2⟩
theorem forms_len : ∀ s ∈ SZ, ∀ f ∈ forms s, f.length = s.length := by decide +kernel
theorem forms_in : ∀ s ∈ SZ, ∀ f ∈ forms s, ∀ i : Fin 4, (i : Nat) < s.length → 0 ≤ f.getD i 0 ∧ f.getD i 0 < s.getD i 0 := by decide +kernel
theorem num_at : ∀ s ∈ SZ, ∀ f ∈ forms s, (0 ≤ num s f ∧ (forms s)[(num s f).toNat]? = some f) := by decide +kernel
theorem sz_small : ∀ s ∈ SZ, 2 ≤ s.length ∧ s.length ≤ 4 := by decide +kernel
theorem sz_in : ∀ s ∈ SZ, ∀ x ∈ s, 2 ≤ x ∧ x ≤ 3 := by decide +kernel
theorem forms_few : ∀ s ∈ SZ, (forms s).length ≤ 81 := by decide +kernel
theorem forms_nd : ∀ s ∈ SZ, (forms s).Nodup := by decide +kernel
theorem steps_len : ∀ s : List Int, (steps s).length = s.length
  | [] => rfl
  | _ :: r => by show (_ :: steps r).length = _; rw [List.length_cons, steps_len r]; rfl
/-- the key of a rule at a place -/
def key (r : Rule) (k : Nat) : T3 := (r.2.2.2.1, (match r.2.2.2.2.1 with | none => -1000000000 | some x => x), (k : Int))
theorem outr_key {s : List Int} {r o : Rule} (hr : RuleOk s r) (ho : RuleOk s o) {i j : Nat} (h : i < j) : outr r o = decide (ltT (key o i) (key r j)) := by
  have h1 := hr.first
  have h2 := ho.first
  unfold outr key ltT
  by_cases e : r.2.2.2.1 = o.2.2.2.1
  · rw [if_pos e, e]
    cases eo : o.2.2.2.2.1 with
    | none =>
      cases er : r.2.2.2.2.1 with
      | none => exact (decide_eq_true (by dsimp only; omega)).symm
      | some x => have := h1 x er; exact (decide_eq_true (by dsimp only; omega)).symm
    | some y =>
      have := h2 y eo
      cases er : r.2.2.2.2.1 with
      | none => exact (decide_eq_false (by dsimp only; omega)).symm
      | some x => have := h1 x er; exact decide_eq_decide.mpr (by dsimp only; omega)
  · rw [if_neg e]
    exact decide_eq_decide.mpr (by dsimp only; omega)
/-- the decider is the greatest key among those that speak -/
theorem dcd_top {s : List Int} (f : Form) (d : Int) (rs : List Rule) (hok : ∀ r ∈ rs, RuleOk s r) :
    (dcd rs f d = none ∧ ∀ r ∈ rs, spk r f d = false) ∨ ∃ (k : Nat) (r : Rule), dcd rs f d = some r ∧ rs[k]? = some r ∧ spk r f d = true ∧ ∀ (j : Nat) (q : Rule), rs[j]? = some q → spk q f d = true → j ≠ k → ltT (key q j) (key r k) := by
  suffices ∀ (n : Nat) (rs : List Rule), rs.length = n → (∀ r ∈ rs, RuleOk s r) → (dcd rs f d = none ∧ ∀ r ∈ rs, spk r f d = false) ∨ ∃ (k : Nat) (r : Rule), dcd rs f d = some r ∧ rs[k]? = some r ∧ spk r f d = true ∧ ∀ (j : Nat) (q : Rule), rs[j]? = some q → spk q f d = true → j ≠ k → ltT (key q j) (key r k) from this _ rs rfl hok
  intro n
  induction n with
  | zero => intro rs hn _; rw [List.length_eq_zero_iff.mp hn]; exact .inl ⟨rfl, fun r h => nomatch h⟩
  | succ n ih =>
    intro rs hn hok
    have hne : rs ≠ [] := fun z => by rw [z] at hn; cases hn
    have es : rs = rs.dropLast ++ [rs.getLast hne] := (List.dropLast_concat_getLast hne).symm
    generalize eq : rs.dropLast = qs at es
    generalize el : rs.getLast hne = l at es
    have hq : qs.length = n := by rw [es] at hn; simpa using hn
    have hokq : ∀ r ∈ qs, RuleOk s r := fun r hr => hok r (by rw [es]; simp [hr])
    have hl : RuleOk s l := hok l (by rw [es]; simp)
    have ed : dcd rs f d = dstep f d (dcd qs f d) l := by rw [es]; unfold dcd; rw [List.foldl_append]; rfl
    have gl : rs[n]? = some l := by rw [es, ← hq]; simp
    have gq : ∀ {j : Nat} {q : Rule}, rs[j]? = some q → (j = n ∧ q = l) ∨ qs[j]? = some q ∧ j < n := fun {j q} h => by
      rw [es] at h
      by_cases hj : j < qs.length
      · exact .inr ⟨by rw [List.getElem?_append_left hj] at h; exact h, by omega⟩
      · rw [List.getElem?_append_right (by omega)] at h
        have : j - qs.length = 0 := by
          rcases Nat.eq_zero_or_pos (j - qs.length) with z | z
          · exact z
          · rw [List.getElem?_eq_none (by simp only [List.length_cons, List.length_nil]; omega)] at h; cases h
        rw [this] at h
        have e : l = q := by simpa using h
        exact .inl ⟨by omega, e.symm⟩
    have gq' : ∀ {j : Nat} {q : Rule}, qs[j]? = some q → rs[j]? = some q := fun {j q} h => by
      rw [es, List.getElem?_append_left (List.getElem?_eq_some_iff.mp h).1]; exact h
    rw [ed]
    rcases ih qs hq hokq with ⟨h1, h2⟩ | ⟨k, r, h1, h2, h3, h4⟩
    · rw [h1]
      unfold dstep
      cases hs : spk l f d with
      | true =>
        refine .inr ⟨n, l, by simp, gl, hs, fun j q hj hsq hne => ?_⟩
        rcases gq hj with ⟨e, _⟩ | ⟨hj', _⟩
        · exact absurd e hne
        · rw [h2 q (List.mem_of_getElem? hj')] at hsq; cases hsq
      | false =>
        refine .inl ⟨by simp, fun r hr => ?_⟩
        rw [es] at hr
        rcases List.mem_append.mp hr with z | z
        · exact h2 r z
        · rw [List.mem_singleton.mp z]; exact hs
    · rw [h1]
      have hk : k < n := by rw [← hq]; exact (List.getElem?_eq_some_iff.mp h2).1
      have hr : RuleOk s r := hokq r (List.mem_of_getElem? h2)
      unfold dstep
      cases hs : spk l f d with
      | false =>
        refine .inr ⟨k, r, by simp, gq' h2, h3, fun j q hj hsq hne => ?_⟩
        rcases gq hj with ⟨_, e⟩ | ⟨hj', _⟩
        · subst e; rw [hs] at hsq; cases hsq
        · exact h4 j q hj' hsq hne
      | true =>
        simp only [Bool.true_and]
        rw [outr_key hl hr hk]
        by_cases hlt : ltT (key r k) (key l n)
        · rw [decide_eq_true hlt]
          refine .inr ⟨n, l, by simp, gl, hs, fun j q hj hsq hne => ?_⟩
          rcases gq hj with ⟨e, _⟩ | ⟨hj', _⟩
          · exact absurd e hne
          · by_cases e : j = k
            · subst e
              rw [h2] at hj'
              cases hj'
              exact hlt
            · exact ltT_trans (h4 j q hj' hsq e) hlt
        · rw [decide_eq_false hlt]
          refine .inr ⟨k, r, by simp, gq' h2, h3, fun j q hj hsq hne => ?_⟩
          rcases gq hj with ⟨e1, e2⟩ | ⟨hj', _⟩
          · subst e1 e2
            revert hlt
            unfold key ltT
            intro hlt
            simp only at hlt ⊢
            omega
          · exact h4 j q hj' hsq hne
end MM

set_option Elab.async false
set_option linter.all false
set_option maxRecDepth 100000
/-! MH: small helps for the conditions. Own work. -/
namespace MM
open PySem PySem.Spec L2 SS
theorem rng_mem {lo : Int} {n : Nat} {pre suf : List Int} {x : Int} (h : rng lo n = pre ++ x :: suf) : x = lo + (pre.length : Int) ∧ pre.length < n ∧ pre = rng lo pre.length := by
  have h1 : (rng lo n)[pre.length]? = some x := by rw [h]; simp
  obtain ⟨h2, h3⟩ := rng_get h1
  refine ⟨h3, h2, ?_⟩
  have h4 : (rng lo n).take pre.length = pre := by rw [h]; simp
  have h5 : (rng lo n).take pre.length = rng lo pre.length := by
    unfold rng
    rw [← List.map_take, List.take_range, Nat.min_eq_left (Nat.le_of_lt h2)]
  rw [← h4, h5]
  simp [rng_len]
theorem rng_snoc (lo : Int) (n : Nat) : rng lo (n + 1) = rng lo n ++ [lo + (n : Int)] := by unfold rng; rw [List.range_succ]; simp
theorem rng_in {lo x : Int} {n : Nat} (h : x ∈ rng lo n) : lo ≤ x ∧ x < lo + (n : Int) := by
  unfold rng at h
  obtain ⟨i, h1, h2⟩ := List.mem_map.mp h
  have := List.mem_range.mp h1
  omega
theorem atI_of {α : Type} {xs : List α} {z : Int} (d : α) (h0 : 0 ≤ z) (h1 : z < (xs.length : Int)) : atI xs z = some (xs.getD z.toNat d) := by
  obtain ⟨n, rfl⟩ := Int.eq_ofNat_of_zero_le h0
  have hl : n < xs.length := by omega
  refine atI_nat ?_
  rw [List.getElem?_eq_getElem hl]
  simp [hl]
theorem ixN_of {n : Nat} {z : Int} (h0 : 0 ≤ z) (h1 : z < (n : Int)) : ixN n z = some z.toNat := by
  unfold ixN
  rw [if_pos h0, if_pos h1]
theorem cmulL {i j : Int} (h1 : -(2 ^ 64) < i) (h2 : i < 2 ^ 64) : CMul i j := .inl ⟨h1, h2⟩
theorem cmulR {i j : Int} (h1 : -(2 ^ 64) < j) (h2 : j < 2 ^ 64) : CMul i j := .inr ⟨h1, h2⟩
theorem small {n : Nat} (h : n ≤ 1000000) : n ≤ sizeLine := by have := szl; omega
theorem smallS {n : Nat} (h : n < 1000000) : n < sizeLine := by have := szl; omega
theorem sz_pre : ∀ s ∈ SZ, ∀ k : Fin 5, (forms (s.take k)).length ≤ 81 ∧ ∀ f ∈ forms (s.take k), f.length ≤ 4 := by decide +kernel
theorem sz_split {s pre suf : List Int} {x : Int} (h : s ∈ SZ) (e : s = pre ++ x :: suf) : (2 ≤ x ∧ x ≤ 3) ∧ (forms pre).length ≤ 81 ∧ ∀ f ∈ forms pre, f.length ≤ 4 := by
  have hx := sz_in s h x (by rw [e]; simp)
  have hl := (sz_small s h).2
  have hp : pre.length < 5 := by rw [e] at hl; simp at hl; omega
  have := sz_pre s h ⟨pre.length, hp⟩
  have e2 : s.take pre.length = pre := by rw [e]; simp
  dsimp only at this
  rw [e2] at this
  exact ⟨hx, this⟩
theorem forms_snoc (pre : List Int) (x : Int) : forms (pre ++ [x]) = wider (forms pre) x := by unfold forms; rw [List.foldl_append]; rfl
theorem forW_all {α β : Type} {xs : List α} {f : Unit → α → W (Out Unit Unit β)} {N : Unit → Prop} {Rr : β → Prop} (h : ∀ x ∈ xs, ∀ C : Out Unit Unit β → Prop, C (.nx ()) → f () x C) (hN : N ()) : forW xs () f N Rr :=
  forW_inv (fun _ _ _ => True) trivial (fun pre x suf st C e _ h1 _ _ _ => h x (by rw [e]; simp) C (h1 () trivial)) (fun _ _ => hN)
theorem dT {p : Prop} [Decidable p] (h : p) : decide p = true := decide_eq_true h
theorem dF {p : Prop} [Decidable p] (h : ¬ p) : decide p = false := decide_eq_false h
theorem sign_of {z x : Str} (h : x ∈ signs z) : ∃ c : Nat, x = ⟨#[c]⟩ ∧ c ∈ z.cps.toList := by
  unfold signs at h
  obtain ⟨c, h1, h2⟩ := List.mem_map.mp h
  exact ⟨c, h2.symm, h1⟩
theorem len_cps (z : Str) : z.length = z.cps.size := rfl
theorem nodup_mid {α β : Type} {f : α → β} {pre suf : List α} {x : α} (h : ((pre ++ x :: suf).map f).Nodup) : f x ∉ pre.map f := by
  rw [List.map_append, List.map_cons] at h
  have h3 := (List.nodup_append.mp h).2.2
  intro z
  exact h3 _ z _ (by simp) rfl
theorem wider_len (fs : List Form) (x : Int) (h : x ≤ 3) : (wider fs x).length ≤ fs.length * 3 := by
  unfold wider
  induction fs with
  | nil => simp
  | cons y l ih => rw [List.flatMap_cons, List.length_append, List.length_map, rng_len, List.length_cons]; omega
def dfl : Rule := ("", [], 0, 0, none, none, [])
theorem rng_cons (lo : Int) (n : Nat) : rng lo (n + 1) = lo :: rng (lo + 1) n := by
  unfold rng
  rw [List.range_succ_eq_map, List.map_cons, List.map_map]
  congr 1
  · simp
  · apply List.map_congr_left
    intro i _
    simp only [Function.comp]
    omega
theorem okV_sub {n : Int} : ∀ (m : Nat) (lo u : Int) (ys : List Int), ys.Sublist (rng lo m) → lo + (m : Int) ≤ n → u < lo → okV n u ys = true
  | 0, lo, u, ys, h, _, _ => by
    have : ys = [] := by simpa [rng] using h
    rw [this]; rfl
  | m + 1, lo, u, ys, h, h1, h2 => by
    rw [rng_cons] at h
    cases h with
    | cons _ h => exact okV_sub m (lo + 1) u ys h (by omega) (by omega)
    | cons_cons _ h =>
      rename_i r
      have := okV_sub (n := n) m (lo + 1) lo r h (by omega) (by omega)
      simp only [okV, Bool.and_eq_true, decide_eq_true_eq]
      exact ⟨⟨h2, by omega⟩, this⟩
theorem okN_snoc {s : List Int} {i : Int} {vs : List Int} : ∀ {nd : Needs} {u : Int}, okN s u nd = true → (∀ p ∈ nd, p.1 < i) → u < i → i < (s.length : Int) → vs ≠ [] → okV (s.getD i.toNat 0) (-1) vs = true → okN s u (nd ++ [(i, vs)]) = true
  | [], u, _, _, h1, h2, h3, h4 => by
    have : vs.isEmpty = false := by cases vs with
      | nil => exact absurd rfl h3
      | cons _ _ => rfl
    simp only [List.nil_append, okN, Bool.and_eq_true, decide_eq_true_eq, this, h4]
    exact ⟨⟨⟨⟨h1, h2⟩, rfl⟩, trivial⟩, trivial⟩
  | (j, ws) :: r, u, h, hp, h1, h2, h3, h4 => by
    simp only [okN, Bool.and_eq_true, decide_eq_true_eq] at h
    rw [List.cons_append]
    simp only [okN, Bool.and_eq_true, decide_eq_true_eq]
    exact ⟨h.1, okN_snoc h.2 (fun p hp' => hp p (by simp [hp'])) (hp (j, ws) (by simp)) h2 h3 h4⟩
theorem paired_eq {α : Type} : ∀ {xs ys : List α}, Paired (fun x y => y = x) xs ys → ys = xs
  | _, _, .nil => rfl
  | _, _, .cons r t => by rw [r, paired_eq t]
theorem couples_step {s : List Int} {x : Int} {q : Needs} {C : Out Needs Needs Needs → Prop} (h0 : 0 ≤ x) (h1 : x < (s.length : Int)) (g1 : 2 ≤ s.getD x.toNat 0) (g2 : s.getD x.toNat 0 ≤ 3) (hq : q.length < 100000)
    (hC : ∀ vs : List Int, vs ≠ [] → okV (s.getD x.toNat 0) (-1) vs = true → C (.nx (q ++ [(x, vs)]))) :
    ∃ y, atI s x = some y ∧ (y < 1000000 ∧ -1000000 < y) ∧ lcW (rng 0 y.toNat) (fun _ P => ((0 : Int) < 2 ∧ (2 : Int) < 1000000) ∧ ∀ r : Int, 0 ≤ r → r < 2 → P (decide (r = 0))) (fun v P => P v) fun ys => ∀ _ : Addr,
      if decide (ys = []) = true then ∃ y, atI s x = some y ∧ (0 < y ∧ y < 1000000) ∧ ∀ r : Int, 0 ≤ r → r < y → (q.length ≤ sizeLine → q.length < sizeLine) ∧ C (.nx (q ++ [(x, [r])])) else (q.length ≤ sizeLine → q.length < sizeLine) ∧ C (.nx (q ++ [(x, ys)])) := by
  refine ⟨_, atI_of 0 h0 h1, ⟨by omega, by omega⟩, ?_⟩
  refine lcW_all (fun x y => y = x) _ _ (fun x _ C c => ⟨by decide, fun r _ _ => c _⟩) (fun x _ C c => c x rfl) (fun ys hy p => ?_)
  obtain ⟨zs, hs, hp⟩ := hy
  have ey := paired_eq hp
  subst ey
  by_cases hy : ys = []
  · rw [dT hy, if_pos rfl]
    refine ⟨_, atI_of 0 h0 h1, ⟨by omega, by omega⟩, fun r r1 r2 => ⟨fun _ => smallS (by omega), hC [r] (by simp) ?_⟩⟩
    simp only [okV, Bool.and_eq_true, decide_eq_true_eq]
    exact ⟨⟨by omega, r2⟩, trivial⟩
  · rw [dF hy, if_neg (by decide)]
    exact ⟨fun _ => smallS (by omega), hC ys hy (okV_sub _ 0 (-1) ys hs (by omega) (by omega))⟩
theorem ends_pick (f l k : Int) (f1 : 0 ≤ f) (f2 : f < 9) (l1 : 0 ≤ l) (l2 : l < 6) (k1 : 0 ≤ k) (k2 : k < 6) :
    ∃ y : Option Int × Option Int, atI [(some f, some (f + l)), (some f, some (f + l)), (some f, none), (none, some (f + l)), (none, none), (none, none)] k = some y ∧ EndOk y.1 ∧ EndOk y.2 ∧ ∀ a b, y.1 = some a → y.2 = some b → a ≤ b := by
  have en : EndOk none := fun x e => nomatch e
  have ef : EndOk (some f) := fun x e => by cases e; omega
  have el : EndOk (some (f + l)) := fun x e => by cases e; omega
  have fl : ∀ a b, (some f : Option Int) = some a → (some (f + l) : Option Int) = some b → a ≤ b := fun a b e1 e2 => by cases e1; cases e2; omega
  rcases (show k = 0 ∨ k = 1 ∨ k = 2 ∨ k = 3 ∨ k = 4 ∨ k = 5 by omega) with e | e | e | e | e | e <;> subst e
  · exact ⟨_, rfl, ef, el, fl⟩
  · exact ⟨_, rfl, ef, el, fl⟩
  · exact ⟨_, rfl, ef, en, fun a b _ e => nomatch e⟩
  · exact ⟨_, rfl, en, el, fun a b e => nomatch e⟩
  · exact ⟨_, rfl, en, en, fun a b e => nomatch e⟩
  · exact ⟨_, rfl, en, en, fun a b e => nomatch e⟩
theorem cpow_64 : CPow 2 64 := by unfold CPow; decide
theorem cpow_18 : CPow 10 18 := by unfold CPow; decide
theorem cpow_6 : CPow 10 6 := by unfold CPow; decide
theorem dT' {p : Prop} {i : Decidable p} (h : p) : @decide p i = true := by cases i with
  | isTrue _ => rfl
  | isFalse n => exact absurd h n
theorem dF' {p : Prop} {i : Decidable p} (h : ¬ p) : @decide p i = false := by cases i with
  | isTrue y => exact absurd y h
  | isFalse _ => rfl
theorem cpow_9 : CPow 10 9 := by unfold CPow; decide
theorem okN_len {s : List Int} : ∀ {nd : Needs} {u : Int}, okN s u nd = true → -1 ≤ u → (nd.length : Int) + u + 1 ≤ (s.length : Int) ∨ nd = []
  | [], _, _, _ => .inr rfl
  | (i, vs) :: r, u, h, hu => by
    simp only [okN, Bool.and_eq_true, decide_eq_true_eq] at h
    have h1 := h.1.1.1
    rcases okN_len h.2 (by omega) with z | z
    · left; rw [List.length_cons]; omega
    · left; rw [z]; simp only [List.length_cons, List.length_nil]; omega
theorem okV_len {n : Int} : ∀ {vs : List Int} {u : Int}, okV n u vs = true → -1 ≤ u → (vs.length : Int) + u + 1 ≤ n ∨ vs = []
  | [], _, _, _ => .inr rfl
  | v :: r, u, h, hu => by
    simp only [okV, Bool.and_eq_true, decide_eq_true_eq] at h
    rcases okV_len h.2 (by omega) with z | z
    · left; rw [List.length_cons]; omega
    · left; rw [z]; simp only [List.length_cons, List.length_nil]; omega
theorem okN_mem {s : List Int} : ∀ {nd : Needs} {u : Int}, okN s u nd = true → ∀ p ∈ nd, okV (s.getD p.1.toNat 0) (-1) p.2 = true
  | [], _, _ => fun p h => nomatch h
  | (i, vs) :: r, u, h => by
    simp only [okN, Bool.and_eq_true, decide_eq_true_eq] at h
    intro p hp
    rcases List.mem_cons.mp hp with e | hp
    · subst e; exact h.1.2
    · exact okN_mem h.2 p hp
theorem sz_get {s : List Int} (hs : s ∈ SZ) (i : Nat) : s.getD i 0 ≤ 3 := by
  by_cases h : i < s.length
  · have := sz_in s hs (s.getD i 0) (by rw [List.getD_eq_getElem?_getD, List.getElem?_eq_getElem h]; exact List.getElem_mem h)
    exact this.2
  · rw [List.getD_eq_getElem?_getD, List.getElem?_eq_none (by omega)]; decide
theorem needs_small {s : List Int} {nd : Needs} (hs : s ∈ SZ) (h : okN s (-1) nd = true) : nd.length ≤ 4 ∧ ∀ p ∈ nd, p.2.length ≤ 3 := by
  have b2 := (sz_small s hs).2
  refine ⟨?_, fun p hp => ?_⟩
  · rcases okN_len h (by omega) with z | z
    · omega
    · rw [z]; exact Nat.zero_le _
  · have h3 := sz_get hs p.1.toNat
    rcases okV_len (okN_mem h p hp) (by omega) with z | z
    · omega
    · rw [z]; exact Nat.zero_le _
def nm (k : Int) : Str := Str.ofString "r" ++ Str.ofString (toString k)
instance (z : Str) : Decidable (NameOk z) := by unfold NameOk; infer_instance
theorem nm_fin : ∀ k : Fin 10, ((k : Nat) : Int).natAbs.log2 < 1920 ∧ (Str.ofString "r").length + (Str.ofString (toString ((k : Nat) : Int))).length ≤ 1000 ∧ NameOk (nm ((k : Nat) : Int)) := by decide +kernel
theorem nm_inj : ∀ j k : Fin 10, nm ((j : Nat) : Int) = nm ((k : Nat) : Int) → j = k := by decide +kernel
theorem nm_ok {k : Int} (h0 : 0 ≤ k) (h1 : k < 10) : k.natAbs.log2 < 1920 ∧ (Str.ofString "r").length + (Str.ofString (toString k)).length ≤ sizeLine ∧ NameOk (Str.ofString "r" ++ Str.ofString (toString k)) := by
  obtain ⟨n, rfl⟩ := Int.eq_ofNat_of_zero_le h0
  have := nm_fin ⟨n, by omega⟩
  exact ⟨this.1, small (by have := this.2.1; dsimp only at this; omega), this.2.2⟩
theorem nm_nodup (n : Nat) (h : n ≤ 10) : ((rng 0 n).map nm).Nodup := by
  unfold rng
  rw [List.map_map]
  refine (List.pairwise_map).mpr ?_
  refine List.Pairwise.imp_of_mem ?_ (List.nodup_range (n := n))
  intro a b ha hb hne z
  have ha' := List.mem_range.mp ha
  have hb' := List.mem_range.mp hb
  have := nm_inj ⟨a, by omega⟩ ⟨b, by omega⟩ (by simpa [Function.comp] using z)
  exact hne (by simpa using this)
theorem paired_all {α β : Type} {F : α → β → Prop} : ∀ {xs : List α} {ys : List β}, Paired F xs ys → ∀ y ∈ ys, ∃ x ∈ xs, F x y
  | _, _, .nil => fun y h => nomatch h
  | _, _, .cons r t => fun y h => by
    rcases List.mem_cons.mp h with e | h
    · subst e; exact ⟨_, by simp, r⟩
    · obtain ⟨x, hx, q⟩ := paired_all t y h
      exact ⟨x, by simp [hx], q⟩
theorem paired_map {α β γ : Type} {f : α → γ} {g : β → γ} : ∀ {xs : List α} {ys : List β}, Paired (fun x y => g y = f x) xs ys → ys.map g = xs.map f
  | _, _, .nil => rfl
  | _, _, .cons r t => by rw [List.map_cons, List.map_cons, r, paired_map t]
abbrev Made : Type := ((List Int × List Form × List Int) × Int × List Rule) × List Int × List Form × Int × List Rule
structure MadeOk (q : Made) : Prop where
  sp : q.1.1 = spc q.2.1
  bk : BookOk q.2.1 q.1.2.1 q.1.2.2
  fm : q.2.2.1 = forms q.2.1
  df : q.2.2.2.1 = q.1.2.1
  rs : q.2.2.2.2 = q.1.2.2
  few : q.1.2.2.length ≤ 9
theorem rank_ok {s : List Int} {x : Rule} (h : RuleOk s x) (b : Int) (b0 : 0 ≤ b) (b1 : b < 2) : RuleOk s (x.1, x.2.1, x.2.2.1, 10 ^ Int.toNat 9 * (1 - 2 * b), x.2.2.2.2.1, x.2.2.2.2.2.1, x.2.2.2.2.2.2) := by
  refine ⟨h.name, h.needs, h.due, ?_, h.first, h.last, h.ends, h.few, h.unl⟩
  have e9 : (10 : Int) ^ Int.toNat 9 = 1000000000 := by decide
  show Big (10 ^ Int.toNat 9 * (1 - 2 * b))
  rw [e9]
  rcases (show b = 0 ∨ b = 1 by omega) with z | z <;> subst z <;> exact ⟨by omega, by omega⟩
theorem set_names {rs : List Rule} {k : Nat} {x y : Rule} (h : rs[k]? = some x) (e : y.1 = x.1) : (rs.set k y).map (·.1) = rs.map (·.1) := by
  rw [List.map_set]
  apply List.ext_getElem?
  intro j
  by_cases hj : k = j
  · subst hj
    have hl := (List.getElem?_eq_some_iff.mp h).1
    rw [List.getElem?_set_self (by rw [List.length_map]; exact hl), List.getElem?_map, h]
    show some y.1 = some x.1
    rw [e]
  · rw [List.getElem?_set_ne hj]
theorem max23 : max (2 : Int) 3 = 3 := by decide
end MM

set_option Elab.async false
set_option linter.all false
set_option maxRecDepth 100000
/-! SSH: own rules: the pool of draws, read and changed. Own work. -/
namespace SS
open PySem PySem.Spec L2
section
variable {K : PySem.W.Frag} {ρ : List (En K)}
theorem pool_get {i : Nat} {p g : Addr} (h : ρ[i]? = some (.pool p g)) {G H : Hp} {σ : L2.St} (ev : EnvOk ρ G H σ) : σ[i]? = some (some (.ref p)) ∧ PoolAt G H p g := by
  obtain ⟨o, ho, e, q⟩ := ev.ok i _ h
  subst e
  exact ⟨ho, q⟩
theorem ref_get {i : Nat} {u : V} (h : ρ[i]? = some (.fr (rV u) ())) {G H : Hp} {σ : L2.St} (ev : EnvOk ρ G H σ) : σ[i]? = some (some u) := by
  obtain ⟨o, ho, v, e, q⟩ := ev.ok i _ h
  have q' : v = u := q
  subst e q'
  exact ho
theorem int_get {i : Nat} {n : Int} (h : ρ[i]? = some (.fr rI n)) {G H : Hp} {σ : L2.St} (ev : EnvOk ρ G H σ) : σ[i]? = some (some (.int n)) := by
  obtain ⟨o, ho, v, e, q⟩ := ev.ok i _ h
  have q' : v = .int n := q
  subst e q'
  exact ho
theorem pool_upd {i : Nat} {p g a : Addr} {o : HO} (h : ρ[i]? = some (.pool p g)) (hone : pls ρ = [(p, g)]) {G H : Hp} {σ : L2.St} (ev : EnvOk ρ G H σ) (s : Same G H) (ha : a = p ∨ a = g) (hn : PoolAt G (upd H a o) p g) :
    Step (padr ρ) G H G (upd H a o) ∧ EnvOk ρ G (upd H a o) σ := by
  have hpd : padr ρ = [p, g] := by unfold padr; rw [hone]; rfl
  have na : G a = none := by
    rcases ha with e | e
    · rw [e]; exact hn.1
    · rw [e]; exact hn.2.1
  have st : Step [p, g] G H G (upd H a o) := Step.put s (by simpa using ha) na
  refine ⟨by rw [hpd]; exact st, ev.len, fun j e' hj => ?_, ev.nd⟩
  obtain ⟨o', ho', q⟩ := ev.ok j e' hj
  refine ⟨o', ho', ?_⟩
  cases e' with
  | pool a' b' =>
    have : (a', b') ∈ pls ρ := pls_mem hj (by simp [En.pl])
    rw [hone] at this
    have e : (a', b') = (p, g) := by simpa using this
    cases e
    exact ⟨q.1, hn⟩
  | off => trivial
  | fr R' x' => exact En.step (e := .fr R' x') q st fun a ha => nomatch ha
  | own a' R' x' => exact En.step (e := .own a' R' x') q st fun a ha z => own_ne_pool ev.nd hj h ha (by simpa using z)
  | obj a' C' x' => exact En.step (e := .obj a' C' x') q st fun a ha z => own_ne_pool ev.nd hj h ha (by simpa using z)
theorem at0 {α : Type} (x : α) (xs : List α) : atI (x :: xs) 0 = some x := atI_nat (j := 0) rfl
theorem dInts {H : Hp} : ∀ gs : List Int, DpAll K H (gs.map V.int) (gs.map PyData.int)
  | [] => .nil
  | x :: r => .cons (.int x) (dInts r)
theorem plInts : ∀ gs : List Int, PyData.plainAll (gs.map PyData.int) = true
  | [] => rfl
  | x :: r => by show (PyData.plain _ && PyData.plainAll _) = true; rw [plInts r]; rfl
theorem deInts : ∀ gs : List Int, PyData.depthAll (gs.map PyData.int) ≤ 0
  | [] => Nat.le_refl _
  | x :: r => by show max (PyData.depth _) (PyData.depthAll _) ≤ _; exact Nat.max_le.mpr ⟨Nat.le_refl _, deInts r⟩
theorem ints_pair {G : Hp} : ∀ gs : List Int, Paired ((rI : Rp K Int).ok G) (gs.map V.int) gs
  | [] => .nil
  | x :: r => .cons rfl (ints_pair r)
end
section
variable {X : Cx} {K : PySem.W.Frag} [HK X K] {τ ℓ β : Type} {ρ : List (En K)} {post : τ → List (En K)} {lp : ℓ → List (En K)} {R : Rp K β} {rest : List Stmt} {pos pn p0 : Pos} {nm : Str} {i : Nat} {p g : Addr}
theorem pr_plA {j0} (hv : PE X (.Name nm pn) (tVar i)) (hi : ρ[i]? = some (.pool p g)) : PE X (.Subscript (.Name nm pn) (.Constant (.int 0) j0 p0) pos) (TEx ρ (rV (.ref g)) fun P => P ()) := by
  refine pe_imp (pe_ix ix_list hv pe_int (fun _ _ => rfl)) fun σ H Q ⟨G, P, s, ev, pp, c⟩ => ?_
  obtain ⟨hσ, _, _, _, sm, cc, m, gs, ns, h4, h5, h6, h7⟩ := pool_get hi ev
  exact ⟨.ref p, hσ, p, _, 0, .ref g, rfl, rfl, SqL.of h4, rfl, c.go s ev pp rfl⟩
theorem pr_plB {j0} (hv : PE X (.Name nm pn) (tVar i)) (hi : ρ[i]? = some (.pool p g)) : PE X (.Subscript (.Name nm pn) (.Constant (.int 1) j0 p0) pos) (TEx ρ (rL rI) fun P => ∀ ns : List Int, ns ≠ [] → P ns) := by
  refine pe_imp (pe_ix ix_list hv pe_int (fun _ _ => rfl)) fun σ H Q ⟨G, P, s, ev, pp, c⟩ => ?_
  obtain ⟨hσ, _, _, _, sm, cc, m, gs, ns, h4, h5, h6, h7, h8, h9⟩ := pool_get hi ev
  refine ⟨.ref p, hσ, p, _, 1, .ref sm, rfl, rfl, SqL.of h4, rfl, c.go s ev (pp ns h7) ⟨sm, _, rfl, SqL.of h6, ints_pair ns, ?_⟩⟩
  rw [List.length_map]
  have := szl
  omega
theorem pr_plC {j0} (hv : PE X (.Name nm pn) (tVar i)) (hi : ρ[i]? = some (.pool p g)) : PE X (.Subscript (.Name nm pn) (.Constant (.int 2) j0 p0) pos) (TEx ρ rI fun P => ∀ x : Int, P x) := by
  refine pe_imp (pe_ix ix_list hv pe_int (fun _ _ => rfl)) fun σ H Q ⟨G, P, s, ev, pp, c⟩ => ?_
  obtain ⟨hσ, _, _, _, sm, cc, m, gs, ns, h4, h5, h6, h7⟩ := pool_get hi ev
  exact ⟨.ref p, hσ, p, _, 2, .int cc, rfl, rfl, SqL.of h4, rfl, c.go s ev (pp cc) rfl⟩
theorem pr_plD {j0} (hv : PE X (.Name nm pn) (tVar i)) (hi : ρ[i]? = some (.pool p g)) : PE X (.Subscript (.Name nm pn) (.Constant (.int 3) j0 p0) pos) (TEx ρ rI fun P => ∀ x : Int, P x) := by
  refine pe_imp (pe_ix ix_list hv pe_int (fun _ _ => rfl)) fun σ H Q ⟨G, P, s, ev, pp, c⟩ => ?_
  obtain ⟨hσ, _, _, _, sm, cc, m, gs, ns, h4, h5, h6, h7⟩ := pool_get hi ev
  exact ⟨.ref p, hσ, p, _, 3, .int m, rfl, rfl, SqL.of h4, rfl, c.go s ev (pp m) rfl⟩
/-- pool[2] += 1 -/
theorem b_plAug {j0 j1} {sp p1 : Pos} {m : W (Out τ ℓ β)} (hv : PE X (.Name nm pn) (tVar i)) (hi : ρ[i]? = some (.pool p g)) (hr : PSs X rest (TBO ρ post lp R m)) (hone : pls ρ = [(p, g)] := by rfl) :
    PSs X (.AugAssign (.Subscript (.Name nm pn) (.Constant (.int 2) j0 p0) sp) .Add (.Constant (.int 1) j1 p1) pos :: rest) (TBO ρ post lp R m) := by
  refine pss_imp (pss_cons (ps_augS hv pe_int get_list pe_int ip_add set_list) hr) fun D σ H ⟨G, P, s, ev, pp, c⟩ => ?_
  obtain ⟨hσ, h1, h2, h3, sm, cc, m0, gs, ns, h4, h5, h6, h7⟩ := pool_get hi ev
  have hn : PoolAt G (upd H p (.lst [.ref g, .ref sm, .int (cc + 1), .int m0])) p g := ⟨h1, h2, h3, sm, cc + 1, m0, gs, ns, upd_same, by rw [upd_ne (Ne.symm h3)]; exact h5, h6, h7⟩
  obtain ⟨st, e2⟩ := pool_upd hi hone ev s (.inl rfl) hn
  exact ⟨.ref p, hσ, p, _, 2, .int cc, rfl, rfl, SqL.of h4, rfl, cc, 1, rfl, rfl, p, _, 2, 2, rfl, rfl, h4, rfl, G, P, st.gh, e2, pp, c.step (st.wide fun a ha => padr_sub ha) (fun b hb => .inl hb) fun q hq => hq⟩
/-- pool[3] = e -/
theorem b_plSet {j0} {sp : Pos} {e : Expr} {w : W Int} {m : W (Out τ ℓ β)} (hv : PE X (.Name nm pn) (tVar i)) (hi : ρ[i]? = some (.pool p g)) (h : PE X e (TEx ρ rI w)) (hr : PSs X rest (TBO ρ post lp R m)) (hone : pls ρ = [(p, g)] := by rfl)
    (ha : ∀ v, assign (.Subscript (.Name nm pn) (.Constant (.int 3) j0 p0) sp) X.env v = (do
      let ov ← holding [v] (eval (.Name nm pn) X.env)
      let iv ← holding [v, ov] (eval (.Constant (.int 3) j0 p0) X.env)
      standAt sp
      holding [v, ov, iv] (setItem ov iv v)
      release [v, ov, iv] []) := by intro _; rfl)
    (hs : swapsWithSole [.Subscript (.Name nm pn) (.Constant (.int 3) j0 p0) sp] e pos.line X.env = pure false := by rfl) (hw : swappedStores [.Subscript (.Name nm pn) (.Constant (.int 3) j0 p0) sp] e X.env = pure none := by rfl) (h1 : (assignEach [.Subscript (.Name nm pn) (.Constant (.int 3) j0 p0) sp] X.env).map (·.2) = [assign (.Subscript (.Name nm pn) (.Constant (.int 3) j0 p0) sp) X.env] := by rfl) :
    PSs X (.Assign [.Subscript (.Name nm pn) (.Constant (.int 3) j0 p0) sp] e pos :: rest) (TBO ρ post lp R fun P => w fun _ => m P) := by
  refine pss_imp (pss_cons (ps_asg h (pg_sub hv pe_int set_list ha) hs hw h1) hr) fun D σ H ⟨G, P, s, ev, pp, c⟩ => ⟨G, _, s, ev, pp, fun G1 H1 v z st e1 pz rz => ?_⟩
  have rz' : v = .int z := rz
  subst rz'
  obtain ⟨hσ, h1, h2, h3, sm, cc, m0, gs, ns, h4, h5, h6, h7⟩ := pool_get hi e1
  have hn : PoolAt G1 (upd H1 p (.lst [.ref g, .ref sm, .int cc, .int z])) p g := ⟨h1, h2, h3, sm, cc, z, gs, ns, upd_same, by rw [upd_ne (Ne.symm h3)]; exact h5, h6, h7⟩
  obtain ⟨st2, e2⟩ := pool_upd hi hone e1 st.gh (.inl rfl) hn
  exact ⟨.ref p, hσ, p, _, 3, 3, rfl, rfl, h4, rfl, G1, P, st2.gh, e2, pz, c.step ((st.trans st2).wide fun a ha => padr_sub ha) (fun b hb => .inl hb) fun q hq => hq⟩
/-- while great != [] and great[0] == 0: great.pop(0) -/
theorem b_plWhile {j : Nat} {c : Expr} {body : List Stmt} {m : W (Out τ ℓ β)} (hi : ρ[i]? = some (.pool p g)) (hj : ρ[j]? = some (.fr (rV (.ref g)) ()))
    (hc : PT X c (tAnd (tTest (tOp (rNeP X.K) (tVar j) (tLst tNil))) (tTest (tOp (rEqP X.K) (tOp (rIxL X.K) (tVar j) (tC (.int 0))) (tC (.int 0))))))
    (hb : PSs X body (tDrop (tBM X.K "list" rPopAt (tVar j) (tCons (tC (.int 0)) tNil)))) (hr : PSs X rest (TBO ρ post lp R m)) (hone : pls ρ = [(p, g)] := by rfl) (ho : PassesOwn (model X.prog X.w) X.A X.env X.xe := by exact PassesOwn.never) :
    PSs X (.While c body [] pos :: rest) (TBO ρ post lp R m) := by
  refine pss_imp (pss_cons (ps_while ho hc hb) hr) fun D σ H ⟨G, P, s, ev, pp, ct⟩ => ?_
  refine ⟨fun n σ' H' => ∃ G', Step (adrs ρ) G H G' H' ∧ EnvOk ρ G' H' σ' ∧ ∃ gs : List Int, H' g = some (.lst (gs.map V.int)) ∧ n = gs.length, ?_, ?_⟩
  · obtain ⟨_, _, _, _, sm, cc, m0, gs, ns, h4, h5, _⟩ := pool_get hi ev
    exact ⟨gs.length, G, Step.refl s, ev, gs, h5, rfl⟩
  rintro n σ' H' ⟨G', st, e1, gs, hg, rfl⟩
  obtain ⟨_, h1, h2, h3, sm, cc, m0, gs', ns, h4, h5, h6, h7, h8, h9⟩ := pool_get hi e1
  have hσ := ref_get hj e1
  refine ⟨.ref g, hσ, Nat.zero_le _, fun q hq => ?_⟩
  have s1 : Step [] G' H' G' (upd H' q (.lst [])) := Step.lay st.gh hq
  have ev1 := e1.step0 s1
  have hg1 : (upd H' q (.lst [])) g = some (.lst (gs.map V.int)) := s1.keep _ _ hg (by simp)
  refine ⟨.list (gs.map .int), .list [], .lst (SqL.of hg1) (dInts gs), .lst (SqL.of upd_same) .nil, plInts gs, rfl, by have := deInts gs; show PyData.depthAll _ + 1 ≤ 64; omega, ?_⟩
  refine ⟨_, rfl, ?_⟩
  cases gs with
  | nil => exact ⟨G', P, s1.gh, ev1, pp, ct.step (st.trans s1.of0) (fun b hb => .inl hb) fun q hq => hq⟩
  | cons z zs =>
    refine ⟨.ref g, hσ, g, _, 0, .int z, rfl, rfl, SqL.of hg1, at0 _ _, .int z, .int 0, .int z, .int 0, rfl, rfl, Nat.zero_le _, _, rfl, ?_⟩
    cases hb : PyData.eqv (.int z) (.int 0) with
    | false => exact ⟨G', P, s1.gh, ev1, pp, ct.step (st.trans s1.of0) (fun b hb => .inl hb) fun q hq => hq⟩
    | true =>
      refine ⟨fun σ'' H'' => σ'' = σ' ∧ H'' = upd (upd H' q (.lst [])) g (.lst (zs.map V.int)), ?_, ?_⟩
      · rintro _ _ ⟨rfl, rfl⟩
        obtain ⟨_, k1, k2, k3, sm', cc', m1, gs2, ns2, k4, k5, k6, k7, k8, k9⟩ := pool_get hi ev1
        have hl : gs2.length = zs.length + 1 := by
          rw [hg1] at k5
          have := congrArg (fun o => match o with | some (HO.lst l) => l.length | _ => 0) k5
          simpa using this.symm
        have hn : PoolAt G' (upd (upd H' q (.lst [])) g (.lst (zs.map V.int))) p g := ⟨k1, k2, k3, sm', cc', m1, zs, ns2, by rw [upd_ne k3]; exact k4, upd_same, k6, k7, k8, by omega⟩
        obtain ⟨st2, e2⟩ := pool_upd hi hone ev1 s1.gh (.inr rfl) hn
        exact ⟨zs.length, by simp, G', (st.trans s1.of0).trans (st2.wide fun a ha => padr_sub ha), e2, zs, upd_same, rfl⟩
      · exact ⟨.ref g, hσ, .inl ⟨rfl, _, SqL.of hg1⟩, g, _, 0, 0, .int z, rfl, rfl, hg1, by decide, by decide, by simp [seqIndex?], rfl, rfl, rfl⟩
def rIntB : List V → Hp → VK → Prop := fun xs H Q => (∃ i, xs = [.int i] ∧ Q (.int i) H) ∨ ∃ k, xs = [.bl k] ∧ Q (.int (if k then 1 else 0)) H
/-- if great != []: digit = int(great[0]) % many; great[0] = great[0] // many; return digit -/
theorem b_plIf {jm jg jd : Nat} {n : Int} {c : Expr} {body : List Stmt} {m : W (Out τ ℓ Int)} (hi : ρ[i]? = some (.pool p g)) (hj : ρ[jg]? = some (.fr (rV (.ref g)) ())) (hm : ρ[jm]? = some (.fr rI n)) (hd1 : jg ≠ jd) (hd2 : jm ≠ jd) (hd3 : jd < ρ.length)
    (hc : PT X c (tTest (tOp (rNeP X.K) (tVar jg) (tLst tNil))))
    (hb : PSs X body (tSeq (tAsg (tOp (L2.rI (fun _ j => j ≠ 0) fun i j => .int (i.fmod j)) (tCB rIntB (tCons (tOp (rIxL X.K) (tVar jg) (tC (.int 0))) tNil)) (tVar jm)) (gName jd))
      (tSeq (tAsg (tOp (L2.rI CDivN fun i j => .int (i.fdiv j)) (tOp (rIxL X.K) (tVar jg) (tC (.int 0))) (tVar jm)) (gSub (tVar jg) (tC (.int 0)) rSetL)) (tRet (tVar jd)))))
    (hr : PSs X rest (TBO ρ post lp rI m)) (hone : pls ρ = [(p, g)] := by rfl) :
    PSs X (.If c body [] pos :: rest) (TBO ρ post lp rI fun P => ((0 < n ∧ n < 1000000) ∧ ∀ r, 0 ≤ r → r < n → P (.rt r)) ∧ m P) := by
  refine pss_imp (pss_cons (ps_if hc hb pss_nil) hr) fun D σ H ⟨G, P, s, ev, ⟨⟨⟨n0, n1⟩, hP⟩, pp⟩, ct⟩ => ?_
  obtain ⟨_, h1, h2, h3, sm, cc, m0, gs, ns, h4, h5, h6, h7, h8, h9⟩ := pool_get hi ev
  have hσ := ref_get hj ev
  have hσm := int_get hm ev
  refine ⟨.ref g, hσ, Nat.zero_le _, fun q hq => ?_⟩
  have s1 : Step [] G H G (upd H q (.lst [])) := Step.lay s hq
  have ev1 := ev.step0 s1
  have hg1 : (upd H q (.lst [])) g = some (.lst (gs.map V.int)) := s1.keep _ _ h5 (by simp)
  refine ⟨.list (gs.map .int), .list [], .lst (SqL.of hg1) (dInts gs), .lst (SqL.of upd_same) .nil, plInts gs, rfl, by have := deInts gs; show PyData.depthAll _ + 1 ≤ 64; omega, ?_⟩
  refine ⟨_, rfl, ?_⟩
  cases gs with
  | nil => exact ⟨G, P, s1.gh, ev1, pp, ct.step s1.of0 (fun b hb => .inl hb) fun q hq => hq⟩
  | cons z zs =>
    refine ⟨.ref g, hσ, g, _, 0, .int z, rfl, rfl, SqL.of hg1, at0 _ _, .inl ⟨z, rfl, .int n, hσm, z, n, rfl, rfl, by omega, ?_⟩⟩
    have hl : jd < σ.length := by rw [ev.len]; exact hd3
    have g1 : (σ.set jd (some (.int (z.fmod n))))[jg]? = some (some (.ref g)) := by rw [List.getElem?_set_ne (Ne.symm hd1)]; exact hσ
    have g2 : (σ.set jd (some (.int (z.fmod n))))[jm]? = some (some (.int n)) := by rw [List.getElem?_set_ne (Ne.symm hd2)]; exact hσm
    have g3 : (σ.set jd (some (.int (z.fmod n))))[jd]? = some (some (.int (z.fmod n))) := List.getElem?_set_self hl
    refine ⟨.ref g, g1, g, _, 0, .int z, rfl, rfl, SqL.of hg1, at0 _ _, .int n, g2, z, n, rfl, rfl, ⟨by omega, by omega⟩, ?_⟩
    refine ⟨.ref g, g1, g, _, 0, 0, rfl, rfl, hg1, by rw [List.length_map]; simp [ixN], _, g3, ?_⟩
    obtain ⟨_, k1, k2, k3, sm', cc', m1, gs2, ns2, k4, k5, k6, k7, k8, k9⟩ := pool_get hi ev1
    have hn : PoolAt G (upd (upd H q (.lst [])) g (.lst (((z :: zs).map V.int).set 0 (.int (z.fdiv n))))) p g := ⟨k1, k2, k3, sm', cc', m1, z.fdiv n :: zs, ns2, by rw [upd_ne k3]; exact k4, upd_same, k6, k7, k8, by simpa using h9⟩
    obtain ⟨st2, e2⟩ := pool_upd hi hone ev1 s1.gh (.inr rfl) hn
    exact ct.rt (z.fmod n) G _ _ ((s1.of0).trans (st2.wide fun a ha => padr_sub ha)) e2.pools (hP _ (Int.fmod_nonneg_of_pos _ n0) (Int.fmod_lt_of_pos _ n0)) rfl
end
end SS

set_option Elab.async false
set_option linter.all false
set_option maxRecDepth 100000
/-! SSI: own rules: plain data of any kind: isinstance, len, items, ==. Own work. -/
namespace SS
open PySem PySem.Spec L2
section
variable {K : PySem.W.Frag}
def rD : Rp K PyData := ⟨fun G v d => Dp K G v d, fun e h => Dp.same e _ h⟩
def dty : PyData → String
  | .none => "NoneType"
  | .bool _ => "bool"
  | .int _ => "int"
  | .str _ => "str"
  | .list _ => "list"
  | .tuple _ => "tuple"
  | .dict _ => "dict"
def isL : PyData → Bool
  | .list _ => true
  | _ => false
def isT : PyData → Bool
  | .tuple _ => true
  | _ => false
def isBl : PyData → Bool
  | .bool _ => true
  | _ => false
def isIn : PyData → Bool
  | .int _ => true
  | .bool _ => true
  | _ => false
def isSt : PyData → Bool
  | .str _ => true
  | _ => false
def isNo : PyData → Bool
  | .none => true
  | _ => false
theorem kit_L : ∀ d, kitB (dty d) "list" = some (isL d)
  | .none => by show kitB "NoneType" "list" = some false; decide +kernel
  | .bool _ => by show kitB "bool" "list" = some false; decide +kernel
  | .int _ => by show kitB "int" "list" = some false; decide +kernel
  | .str _ => by show kitB "str" "list" = some false; decide +kernel
  | .list _ => by show kitB "list" "list" = some true; decide +kernel
  | .tuple _ => by show kitB "tuple" "list" = some false; decide +kernel
  | .dict _ => by show kitB "dict" "list" = some false; decide +kernel
theorem kit_T : ∀ d, kitB (dty d) "tuple" = some (isT d)
  | .none => by show kitB "NoneType" "tuple" = some false; decide +kernel
  | .bool _ => by show kitB "bool" "tuple" = some false; decide +kernel
  | .int _ => by show kitB "int" "tuple" = some false; decide +kernel
  | .str _ => by show kitB "str" "tuple" = some false; decide +kernel
  | .list _ => by show kitB "list" "tuple" = some false; decide +kernel
  | .tuple _ => by show kitB "tuple" "tuple" = some true; decide +kernel
  | .dict _ => by show kitB "dict" "tuple" = some false; decide +kernel
theorem kit_Bl : ∀ d, kitB (dty d) "bool" = some (isBl d)
  | .none => by show kitB "NoneType" "bool" = some false; decide +kernel
  | .bool _ => by show kitB "bool" "bool" = some true; decide +kernel
  | .int _ => by show kitB "int" "bool" = some false; decide +kernel
  | .str _ => by show kitB "str" "bool" = some false; decide +kernel
  | .list _ => by show kitB "list" "bool" = some false; decide +kernel
  | .tuple _ => by show kitB "tuple" "bool" = some false; decide +kernel
  | .dict _ => by show kitB "dict" "bool" = some false; decide +kernel
theorem kit_In : ∀ d, kitB (dty d) "int" = some (isIn d)
  | .none => by show kitB "NoneType" "int" = some false; decide +kernel
  | .bool _ => by show kitB "bool" "int" = some true; decide +kernel
  | .int _ => by show kitB "int" "int" = some true; decide +kernel
  | .str _ => by show kitB "str" "int" = some false; decide +kernel
  | .list _ => by show kitB "list" "int" = some false; decide +kernel
  | .tuple _ => by show kitB "tuple" "int" = some false; decide +kernel
  | .dict _ => by show kitB "dict" "int" = some false; decide +kernel
theorem kit_St : ∀ d, kitB (dty d) "str" = some (isSt d)
  | .none => by show kitB "NoneType" "str" = some false; decide +kernel
  | .bool _ => by show kitB "bool" "str" = some false; decide +kernel
  | .int _ => by show kitB "int" "str" = some false; decide +kernel
  | .str _ => by show kitB "str" "str" = some true; decide +kernel
  | .list _ => by show kitB "list" "str" = some false; decide +kernel
  | .tuple _ => by show kitB "tuple" "str" = some false; decide +kernel
  | .dict _ => by show kitB "dict" "str" = some false; decide +kernel
theorem tyx {H : Hp} {v : V} {d : PyData} (h : Dp K H v d) : TyX K H v (.type (dty d)) := by
  cases h with
  | non => exact .base .non
  | bl b => exact .base (.bl b)
  | int i => exact .base (.int i)
  | str x => exact .base (.str x)
  | lst h1 h2 =>
    rcases h1 with (h1 | ⟨o, h1⟩) | ⟨o, its, n, h1, h2, _⟩
    · exact .base (.lst h1)
    · exact .base (.frz h1)
    · exact .kList h1 h2
  | tup h1 h2 =>
    rcases h1 with (h1 | ⟨o, h1⟩) | ⟨o, its, n, h1, h2, _⟩
    · exact .base (.tup h1)
    · exact .fTuple h1
    · exact .kTuple h1 h2
theorem dpAll_len {H : Hp} : ∀ {vs : List V} {ds : List PyData}, DpAll K H vs ds → vs.length = ds.length
  | _, _, .nil => rfl
  | _, _, .cons _ t => congrArg (· + 1) (dpAll_len t)
theorem dpAll_at {H : Hp} : ∀ {vs : List V} {ds : List PyData}, DpAll K H vs ds → ∀ {i : Nat} {d : PyData}, ds[i]? = some d → ∃ v, vs[i]? = some v ∧ Dp K H v d
  | _, _, .nil, i, d, h => by simp at h
  | _, _, .cons r t, 0, d, h => by simp at h; subst h; exact ⟨_, rfl, r⟩
  | _, _, .cons r t, i + 1, d, h => by
    obtain ⟨v, e, q⟩ := dpAll_at t (i := i) (by simpa using h)
    exact ⟨v, by simpa using e, q⟩
theorem dpAll_atI {H : Hp} {vs : List V} {ds : List PyData} {i : Int} {d : PyData} (p : DpAll K H vs ds) (h : atI ds i = some d) : ∃ v, atI vs i = some v ∧ Dp K H v d := by
  unfold atI at h ⊢
  rw [dpAll_len p]
  cases q : ixN ds.length i with
  | none => rw [q] at h; cases h
  | some j =>
    rw [q] at h
    obtain ⟨v, e, r⟩ := dpAll_at p (show ds[j]? = some d from h)
    exact ⟨v, e, r⟩
theorem rc_lenD : RCOk (fun xs H Q => ∃ p ys, xs = [.ref p] ∧ (SqL K H p ys ∨ SqT K H p ys) ∧ Q (.int ys.length) H) (fs1 (rD : Rp K PyData)) (rI : Rp K Int) (fun d P => ∃ ds, (d = .list ds ∨ d = .tuple ds) ∧ P (ds.length : Int)) := fun G H vs x P Q s ⟨v, h, r⟩ ⟨ds, e, p⟩ k => by
  subst h
  have r' : Dp K G v x := r
  rcases e with e | e
  · subst e
    cases r' with
    | lst h1 h2 => exact ⟨_, _, rfl, .inl (Same.seq s h1), k G H _ _ (Step.refl s) p (by rw [dpAll_len h2]; rfl)⟩
  · subst e
    cases r' with
    | tup h1 h2 => exact ⟨_, _, rfl, .inr (same_t s h1), k G H _ _ (Step.refl s) p (by rw [dpAll_len h2]; rfl)⟩
theorem r2_ixD : R2Ok (fun x y H Q => rIxL K x y H Q ∨ rIxT K x y H Q) (rD : Rp K PyData) (rI : Rp K Int) (rD : Rp K PyData) (fun d i P => ∃ ds e, (d = .list ds ∨ d = .tuple ds) ∧ atI ds i = some e ∧ P e) := fun G H v u x i P Q s r h4 ⟨ds, d, e, ha, p⟩ k => by
  have r' : Dp K G v x := r
  rcases e with e | e
  · subst e
    cases r' with
    | lst h1 h2 =>
      obtain ⟨w, e2, rw2⟩ := dpAll_atI h2 ha
      exact .inl ⟨_, _, i, w, rfl, h4, Same.seq s h1, e2, k G H w d (Step.refl s) p rw2⟩
  · subst e
    cases r' with
    | tup h1 h2 =>
      obtain ⟨w, e2, rw2⟩ := dpAll_atI h2 ha
      exact .inr ⟨_, _, i, w, rfl, h4, same_t s h1, e2, k G H w d (Step.refl s) p rw2⟩
theorem r2_eqD : R2Ok (rEqP K) (rD : Rp K PyData) (rD : Rp K PyData) (rB : Rp K Bool) (fun d e P => (d.plain = true ∧ e.plain = true ∧ d.depth ≤ 64) ∧ P (PyData.eqv d e)) := fun G H v u x y P Q s h1 h2 ⟨⟨p1, p2, p3⟩, p⟩ k =>
  ⟨x, y, Dp.same s _ h1, Dp.same s _ h2, p1, p2, p3, k G H _ _ (Step.refl s) p rfl⟩
theorem r2_isND : R2Ok (fun x y H Q => y = .non ∧ Q (.bl (decide (x = .non))) H) (rD : Rp K PyData) (rN : Rp K Unit) (rB : Rp K Bool) (fun d _ P => P (isNo d)) := fun G H v u x y P Q s h1 h2 p k => by
  refine ⟨h2, ?_⟩
  have r' : Dp K G v x := h1
  cases r' with
  | non => rw [decide_eq_true rfl]; exact k G H _ true (Step.refl s) p rfl
  | bl b => rw [decide_eq_false (fun z => by cases z)]; exact k G H _ false (Step.refl s) p rfl
  | int i => rw [decide_eq_false (fun z => by cases z)]; exact k G H _ false (Step.refl s) p rfl
  | str x => rw [decide_eq_false (fun z => by cases z)]; exact k G H _ false (Step.refl s) p rfl
  | lst _ _ => rw [decide_eq_false (fun z => by cases z)]; exact k G H _ false (Step.refl s) p rfl
  | tup _ _ => rw [decide_eq_false (fun z => by cases z)]; exact k G H _ false (Step.refl s) p rfl
end
section
variable {X : Cx} {K : PySem.W.Frag} [HK X K] {α β γ : Type} {ρ : List (En K)} {e : Expr} {pos : Pos}
def rIsiD (K : PySem.W.Frag) (T : String) (f : PyData → Bool) : List V → Hp → VK → Prop := fun xs H Q => ∃ v d, xs = [v, .ty T] ∧ Dp K H v d ∧ Q (.bl (f d)) H
theorem call_isiD {T : String} {f : PyData → Bool} (hf : ∀ d, kitB (dty d) T = some (f d)) : CallR X (.builtin "isinstance") (rIsiD X.K T f) := by
  intro pins s σ H xs us Q I r ⟨v, d, h, hd, q⟩
  exact call_isi pins s σ H xs us Q I r ⟨_, _, _, _, f d, h, .ty T, tyx hd, kit_ty (hf d), q⟩
/-- isinstance(x, T) of data -/
theorem pr_isiD {T : String} {nT : Str} {f : PyData → Bool} {p p2 : Pos} {w : W PyData} (hf : ∀ d, kitB (dty d) T = some (f d)) (hm : X.mg "isinstance" = none) (hm2 : X.mg nT = none) (h : PE X e (TEx ρ rD w)) (hbT : bootBuiltins nT = some (.type T)) (hg : Gl X "isinstance" := by rfl) (hg2 : Gl X nT := by rfl)
    (hn : nT ≠ "__name__" := by decide) (hdb : (nT == ("__debug__" : Str)) = false := by decide)
    (hs : starEach [e, .Name nT p2] X.env = (false, eval e X.env) :: starEach [.Name nT p2] X.env := by rfl) (hs2 : starEach [.Name nT p2] X.env = (false, eval (.Name nT p2) X.env) :: starEach [] X.env := by rfl)
    (hpl : (backTo pos (starEach [.Name nT p2] X.env)).any (·.1) = false := by rfl) :
    PE X (.Call (.Name "isinstance" p) [e, .Name nT p2] [] pos) (TEx ρ rB fun P => w fun d => P (f d)) := by
  have hK : X.K = K := HK.eq
  subst hK
  exact pe_imp (pe_callB (call_isiD hf) hg hm (by decide +kernel) (pa_cons h (pa_cons (pe_bltn (v := .ty T) hg2 hm2 hbT rfl hn hdb) pa_nil hs2) hs) (by decide) (by decide) hs hpl)
    fun σ H Q ⟨G, P, s, ev, pp, c⟩ => ⟨G, _, s, ev, pp, fun G1 H1 v a st e1 pa ra => ⟨v, a, rfl, Dp.same st.gh _ ra, c G1 H1 _ _ st e1 pa rfl⟩⟩
/-- isinstance(x, (list, tuple)) of data -/
theorem pr_isiLT {p p2 p3 pt : Pos} {k0 : Nat} {w : W PyData} (hm : X.mg "isinstance" = none) (hm2 : X.mg "list" = none) (hm3 : X.mg "tuple" = none) (h : PE X e (TEx ρ rD w)) (hg : Gl X "isinstance" := by rfl) (hg2 : Gl X "list" := by rfl) (hg3 : Gl X "tuple" := by rfl)
    (hs : starEach [e, .Tuple [.Name "list" p2, .Name "tuple" p3] k0 pt] X.env = (false, eval e X.env) :: starEach [.Tuple [.Name "list" p2, .Name "tuple" p3] k0 pt] X.env := by rfl) (hs2 : starEach [.Tuple [.Name "list" p2, .Name "tuple" p3] k0 pt] X.env = (false, eval (.Tuple [.Name "list" p2, .Name "tuple" p3] k0 pt) X.env) :: starEach [] X.env := by rfl)
    (hs3 : starEach [.Name "list" p2, .Name "tuple" p3] X.env = (false, eval (.Name "list" p2) X.env) :: starEach [.Name "tuple" p3] X.env := by rfl) (hs4 : starEach [.Name "tuple" p3] X.env = (false, eval (.Name "tuple" p3) X.env) :: starEach [] X.env := by rfl)
    (hpl : (backTo pos (starEach [.Tuple [.Name "list" p2, .Name "tuple" p3] k0 pt] X.env)).any (·.1) = false := by rfl) :
    PE X (.Call (.Name "isinstance" p) [e, .Tuple [.Name "list" p2, .Name "tuple" p3] k0 pt] [] pos) (TEx ρ rB fun P => w fun d => P (isL d || isT d)) := by
  have hK : X.K = K := HK.eq
  subst hK
  refine pe_imp (pe_callB call_isiT hg hm (by decide +kernel) (pa_cons h (pa_cons (pe_tup (pa_cons (pe_bltn (v := .ty "list") hg2 hm2 (by decide +kernel) rfl) (pa_cons (pe_bltn (v := .ty "tuple") hg3 hm3 (by decide +kernel) rfl) pa_nil hs4) hs3)) pa_nil hs2) hs) (by decide) (by decide) hs hpl)
    fun σ H Q ⟨G, P, s, ev, pp, c⟩ => ⟨G, _, s, ev, pp, fun G1 H1 v d st e1 pa ra => ?_⟩
  refine ⟨by have := szl; show 2 ≤ sizeLine; omega, fun q hq => ?_⟩
  have s1 : Step [] G1 H1 G1 (upd H1 q (.tup [.ty "list", .ty "tuple"])) := Step.lay st.gh hq
  refine ⟨v, q, [.ty "list", .ty "tuple"], _, [.type "list", .type "tuple"], isL d || isT d, rfl, upd_same, .cons (.ty "list") (.cons (.ty "tuple") .nil), tyx (Dp.same s1.gh _ (Dp.same s1.gg _ ra)), ?_, c _ _ _ _ (st.trans s1.of0) (e1.step0 s1) pa rfl⟩
  refine kitAny_cons (kit_ty (kit_L d)) (fun hL => kitAny_cons (kit_ty (kit_T d)) (fun hT => by rw [hL, hT]; rfl) fun hT => by rw [hT]; simp) fun hL => by rw [hL]; rfl
end
/-- data not too deep nor too wide -/
def Fit : Nat → PyData → Prop
  | 0, _ => False
  | n + 1, .list ds => ds.length ≤ 1000 ∧ ∀ e ∈ ds, Fit n e
  | n + 1, .tuple ds => ds.length ≤ 1000 ∧ ∀ e ∈ ds, Fit n e
  | _ + 1, .dict _ => False
  | _ + 1, _ => True
theorem just_row {d : PyData} {ds : List PyData} {n : Nat} {Q : Bool → Prop} (hd : d = .list ds ∨ d = .tuple ds) (hl : ds.length ≤ 1000) (hf : ∀ e ∈ ds, Fit n e) (h : Q true) :
    ∃ ds, (d = PyData.list ds ∨ d = PyData.tuple ds) ∧ ∃ ds_1, (d = PyData.list ds_1 ∨ d = PyData.tuple ds_1) ∧
      if decide ((ds.length : Int) = (ds_1.length : Int)) = true then
        ∃ ds, (d = PyData.list ds ∨ d = PyData.tuple ds) ∧ ((ds.length : Int) < 1000000 ∧ -1000000 < (ds.length : Int)) ∧
          lcW (rng 0 ((ds.length : Int)).toNat) (fun _ P => P true) (fun x P => ∃ ds e, (d = PyData.list ds ∨ d = PyData.tuple ds) ∧ atI ds x = some e ∧
            ∃ ds e_1, (d = PyData.list ds ∨ d = PyData.tuple ds) ∧ atI ds x = some e_1 ∧ (e = e_1 ∧ Fit n e) ∧ P true) fun x => Q (x.all id)
      else Q false := by
  refine ⟨ds, hd, ds, hd, ?_⟩
  rw [if_pos (decide_eq_true rfl)]
  refine ⟨ds, hd, ⟨by omega, by omega⟩, ?_⟩
  refine lcW_map1 (fun _ => true) _ (fun x hx C c => ?_) ?_
  · obtain ⟨x1, x2⟩ := MM.rng_in hx
    have hlt : x.toNat < ds.length := by omega
    have ha := MM.atI_of PyData.none x1 (show x < (ds.length : Int) by omega)
    have hm : ds.getD x.toNat PyData.none ∈ ds := by
      rw [List.getD_eq_getElem?_getD, List.getElem?_eq_getElem hlt]
      exact List.getElem_mem hlt
    exact ⟨ds, _, hd, ha, ds, _, hd, ha, ⟨rfl, hf _ hm⟩, c⟩
  · have : (List.map (fun _ : Int => true) (rng 0 ((ds.length : Int)).toNat)).all id = true := by
      rw [List.all_eq_true]
      intro b hb
      obtain ⟨_, _, e⟩ := List.mem_map.mp hb
      rw [← e]; rfl
    rw [this]
    exact h
theorem fit_int (n : Nat) (x : Int) : Fit (n + 1) (.int x) := trivial
theorem fit_str (n : Nat) (x : Str) : Fit (n + 1) (.str x) := trivial
section
variable {K : PySem.W.Frag} {α β : Type}
theorem fit_L {R : Rp K α} {e : Eqp R} {n : Nat} {xs : List α} (h : xs.length ≤ 1000) (hf : ∀ x ∈ xs, Fit n (e.enc x)) : Fit (n + 1) ((eqL e).enc xs) := ⟨by rw [List.length_map]; exact h, fun d hd => by
  obtain ⟨x, hx, ex⟩ := List.mem_map.mp hd
  rw [← ex]; exact hf x hx⟩
theorem fit_I {n : Nat} {x : Int} : Fit (n + 1) ((eqI : Eqp (rI : Rp K Int)).enc x) := trivial
theorem fit_S {n : Nat} {x : Str} : Fit (n + 1) ((eqS : Eqp (rS : Rp K Str)).enc x) := trivial
theorem fit_O {R : Rp K α} {e : Eqp R} {en : EqNn e} {n : Nat} {o : Option α} (h : ∀ x, o = some x → Fit (n + 1) (e.enc x)) : Fit (n + 1) ((eqO e en).enc o) := by
  cases o with
  | none => exact trivial
  | some x => exact h x rfl
theorem fit_T {F : Fs K α} {f : EqF F} {n : Nat} {x : α} (h : (f.enc x).length ≤ 1000 ∧ ∀ d ∈ f.enc x, Fit n d) : Fit (n + 1) ((eqT f).enc x) := h
theorem fit_1 {R : Rp K α} {e : Eqp R} {n : Nat} {x : α} (h : Fit n (e.enc x)) : ((eqf1 e).enc x).length ≤ 1 ∧ ∀ d ∈ (eqf1 e).enc x, Fit n d := ⟨Nat.le_refl _, fun d hd => by rw [List.mem_singleton.mp hd]; exact h⟩
theorem fit_C {R : Rp K α} {F : Fs K β} {e : Eqp R} {f : EqF F} {n k : Nat} {x : α × β} (h : Fit n (e.enc x.1)) (hf : (f.enc x.2).length ≤ k ∧ ∀ d ∈ f.enc x.2, Fit n d) : ((eqfC e f).enc x).length ≤ k + 1 ∧ ∀ d ∈ (eqfC e f).enc x, Fit n d := ⟨Nat.succ_le_succ hf.1, fun d hd => by
  rcases List.mem_cons.mp hd with z | z
  · rw [z]; exact h
  · exact hf.2 d z⟩
theorem fit_of {k : Nat} {n : Nat} {ds : List PyData} (h : ds.length ≤ k ∧ ∀ d ∈ ds, Fit n d) (hk : k ≤ 1000) : ds.length ≤ 1000 ∧ ∀ d ∈ ds, Fit n d := ⟨Nat.le_trans h.1 hk, h.2⟩
end
end SS

set_option Elab.async false
set_option linter.all false
set_option maxRecDepth 100000
/-! SSJ: own rules: a slice from the front, abs, the pool when it is new. Own work. -/
namespace SS
open PySem PySem.Spec L2
theorem cut_take {vs : List V} {n : Int} (h : 0 ≤ n) : cutV vs none (some n) = vs.take n.toNat := by
  unfold cutV
  obtain ⟨k, rfl⟩ := Int.eq_ofNat_of_zero_le h
  rw [HT.sIx_none, HT.sIx_nat]
  simp only [List.drop_zero, Nat.sub_zero, Int.toNat_natCast]
  rw [List.take_eq_take_iff]
  omega
section
variable {X : Cx} {K : PySem.W.Frag} [HK X K] {α β τ ℓ : Type} {ρ : List (En K)} {R : Rp K α} {e : Expr} {pos p2 p3 : Pos}
theorem pr_slc {n : Int} {j0} {w : W (List α)} (h : PE X e (TEx ρ (rL R) w)) (hn : 0 ≤ n := by decide) : PE X (.Subscript e (.Slice none (some (.Constant (.int n) j0 p3)) none p2) pos) (TEL ρ R fun P => w fun xs => P (xs.take n.toNat)) := by
  have hK : X.K = K := HK.eq
  subst hK
  refine pe_imp (pe_slice sl_list h po_none (po_some pe_int)) fun σ H Q ⟨G, P, s, ev, pp, c⟩ => ⟨G, _, s, ev, pp, fun G1 H1 v xs st e1 pa ⟨a, vs, h1, h2, h3, h4⟩ => ?_⟩
  refine ⟨n, rfl, a, vs, h1, Same.seq st.gh h2, fun p hp => ?_⟩
  have s1 : Step [] G1 H1 G1 (upd H1 p (.lst (cutV vs none (some n)))) := Step.lay st.gh hp
  have hp0 : H p = none := EnvOk.freshIn st e1 hp
  have hpG : G1 p = none := st.gh.free hp
  refine c G1 _ p _ _ (st.trans s1.of0) (e1.step0 s1) pa hp0 hpG upd_same ?_ ?_
  · rw [cut_take hn]
    exact paired_take _ h3
  · exact Nat.le_trans (cutV_length _ _ _) h4
theorem rc_abs : RCOk (fun xs H Q => ∃ i, xs = [.int i] ∧ Q (.int (if i < 0 then -i else i)) H) (fs1 (rI : Rp K Int)) (rI : Rp K Int) (fun x P => P (if x < 0 then -x else x)) := fun G H vs x P Q s ⟨v, h, q⟩ p k => by
  have e : v = V.int x := q
  subst e
  exact ⟨x, h, k G H _ _ (Step.refl s) p rfl⟩
end
section
variable {K : PySem.W.Frag} {α : Type}
/-- .. and the heap at the start stands in the ghost -/
def rW (H0 : Hp) (R : Rp K α) : Rp K α := ⟨fun G v x => R.ok G v x ∧ Same H0 G, fun e h => ⟨R.mono e h.1, h.2.trans e⟩⟩
/-- a pool, laid since H0, all frozen -/
def rPl (H0 : Hp) : Rp K Unit := ⟨fun G v _ => ∃ (p g s : Addr) (c m : Int) (gs ns : List Int), v = .ref p ∧ H0 p = none ∧ H0 g = none ∧ H0 s = none ∧ p ≠ g ∧ s ≠ p ∧ s ≠ g ∧ G p = some (.lst [.ref g, .ref s, .int c, .int m]) ∧ G g = some (.lst (gs.map V.int)) ∧
  G s = some (.lst (ns.map V.int)) ∧ ns ≠ [] ∧ ns.length ≤ 1000 ∧ gs.length ≤ 1000,
  fun e ⟨p, g, s, c, m, gs, ns, h0, h1, h2, h3, h4, h5, h6, h7, h8, h9, h10⟩ => ⟨p, g, s, c, m, gs, ns, h0, h1, h2, h3, h4, h5, h6, e _ _ h7, e _ _ h8, e _ _ h9, h10⟩⟩
theorem ints_of {G : Hp} : ∀ {vs : List V} {xs : List Int}, Paired ((rI : Rp K Int).ok G) vs xs → vs = xs.map V.int
  | _, _, .nil => rfl
  | _, _, .cons r t => by rw [List.map_cons, ← ints_of t]; congr 1
end
section
variable {X : Cx} {K : PySem.W.Frag} [HK X K] {α τ ℓ : Type} {ρ : List (En K)} {post : τ → List (En K)} {lp : ℓ → List (En K)} {rest : List Stmt} {e : Expr} {pos : Pos}
/-- return [great, small + [7], 0, 1] -/
theorem b_retPl {H0 : Hp} {R0 : Rp K α} {x0 : α} {iw ig is : Nat} {g s0 : Addr} {gs ns : List Int} (hw : ρ[iw]? = some (.fr (rW H0 R0) x0)) (hg : ρ[ig]? = some (.own g rI gs)) (hs : ρ[is]? = some (.own s0 rI ns)) (hpl : pls ρ = [])
    (h : PE X e (tLst (tCons (tVar ig) (tCons (tOp rCat (tVar is) (tLst (tCons (tC (.int 7)) tNil))) (tCons (tC (.int 0)) (tCons (tC (.int 1)) tNil)))))) :
    PSs X (.Return (some e) pos :: rest) (TBO ρ post lp (rPl H0) fun P => (gs.length ≤ 1000 ∧ ns.length < 1000) ∧ P (.rt ())) := by
  refine pss_imp (pss_cons (ps_ret h) pss_never) fun D σ H ⟨G, P, s, ev, ⟨⟨l1, l2⟩, pp⟩, ct⟩ => ?_
  obtain ⟨e1, ng, ⟨vg, k1, k2, k3⟩, mg⟩ := own_get hg ev
  obtain ⟨e2, ns0, ⟨vs, k4, k5, k6⟩, _⟩ := own_get hs ev
  have ig' := ints_of k2
  have is' := ints_of k5
  subst ig' is'
  obtain ⟨o, ho, v0, eo, _, hW⟩ := ev.ok iw _ hw
  have sz := szl
  refine ⟨.ref g, e1, .ref s0, e2, by show 1 ≤ sizeLine; omega, fun q1 hq1 => ?_⟩
  have s1 : Step [] G H G (upd H q1 (.lst [.int 7])) := Step.lay s hq1
  refine ⟨s0, q1, _, _, rfl, rfl, s1.keep _ _ k4 (by simp), upd_same, by rw [List.length_map]; show ns.length + 1 ≤ sizeLine; omega, fun q2 hq2 => ?_⟩
  have s2 : Step [] G (upd H q1 (.lst [.int 7])) (upd G q2 (.lst (ns.map V.int ++ [.int 7]))) (upd (upd H q1 (.lst [.int 7])) q2 (.lst (ns.map V.int ++ [.int 7]))) := Step.new s1.gh hq2
  refine ⟨by show 4 ≤ sizeLine; omega, fun q3 hq3 => ?_⟩
  have s3 : Step [] (upd G q2 (.lst (ns.map V.int ++ [.int 7]))) (upd (upd H q1 (.lst [.int 7])) q2 (.lst (ns.map V.int ++ [.int 7]))) (upd (upd G q2 (.lst (ns.map V.int ++ [.int 7]))) q3 (.lst [.ref g, .ref q2, .int 0, .int 1])) (upd (upd (upd H q1 (.lst [.int 7])) q2 (.lst (ns.map V.int ++ [.int 7]))) q3 (.lst [.ref g, .ref q2, .int 0, .int 1])) := Step.new s2.gh hq3
  have s13 := (s1.trans s2).trans s3
  have ng3 := s13.old _ _ k1 ng (by simp)
  have hg3 := s13.keep _ _ k1 (by simp)
  have s4 := Step.freeze (M := [g]) s13.gh (by simp) ng3 hg3
  have n23 : q2 ≠ q3 := fun z => by subst z; rw [upd_same] at hq3; cases hq3
  have f3 : G q3 = none := (s1.trans s2).gH.free hq3
  have f2 : G q2 = none := s1.gH.free hq2
  have g2 : q2 ≠ g := fun z => by subst z; rw [s1.keep _ _ k1 (by simp)] at hq2; cases hq2
  have g3 : q3 ≠ g := fun z => by subst z; rw [(s1.trans s2).keep _ _ k1 (by simp)] at hq3; cases hq3
  refine ct.rt () _ _ (.ref q3) ((s13.of0).trans (s4.wide fun a ha => by rw [mem1 ha]; exact mg)) (fun q hq => by rw [hpl] at hq; cases hq) pp ?_
  refine ⟨q3, g, q2, 0, 1, gs, ns ++ [7], rfl, hW.free f3, hW.free ng, hW.free f2, g3, n23, g2, ?_, upd_same, ?_, by simp, by simp; omega, l1⟩
  · rw [upd_ne g3, upd_same]
  · rw [upd_ne g2, upd_ne n23, upd_same, List.map_append]; rfl
end
section
variable {K : PySem.W.Frag} {α τ : Type}
/-- the promise: a new pool -/
def SpB (K : PySem.W.Frag) (most : Nat) : Sp := fun vs H Q _ => ∃ (G : Hp) (v : V) (ns : List Int), vs = [v] ∧ Same G H ∧ (rL (rI : Rp K Int)).ok G v ns ∧ ns.length ≤ most ∧ ∀ G' H' p g, Step [] G H G' H' → H p = none → H g = none → PoolAt G' H' p g → Q (.ref p) H'
theorem pool_out {G H G4 H4 : Hp} {v : V} (s : Same G H) (st : Step [] H H G4 H4) (h : (rPl H : Rp K Unit).ok G4 v ()) : ∃ (G' : Hp) (p g : Addr), v = .ref p ∧ Step [] G H G' H4 ∧ H p = none ∧ H g = none ∧ PoolAt G' H4 p g := by
  obtain ⟨p, g, sm, c, m, gs, ns, e, h1, h2, h3, h4, h5, h6, h7, h8, h9, h10, h11, h12⟩ := h
  refine ⟨fun a => if a = p ∨ a = g then none else if H a = none then G4 a else G a, p, g, e, ⟨fun a o q => ?_, fun a o q => ?_, fun a o q _ => st.keep a o q (by simp), fun a o q n _ => ?_⟩, h1, h2, ?_⟩
  · have hq := s _ _ q
    have n1 : a ≠ p := fun z => by rw [z, h1] at hq; cases hq
    have n2 : a ≠ g := fun z => by rw [z, h2] at hq; cases hq
    show (if a = p ∨ a = g then none else if H a = none then G4 a else G a) = some o
    rw [if_neg (by simp [n1, n2]), if_neg (by rw [hq]; simp)]
    exact q
  · have q' : (if a = p ∨ a = g then none else if H a = none then G4 a else G a) = some o := q
    by_cases z : a = p ∨ a = g
    · rw [if_pos z] at q'; cases q'
    · rw [if_neg z] at q'
      by_cases y : H a = none
      · rw [if_pos y] at q'; exact st.gh _ _ q'
      · rw [if_neg y] at q'; exact st.keep _ _ (s _ _ q') (by simp)
  · have n1 : a ≠ p := fun z => by rw [z, h1] at q; cases q
    have n2 : a ≠ g := fun z => by rw [z, h2] at q; cases q
    show (if a = p ∨ a = g then none else if H a = none then G4 a else G a) = none
    rw [if_neg (by simp [n1, n2]), if_neg (by rw [q]; simp)]
    exact n
  · refine ⟨by show (if p = p ∨ p = g then none else _) = none; rw [if_pos (.inl rfl)], by show (if g = p ∨ g = g then none else _) = none; rw [if_pos (.inr rfl)], h4, sm, c, m, gs, ns, st.gh _ _ h7, st.gh _ _ h8, ?_, h10, h11, h12⟩
    show (if sm = p ∨ sm = g then none else if H sm = none then G4 sm else G sm) = some _
    rw [if_neg (by simp [h5, h6]), if_pos h3]
    exact h9
end
section
variable {P : Program} {w : World} {K : PySem.W.Frag} {mg : Str → Option Value} {base : Heap} {x qual : Str} {params : Arguments} {body : List Stmt} {sc : Scope} {f : Addr} {fd : FuncData} {N ps : List Str} {k : Nat} {τ : Type}
theorem fnok_ofB {most : Nat} {post : τ → List (En K)} {wb : Hp → List Int → W (Out τ Empty Unit)} (D : FunD K x qual params body sc [] [] f fd) (S : FnScope N ps sc) (hn : 1 = ps.length) (hl : ps.length ≤ N.length) (ρ0 : Hp → List Int → List (En K)) (h0 : ∀ H a, .fr (rW H (rL rI)) a :: List.replicate (N.length - ps.length) .off = ρ0 H a)
    (hb : ∀ (a : List Int) cdv A outer s H E, Room k (A.deeper (PyProof.Rows.envOfC qual sc s.heap.objs.size f cdv)) → PSs (XC P w K mg base N qual sc f cdv A outer s H E) body (TBO (K := K) (ρ0 H a) post (fun z : Empty => nomatch z) (rPl H) (wb H a)))
    (hm : ∀ H (a : List Int) (Q : Unit → Prop), a.length ≤ most ∧ Q () → wb H a (fin False Q)) : FnOk P w K mg base CX0 (k + 1) f fd ps (SpB K most) := by
  refine D.ok S (fun vs H Q E ⟨G, v, ns, e, _⟩ => by rw [e, ← hn]; rfl) fun cdv A outer s H vs Q E hr ⟨G, v, ns, e, sG, hv, hlen, c⟩ => ⟨_, (hb ns cdv A outer s H E hr).nox, ?_⟩
  subst e
  have ev := env_start (N := N) (H := H) (fsE_1 (R := rW H (rL rI))) (pre := []) (pv := []) rfl (fun i e hi => by simp at hi) List.nodup_nil (G := H) (x := ns) (vs := [v]) ⟨v, rfl, (rL rI).mono sG hv, Same.refl H⟩ (by simp only [List.length_nil, Nat.zero_add]; show 1 ≤ _; omega)
  rw [List.nil_append] at ev
  have e1 : N.length - (([] : List (En K)).length + (fs1 (rW (K := K) H (rL rI))).n) = N.length - ps.length := by simp only [List.length_nil, Nat.zero_add]; show N.length - 1 = _; omega
  rw [e1] at ev
  have e0 : adrs (ρ0 H ns) = [] := by rw [← h0]; show [] ++ adrs _ = []; rw [adrs_off_rep]; rfl
  refine ⟨H, fin False (fun _ => True), Same.refl H, by rw [← h0]; exact ev, hm H ns _ ⟨hlen, trivial⟩, ⟨fun t G' H' σ' st _ z => z.elim, fun t => (nomatch t), fun t => (nomatch t), fun b G' H' v st _ pb rb => ?_⟩⟩
  rw [e0] at st
  obtain ⟨G2, p, g, ev, st2, n1, n2, pl⟩ := pool_out sG st rb
  subst ev
  exact c G2 H' p g st2 n1 n2 pl
end
end SS

set_option Elab.async false
set_option linter.all false
set_option maxRecDepth 100000
/-! SSK: own rules: copies that hold nothing of a bad part of the heap. Own work. -/
namespace SS
open PySem PySem.Spec L2
open Classical in
noncomputable def cut (B : Addr → Prop) (G : Hp) : Hp := fun a => if B a then none else G a
theorem cut_bad {B : Addr → Prop} {G : Hp} {a : Addr} (h : B a) : cut B G a = none := if_pos h
theorem cut_good {B : Addr → Prop} {G : Hp} {a : Addr} (h : ¬ B a) : cut B G a = G a := if_neg h
theorem cut_some {B : Addr → Prop} {G : Hp} {a : Addr} {o : HO} (h : cut B G a = some o) : ¬ B a ∧ G a = some o := by
  by_cases z : B a
  · rw [cut_bad z] at h; cases h
  · rw [cut_good z] at h; exact ⟨z, h⟩
theorem cut_same {B : Addr → Prop} {G : Hp} : Same (cut B G) G := fun a o h => (cut_some h).2
theorem cut_mono {B : Addr → Prop} {G G' : Hp} (e : Same G G') : Same (cut B G) (cut B G') := fun a o h => by
  obtain ⟨n, q⟩ := cut_some h
  rw [cut_good n]; exact e _ _ q
section
variable {K : PySem.W.Frag} {α β : Type}
/-- .. without anything of B -/
def rOn (B : Addr → Prop) (R : Rp K α) : Rp K α := ⟨fun G v x => R.ok (cut B G) v x, fun e h => R.mono (cut_mono e) h⟩
def rWB (B : Addr → Prop) (R : Rp K α) : Rp K α := ⟨fun G v x => R.ok G v x ∧ ∀ a, B a → ∃ o, G a = some o, fun e h => ⟨R.mono e h.1, fun a ha => let ⟨o, q⟩ := h.2 a ha; ⟨o, e _ _ q⟩⟩⟩
theorem rOn_ok {B : Addr → Prop} {R : Rp K α} {G : Hp} {v : V} {x : α} (h : (rOn B R).ok G v x) : R.ok G v x := R.mono cut_same h
/-- a list that stands in the heap as such -/
def rLx (R : Rp K α) : Rp K (List α) := ⟨fun G v xs => ∃ a vs, v = .ref a ∧ G a = some (.lst vs) ∧ Paired (R.ok G) vs xs ∧ vs.length ≤ sizeLine, fun e ⟨a, vs, h1, h2, h3, h4⟩ => ⟨a, vs, h1, e _ _ h2, paired_mono (fun _ _ z => R.mono e z) h3, h4⟩⟩
theorem rLx_ok {R : Rp K α} {G : Hp} {v : V} {xs : List α} (h : (rLx R).ok G v xs) : (rL R).ok G v xs := by
  obtain ⟨a, vs, h1, h2, h3, h4⟩ := h
  exact ⟨a, vs, h1, SqL.of h2, h3, h4⟩
end
section
variable {X : Cx} {K : PySem.W.Frag} [HK X K] {α β γ δ τ ℓ : Type} {ρ : List (En K)} {e : Expr} {es : List Expr} {pos : Pos} {B : Addr → Prop} {R0 : Rp K δ} {x0 : δ}
theorem wb_get {i : Nat} (hi : ρ[i]? = some (.fr (rWB B R0) x0)) {G H : Hp} {σ : L2.St} (ev : EnvOk ρ G H σ) : ∀ a, B a → ∃ o, G a = some o := by
  obtain ⟨o, _, v, _, q⟩ := ev.ok i _ hi
  exact q.2
theorem pr_unW {w : W α} {R : Rp K α} (h : PE X e (TEx ρ (rWB B R) w)) : PE X e (TEx ρ R w) := pr_to (fun x => x) h (fun _ _ _ q => q.1)
theorem pr_unO {w : W α} {R : Rp K α} (h : PE X e (TEx ρ (rOn B R) w)) : PE X e (TEx ρ R w) := pr_to (fun x => x) h (fun _ _ _ q => rOn_ok q)
theorem tel_to {w : W (List α)} {R R' : Rp K α} (h : PE X e (TEL ρ R w)) (k : ∀ G v x, R.ok G v x → R'.ok G v x) : PE X e (TEL ρ R' w) :=
  pe_imp h fun σ H Q ⟨G, P, s, ev, p, c⟩ => ⟨G, P, s, ev, p, fun G' H' q vs xs st e' px n1 n2 hq pr hz => c G' H' q vs xs st e' px n1 n2 hq (paired_mono (fun _ _ z => k _ _ _ z) pr) hz⟩
/-- a new list is frozen, clear of B -/
theorem pr_frzBX {i : Nat} {R : Rp K α} {w : W (List α)} (hi : ρ[i]? = some (.fr (rWB B R0) x0)) (h : PE X e (TEL ρ (rOn B R) w)) : PE X e (TEx ρ (rOn B (rLx R)) w) := by
  refine pe_imp h fun σ H Q ⟨G, P, s, ev, p, c⟩ => ⟨G, P, s, ev, p, fun G' H' q vs xs st e' px n1 n2 hq pr hz => ?_⟩
  have hq' : q ∉ adrs ρ := ev.fresh n1
  have nb : ¬ B q := fun z => by obtain ⟨o, e⟩ := wb_get hi e' q z; rw [n2] at e; cases e
  have s2 : Step [q] G' H' (upd G' q (.lst vs)) H' := Step.freeze st.gh (by simp) n2 hq
  refine c _ _ _ xs (st.cut s2 fun b hb => .inr (by rw [mem1 hb]; exact n1)) (e'.step s2 fun b hb z => hq' (by rw [← mem1 z]; exact hb)) px ?_
  exact ⟨q, vs, rfl, by rw [cut_good nb]; exact upd_same, paired_mono (fun _ _ z => R.mono (cut_mono s2.gg) z) pr, hz⟩
theorem pr_frzB {i : Nat} {R : Rp K α} {w : W (List α)} (hi : ρ[i]? = some (.fr (rWB B R0) x0)) (h : PE X e (TEL ρ (rOn B R) w)) : PE X e (TEx ρ (rOn B (rL R)) w) :=
  pr_to (fun x => x) (pr_frzBX hi h) (fun _ _ _ q => rLx_ok q)
/-- a tuple, clear of B -/
theorem pr_tupB {i : Nat} {F F' : Fs K α} {k} {w : W α} (hi : ρ[i]? = some (.fr (rWB B R0) x0)) (h : PA X es (TAx ρ F' w)) (hF : ∀ G vs x, F'.ok G vs x → F.ok (cut B G) vs x := by exact fun _ _ _ h => h) (hn : F'.n ≤ sizeLine := by exact Nat.le_of_ble_eq_true rfl) : PE X (.Tuple es k pos) (TEx ρ (rOn B (rT F)) w) := by
  refine pe_imp (pe_tup h) fun σ H Q ⟨G, P, s, e, h, c⟩ => ⟨G, P, s, e, h, fun G1 H1 vs x st1 e1 p1 r1 => ⟨by rw [F'.len r1]; exact hn, fun p hp => ?_⟩⟩
  have s2 := Step.new (M := []) (o := .tup vs) st1.gh hp
  have nb : ¬ B p := fun z => by obtain ⟨o, e⟩ := wb_get hi e1 p z; rw [st1.gh.free hp] at e; cases e
  exact c _ _ _ x (st1.trans s2.of0) (e1.step0 s2) p1 ⟨p, vs, rfl, SqT.of (by rw [cut_good nb]; exact upd_same), F.mono (cut_mono s2.gg) (hF _ _ _ r1)⟩
end
section
variable {X : Cx} {K : PySem.W.Frag} [HK X K] {α β δ τ ℓ : Type} {ρ : List (En K)} {post : τ → List (En K)} {lp : ℓ → List (En K)} {R : Rp K β} {B : Addr → Prop} {R0 : Rp K δ} {x0 : δ}
/-- an own list of things clear of B is frozen -/
theorem b_frzBX {sts : List Stmt} {iw : Nat} {p : Addr} {Ra : Rp K α} {xs : List α} {m : W (Out τ ℓ β)} (hw : ρ[iw]? = some (.fr (rWB B R0) x0)) (i : Nat) (h : ρ[i]? = some (.own p (rOn B Ra) xs)) (hr : PSs X sts (TBO (ρ.set i (.fr (rOn B (rLx Ra)) xs)) post lp R m)) : PSs X sts (TBO ρ post lp R m) := by
  refine pss_imp hr fun D σ H ⟨G, P, s, ev, pp, c⟩ => ?_
  obtain ⟨o, ho, e1, n1, vs, hq, pr, hz⟩ := ev.ok i _ h
  have nb : ¬ B p := fun z => by obtain ⟨o, q⟩ := wb_get hw ev p z; rw [n1] at q; cases q
  have hm : p ∈ adrs ρ := adrs_mem h (by simp [En.adr])
  have s2 : Step [p] G H (upd G p (.lst vs)) H := Step.freeze s (by simp) n1 hq
  have nf := nodup_fr (i := i) (e := (.fr (rOn B (rLx Ra)) xs : En K)) ev.nd rfl
  have hpl : (ρ.getD i .off).pl = [] := by
    have e : ρ.getD i .off = .own p (rOn B Ra) xs := by rw [List.getD_eq_getElem?_getD, h]; rfl
    rw [e]; rfl
  refine ⟨upd G p (.lst vs), P, s2.gh, ?_, pp, c.step (s2.wide fun a ha => by rw [mem1 ha]; exact hm) (fun b hb => .inl (nf.2 b hb)) fun q hq => pls_set hpl hq⟩
  refine ⟨by rw [List.length_set, ev.len], fun j e' hj => ?_, nf.1⟩
  by_cases hij : i = j
  · subst hij
    have hl : i < ρ.length := (List.getElem?_eq_some_iff.mp h).1
    rw [List.getElem?_set_self hl] at hj
    cases hj
    exact ⟨o, ho, .ref p, e1, p, vs, rfl, by rw [cut_good nb]; exact upd_same, paired_mono (fun _ _ z => Ra.mono (cut_mono s2.gg) z) pr, hz⟩
  · rw [List.getElem?_set_ne hij] at hj
    obtain ⟨o', ho', q⟩ := ev.ok j e' hj
    exact ⟨o', ho', En.step q s2 fun a ha z => nodup_apart ev.nd h hj hij (by rw [mem1 z]; simp [En.adr]) ha⟩
end
/-! ### promises -/
section
variable {K : PySem.W.Frag} {α β : Type}
def SpX (F : Fs K α) (R : Rp K β) (m : α → W β) : Sp := fun vs H Q _ => ∃ (B : Addr → Prop) (G : Hp) (a : α) (P : β → Prop), Same G H ∧ (∀ x, B x → ∃ o, G x = some o) ∧ F.ok G vs a ∧ m a P ∧ ∀ G' H' v b, Step [] G H G' H' → P b → (rOn B R).ok G' v b → Q v H'
def SpIX (C : Addr) (F : (Addr → Prop) → Fs K α) (R : Rp K β) (m : α → W β) : Sp := fun vs H Q _ => ∃ (B : Addr → Prop) (G : Hp) (x dx : Addr) (us : List V) (a : α) (P : β → Prop), vs = .ref x :: us ∧ Same G H ∧ (∀ y, B y → ∃ o, G y = some o) ∧ G x = none ∧ H x = some (.ins C dx []) ∧ (F B).ok G us a ∧ m a P ∧
  ∀ G' H' b, Step [x] G H G' H' → P b → (rOn B R).ok G' (.ref x) b → Q .non H'
end
section
variable {X : Cx} {K : PySem.W.Frag} [HK X K] {α β δ : Type} {ρ : List (En K)} {R : Rp K β} {F : Fs K α} {m : α → W β} {w : W α} {x : Str} {k : Nat} {ps : List Str} {p pos apos : Pos} {e o : Expr} {es : List Expr} {B : Addr → Prop} {R0 : Rp K δ} {x0 : δ}
theorem pr_callX {i : Nat} (h : FnG X.prog X.w K X.mg X.base x k ps (SpX F R m)) (hi : ρ[i]? = some (.fr (rWB B R0) x0)) (hr : Room k X.A) (ha : PA X (e :: es) (TAx ρ F w)) (hg : Gl X x := by rfl) (hdb : (x == ("__debug__" : Str)) = false := by decide) (he : starEach (e :: es) X.env = (false, eval e X.env) :: starEach es X.env := by rfl)
    (hpl : (backTo pos (starEach es X.env)).any (·.1) = false := by rfl) : PE X (.Call (.Name x p) (e :: es) [] pos) (TEx ρ (rOn B R) fun P => w fun a => m a P) := by
  have hK : X.K = K := HK.eq
  subst hK
  obtain ⟨f, fd, h1, h2, h3, h4⟩ := h.ex
  refine pe_imp (pe_call h4 hr hg h1 h2 h3 .nil pass0 ha hdb he hpl) fun σ H Q ⟨G, P, s, ev, pp, c⟩ => ⟨G, _, s, ev, pp, fun G1 H1 vs a st e1 pa ra => ?_⟩
  show SpX F R m (vs ++ []) H1 Q E0
  rw [List.append_nil]
  exact ⟨B, G1, a, P, st.gh, wb_get hi e1, ra, pa, fun G2 H2 v b st2 pb rb => c G2 H2 v b (st.trans st2.of0) (e1.step0 st2) pb rb⟩
/-- C(..) by the promise with B -/
theorem pr_makeX {C : Addr} {FB : (Addr → Prop) → Fs K α} {i : Nat} (h : FnC X.prog X.w K X.mg X.base x C k ps (SpIX C FB R m)) (hi : ρ[i]? = some (.fr (rWB B R0) x0)) (hr : Room (k + 1) X.A) (ha : PA X (e :: es) (TAx ρ (FB B) w)) (hg : Gl X x := by rfl) (hdb : (x == ("__debug__" : Str)) = false := by decide) (he : starEach (e :: es) X.env = (false, eval e X.env) :: starEach es X.env := by rfl)
    (hpl : (backTo pos (starEach es X.env)).any (·.1) = false := by rfl) : PE X (.Call (.Name x p) (e :: es) [] pos) (TEx ρ (rOn B R) fun P => w fun a => m a P) := by
  have hK : X.K = K := HK.eq
  subst hK
  obtain ⟨f, fd, h1, h2, h3, h4⟩ := h.ex
  refine pe_imp (pe_make h2 h4 hr hg h1 h3 .nil pass0 ha hdb he hpl) fun σ H Q ⟨G, P, s, ev, pp, c⟩ => ⟨G, _, s, ev, pp, fun G1 H1 vs a st e1 pa ra => fun xx dx hx hdx ne => ?_⟩
  show SpIX C FB R m (.ref xx :: (vs ++ [])) _ _ _
  rw [List.append_nil]
  have s1 : Step [] G1 H1 G1 (upd H1 dx (.own xx)) := Step.lay st.gh hdx
  have hx1 : (upd H1 dx (.own xx)) xx = none := by rw [upd_ne (Ne.symm ne)]; exact hx
  have s2 : Step [] G1 (upd H1 dx (.own xx)) G1 (upd (upd H1 dx (.own xx)) xx (.ins C dx [])) := Step.lay s1.gh hx1
  refine ⟨B, G1, xx, dx, vs, a, P, rfl, s2.gh, wb_get hi e1, st.gh.free hx, upd_same, ra, pa, fun G2 H2 b st2 pb rb => ⟨rfl, ?_⟩⟩
  have s12 : Step [] G1 H1 G1 (upd (upd H1 dx (.own xx)) xx (.ins C dx [])) := s1.trans s2
  have s3 : Step [] G1 H1 G2 H2 := s12.cut st2 fun a ha => .inr (by rw [mem1 ha]; exact hx)
  exact c G2 H2 _ b (st.trans s3.of0) (e1.step0 s3) pb rb
/-- C(..) of things clear of B, by the plain promise -/
theorem pr_makeOn {C : Addr} {F' : Fs K α} {i : Nat} (h : FnC X.prog X.w K X.mg X.base x C k ps (SpI C F R m)) (hi : ρ[i]? = some (.fr (rWB B R0) x0)) (hr : Room (k + 1) X.A) (ha : PA X (e :: es) (TAx ρ F' w)) (hF : ∀ G vs x, F'.ok G vs x → F.ok (cut B G) vs x := by exact fun _ _ _ h => h) (hg : Gl X x := by rfl) (hdb : (x == ("__debug__" : Str)) = false := by decide) (he : starEach (e :: es) X.env = (false, eval e X.env) :: starEach es X.env := by rfl)
    (hpl : (backTo pos (starEach es X.env)).any (·.1) = false := by rfl) : PE X (.Call (.Name x p) (e :: es) [] pos) (TEx ρ (rOn B R) fun P => w fun a => m a P) := by
  have hK : X.K = K := HK.eq
  subst hK
  obtain ⟨f, fd, h1, h2, h3, h4⟩ := h.ex
  refine pe_imp (pe_make h2 h4 hr hg h1 h3 .nil pass0 ha hdb he hpl) fun σ H Q ⟨G, P, s, ev, pp, c⟩ => ⟨G, _, s, ev, pp, fun G1 H1 vs a st e1 pa ra => fun xx dx hx hdx ne => ?_⟩
  show SpI C F R m (.ref xx :: (vs ++ [])) _ _ _
  rw [List.append_nil]
  have s1 : Step [] G1 H1 G1 (upd H1 dx (.own xx)) := Step.lay st.gh hdx
  have hx1 : (upd H1 dx (.own xx)) xx = none := by rw [upd_ne (Ne.symm ne)]; exact hx
  have s2 : Step [] G1 (upd H1 dx (.own xx)) G1 (upd (upd H1 dx (.own xx)) xx (.ins C dx [])) := Step.lay s1.gh hx1
  have hB := wb_get hi e1
  have gx : G1 xx = none := st.gh.free hx
  have gc : cut B G1 xx = none := by
    by_cases z : B xx
    · exact cut_bad z
    · rw [cut_good z]; exact gx
  have s12 : Step [] G1 H1 G1 (upd (upd H1 dx (.own xx)) xx (.ins C dx [])) := s1.trans s2
  refine ⟨cut B G1, xx, dx, vs, a, P, rfl, cut_same.trans s2.gh, gc, upd_same, hF _ _ _ ra, pa, fun G2 H2 b st2 pb rb => ⟨rfl, ?_⟩⟩
  -- back to the whole ghost
  have keepB : ∀ a o, G1 a = some o → H2 a = some o := fun a o q => st2.keep a o (s12.keep a o (st.gh _ _ q) (by simp)) fun z => by rw [mem1 z, gx] at q; cases q
  have n2 : ∀ a, B a → G2 a = none := fun a ha => by
    obtain ⟨o, q⟩ := hB a ha
    have h1 := s12.keep a o (st.gh _ _ q) (by simp)
    exact st2.old a o h1 (cut_bad ha) fun z => by rw [mem1 z, gx] at q; cases q
  let G3 : Hp := fun a => match G2 a with
    | some o => some o
    | none => G1 a
  have g3 : ∀ a o, G2 a = some o → G3 a = some o := fun a o q => by show (match G2 a with | some o => some o | none => G1 a) = some o; rw [q]
  have g3n : ∀ a, G2 a = none → G3 a = G1 a := fun a q => by show (match G2 a with | some o => some o | none => G1 a) = G1 a; rw [q]
  have agree : ∀ a o, G1 a = some o → G3 a = some o := fun a o q => by
    cases q2 : G2 a with
    | none => rw [g3n a q2]; exact q
    | some o2 =>
      have := st2.gh _ _ q2
      rw [keepB a o q] at this
      rw [g3 a o2 q2, this]
  have s3 : Step [] G1 H1 G3 H2 := by
    refine ⟨agree, fun a o q => ?_, fun a o q n => ?_, fun a o q n _ => ?_⟩
    · cases q2 : G2 a with
      | none => rw [g3n a q2] at q; exact keepB a o q
      | some o2 => rw [g3 a o2 q2] at q; rw [← q]; exact st2.gh _ _ q2
    · exact st2.keep a o (s12.keep a o q (by simp)) fun z => by rw [mem1 z, hx] at q; cases q
    · have h1 := s12.keep a o q (by simp)
      have gcn : cut B G1 a = none := by
        by_cases z : B a
        · exact cut_bad z
        · rw [cut_good z]; exact n
      have := st2.old a o h1 gcn fun z => by rw [mem1 z, hx] at q; cases q
      rw [g3n a this]; exact n
  refine c G3 H2 _ b (st.trans s3.of0) (e1.step0 s3) pb (R.mono (fun a o q => ?_) rb)
  have nb : ¬ B a := fun z => by rw [n2 a z] at q; cases q
  rw [cut_good nb]; exact g3 a o q
end
section
variable {P : Program} {w : World} {K : PySem.W.Frag} {mg : Str → Option Value} {base : Heap} {x qual : Str} {params : Arguments} {body : List Stmt} {sc : Scope} {f : Addr} {fd : FuncData} {N ps : List Str} {k : Nat} {α β τ : Type}
/-- a def of one argument that copies -/
theorem fnok_ofX {Ra : Rp K α} {R : Rp K β} {m : α → W β} {post : τ → List (En K)} {wb : α → W (Out τ Empty β)} (D : FunD K x qual params body sc [] [] f fd) (S : FnScope N ps sc) (hn : 1 = ps.length) (hl : ps.length ≤ N.length) (ρ0 : (Addr → Prop) → α → List (En K)) (h0 : ∀ B a, .fr (rWB B Ra) a :: List.replicate (N.length - ps.length) .off = ρ0 B a)
    (hb : ∀ (B : Addr → Prop) (a : α) cdv A outer s H E, Room k (A.deeper (PyProof.Rows.envOfC qual sc s.heap.objs.size f cdv)) → PSs (XC P w K mg base N qual sc f cdv A outer s H E) body (TBO (K := K) (ρ0 B a) post (fun z : Empty => nomatch z) (rOn B R) (wb a)))
    (hm : ∀ a Q, m a Q → wb a (fin False Q)) : FnOk P w K mg base CX0 (k + 1) f fd ps (SpX (fs1 Ra) R m) := by
  refine D.ok S (fun vs H Q E ⟨B, G, a, Pp, s, _, ⟨v, e, _⟩, _⟩ => by rw [e, ← hn]; rfl) fun cdv A outer s H vs Q E hr ⟨B, G, a, Pp, sG, hB, ⟨v, e, hv⟩, hp, c⟩ => ⟨_, (hb B a cdv A outer s H E hr).nox, ?_⟩
  subst e
  have ev := env_start (N := N) (H := H) (fsE_1 (R := rWB B Ra)) (pre := []) (pv := []) rfl (fun i e hi => by simp at hi) List.nodup_nil (G := G) (x := a) (vs := [v]) ⟨v, rfl, hv, hB⟩ (by simp only [List.length_nil, Nat.zero_add]; show 1 ≤ _; omega)
  rw [List.nil_append] at ev
  have e1 : N.length - (([] : List (En K)).length + (fs1 (rWB (K := K) B Ra)).n) = N.length - ps.length := by simp only [List.length_nil, Nat.zero_add]; show N.length - 1 = _; omega
  rw [e1] at ev
  have e0 : adrs (ρ0 B a) = [] := by rw [← h0]; show [] ++ adrs _ = []; rw [adrs_off_rep]; rfl
  exact ⟨G, fin False Pp, sG, by rw [← h0]; exact ev, hm a Pp hp, ⟨fun t G' H' σ' st _ z => z.elim, fun t => (nomatch t), fun t => (nomatch t), fun b G' H' v st _ pb rb => c G' H' v b (by rw [e0] at st; exact st) pb rb⟩⟩
/-- __init__ -/
theorem fnok_ofIX {C : Addr} {F : (Addr → Prop) → Fs K α} {FI : β → List (Str × Mp)} {FB : (Addr → Prop) → β → List (Str × Mp)} {m : α → W β} {env : (Addr → Prop) → α → List (En K)} {wb : Addr → α → W (Out β Empty Unit)} (D : FunD K x qual params body sc [] [] f fd) (S : FnScope N ps sc) (hn : ∀ B, (F B).n + 1 = ps.length) (hl : ps.length ≤ N.length) (hE : ∀ B, FsE (F B) (env B))
    (hW : ∀ B G us a, (∀ y, B y → ∃ o, G y = some o) → (F B).ok G us a → (F B).ok G us a)
    (ρ0 : (Addr → Prop) → Addr → α → List (En K)) (h0 : ∀ B i a, .obj i C [] :: (env B a ++ List.replicate (N.length - ps.length) .off) = ρ0 B i a) (post : (Addr → Prop) → Addr → β → List (En K)) (hpost : ∀ B i b, (post B i b)[0]? = some (.obj i C (FB B b)))
    (hFI : ∀ B b G vs, Paired (KP G) vs (FB B b) → Paired (KP (cut B G)) vs (FI b))
    (hb : ∀ (B : Addr → Prop) (i : Addr) (a : α) cdv A outer s H E, Room k (A.deeper (PyProof.Rows.envOfC qual sc s.heap.objs.size f cdv)) → PSs (XC P w K mg base N qual sc f cdv A outer s H E) body (TBO (K := K) (ρ0 B i a) (post B i) (fun z : Empty => nomatch z) rN (wb i a)))
    (hm : ∀ i a Q, m a Q → wb i a (fun o => match o with | .nx b => Q b | _ => False)) : FnOk P w K mg base CX0 (k + 1) f fd ps (SpIX C F (rIns C FI) m) := by
  refine D.ok S (fun vs H Q E ⟨B, G, i, dx, us, a, Pp, e, s, _, _, _, h, _⟩ => by rw [e, List.length_cons, (F B).len h, hn]) fun cdv A outer s H vs Q E hr ⟨B, G, i, dx, us, a, Pp, e, sG, hB, n1, hH, h, hp, c⟩ => ⟨_, (hb B i a cdv A outer s H E hr).nox, ?_⟩
  subst e
  have hnB := hn B
  have ev := env_start (N := N) (H := H) (hE B) (pre := [.obj i C []]) (pv := [.ref i]) rfl (fun j e hi => by
    cases j with
    | zero => simp at hi; subst hi; exact ⟨.ref i, rfl, rfl, n1, dx, [], hH, .nil⟩
    | succ j => simp at hi) (by simp [adrs, En.adr]) h (by simp only [List.length_cons, List.length_nil]; omega)
  have e1 : N.length - ([En.obj (K := K) i C []].length + (F B).n) = N.length - ps.length := by simp only [List.length_cons, List.length_nil]; omega
  rw [e1] at ev
  have e0 : adrs (ρ0 B i a) = [i] := by rw [← h0]; show [i] ++ adrs _ = _; rw [adrs_app, (hE B).no, adrs_off_rep]; rfl
  refine ⟨G, _, sG, by rw [← h0]; exact ev, hm i a Pp hp, ⟨fun b G' H' σ' st e' z => ?_, fun t => (nomatch t), fun t => (nomatch t), fun b G' H' v st _ pb rb => pb.elim⟩⟩
  rw [e0] at st
  obtain ⟨o, ho, eo, n2, dx2, vs, k1, k2⟩ := e'.ok 0 _ (hpost B i b)
  have s2 : Step [i] G' H' (upd G' i (.ins C dx2 vs)) H' := Step.freeze st.gh (by simp) n2 k1
  have nb : ¬ B i := fun z => by obtain ⟨o, q⟩ := hB i z; rw [n1] at q; cases q
  exact c _ _ b (st.trans s2) z ⟨i, dx2, vs, rfl, by rw [cut_good nb]; exact upd_same, hFI B b _ _ (paired_mono2 (fun p q ⟨z1, z2⟩ => ⟨z1, q.2.2 _ _ _ s2.gg z2⟩) k2)⟩
end
end SS

set_option Elab.async false
set_option linter.all false
set_option maxRecDepth 100000
/-! SSL: own rule: a list handed over, then changed. Own work. -/
namespace SS
open PySem PySem.Spec L2
section
variable {K : PySem.W.Frag}
theorem pls_rep (n : Nat) : pls (List.replicate n (.off : En K)) = [] := by
  induction n with
  | zero => rfl
  | succ n ih => rw [List.replicate_succ]; show [] ++ pls _ = []; rw [ih]; rfl
theorem padr_of {ρ : List (En K)} (h : pls ρ = []) : padr ρ = [] := by unfold padr; rw [h]; rfl
theorem env_off {n : Nat} {G H : Hp} {σ : L2.St} (h : σ.length = n) : EnvOk (List.replicate n (.off : En K)) G H σ := by
  refine ⟨by rw [List.length_replicate, h], fun i e hi => ?_, by rw [adrs_off_rep]; exact List.nodup_nil⟩
  obtain ⟨hb, he⟩ := List.getElem?_eq_some_iff.mp hi
  rw [List.length_replicate] at hb
  have : e = .off := by rw [← he]; simp
  subst this
  exact ⟨σ[i]'(by omega), List.getElem?_eq_getElem (by omega), trivial⟩
theorem env_fr {ρ : List (En K)} {G H : Hp} {σ : L2.St} {i : Nat} {α : Type} {R : Rp K α} {x : α} {v : V} (h : EnvOk ρ G H σ) (hv : σ[i]? = some (some v)) (q : R.ok G v x) : EnvOk (ρ.set i (.fr R x)) G H σ :=
  h.re (fun o ho => ⟨v, by rw [hv] at ho; exact (Option.some.inj ho).symm, q⟩) (nodup_fr h.nd rfl).1
theorem env_slot {ρ : List (En K)} {G H : Hp} {σ σ' : L2.St} {i : Nat} (h : EnvOk ρ G H σ) (hl : σ'.length = σ.length) (hs : ∀ j, j ≠ i → σ'[j]? = σ[j]?) : EnvOk (ρ.set i .off) G H σ' := by
  refine ⟨by rw [List.length_set, hl, h.len], fun j e hj => ?_, (nodup_fr h.nd rfl).1⟩
  by_cases hij : i = j
  · subst hij
    have hlt : i < ρ.length := by
      rcases Nat.lt_or_ge i ρ.length with z | z
      · exact z
      · rw [List.set_eq_of_length_le z, List.getElem?_eq_none z] at hj; cases hj
    rw [List.getElem?_set_self hlt] at hj
    cases hj
    have hl2 := h.len
    exact ⟨σ'[i]'(by omega), List.getElem?_eq_getElem (by omega), trivial⟩
  · rw [List.getElem?_set_ne hij] at hj
    obtain ⟨o, ho, q⟩ := h.ok j e hj
    exact ⟨o, by rw [hs j (Ne.symm hij)]; exact ho, q⟩
end
section
variable {X : Cx} {K : PySem.W.Frag} [HK X K] {α β δ ε τ ℓ : Type} {ρ : List (En K)} {post : τ → List (En K)} {lp : ℓ → List (En K)} {R : Rp K β} {rest : List Stmt} {S1 S2 S3 S4 S5 : Stmt}
def tCopy (K : PySem.W.Frag) (N iRs iH : Nat) {α : Type} (Ru Rx : Rp K α) (rs : List α) (B0 : Addr → Prop) (u : TS) : TS := fun D σ H => ∃ G, Same G H ∧ EnvOk ((List.replicate N (.off : En K)).set iRs (.fr (rWB B0 (rL Ru)) rs)) G H σ ∧
  ∀ G' H' q vs, Step [] G H G' H' → H q = none → G' q = none → H' q = some (.lst vs) → Paired ((rOn B0 Rx).ok G') vs rs → vs.length ≤ sizeLine → u D (σ.set iH (some (.ref q))) H'
/-- a TE that only lays new things -/
def Lays (t : TE) : Prop := ∀ (σ : L2.St) (H : Hp) (Q : VK), (∀ v H', (∀ a o, H a = some o → H' a = some o) → Q v H') → t σ H Q
theorem b_alias {Ru Rx : Rp K α} {Rs : Rp K δ} {Rbk : Rp K ε} {rs : List α} {sz : δ} {d : Int} {bk : ε} {iH iR iB iRs iS iD : Nat} {tA tB : TE} {tt : TS} {m : W (Out τ ℓ β)}
    (eRs : ρ[iRs]? = some (.fr (rL Ru) rs)) (eS : ρ[iS]? = some (.fr Rs sz)) (eD : ρ[iD]? = some (.fr rI d)) (hfew : rs.length ≤ 1000)
    (hx : ∀ (G : Hp) (v : V) (x : α), x ∈ rs → Rx.ok G v x → ∃ (a : Addr) (ws : List V) (n u : Addr) (l1 l2 : List V), v = .ref a ∧ SqT K G a ws ∧ ws[1]? = some (.ref n) ∧ ws[6]? = some (.ref u) ∧ G n = some (.lst l1) ∧ l1.length ≤ 1000 ∧ G u = some (.lst l2) ∧ l2.length ≤ 1000)
    (hxu : ∀ (G : Hp) (v : V) (x : α), Rx.ok G v x → Ru.ok G v x)
    (n1 : iH ≠ iRs) (n2 : iH ≠ iS) (n3 : iH ≠ iD) (n4 : iB ≠ iRs) (n5 : iB ≠ iH) (n6 : iR ≠ iH) (n8 : iRs ≠ iS) (n9 : iRs ≠ iD) (n10 : iS ≠ iD) (lH : iH < ρ.length) (lB : iB < ρ.length) (lR : iR < ρ.length)
    (pH : (ρ.getD iH .off).pl = []) (pB : ((ρ.set iH .off).getD iB .off).pl = []) (pR : (((ρ.set iH .off).set iB (.fr Rbk bk)).getD iR .off).pl = [])
    (hA : Lays tA) (hB : Lays tB)
    (h1 : ∀ (B0 : Addr → Prop) (sts : List Stmt) (u : TS), PSs X sts u → PSs X (S1 :: sts) (tCopy K ρ.length iRs iH Ru Rx rs B0 u))
    (h2 : PS X S2 (tAsg (tef fun B1 : Addr → Prop => TEx ((((List.replicate ρ.length (.off : En K)).set iS (.fr (rOn B1 Rs) sz)).set iD (.fr rI d)).set iH (.fr (rWB B1 (rL Ru)) rs)) (rOn B1 Rbk) (fun P => P bk)) (gName iB)))
    (h3 : PS X S3 (tIfS (TTx (((List.replicate ρ.length (.off : En K)).set iRs (.fr (rL Ru) rs)).set iH (.fr (rL Ru) rs)) (fun P => P false)) tt tNext))
    (h4 : PS X S4 (tFor (iList X.K (tVar iH)) (gName iR) (tSeq (tDrop (tBM X.K "list" rAppend (tOp (rIxT X.K) (tVar iR) (tC (.int 1))) (tCons tA tNil))) (tDrop (tBM X.K "list" rAppend (tOp (rIxT X.K) (tVar iR) (tC (.int 6))) (tCons tB tNil))))))
    (h5 : PS X S5 (tDrop (tBM X.K "list" rAppend (tVar iH) (tCons (tC (.int 7)) tNil))))
    (hr : PSs X rest (TBO (((ρ.set iH .off).set iB (.fr Rbk bk)).set iR .off) post lp R m)) :
    PSs X (S1 :: S2 :: S3 :: S4 :: S5 :: rest) (TBO ρ post lp R m) := by
  have hK : X.K = K := HK.eq
  subst hK
  refine pss_imp (pss_fam fun B0 : Addr → Prop => h1 B0 _ _ (pss_cons h2 (pss_cons h3 (pss_cons h4 (pss_cons h5 hr))))) fun D σ H ⟨G, P, s, ev, pp, ct⟩ => ?_
  have hl : σ.length = ρ.length := ev.len
  obtain ⟨_, oR, vR, eR', qR⟩ := ev.ok iRs _ eRs
  obtain ⟨_, oS, vS, eS', qS⟩ := ev.ok iS _ eS
  subst eR' eS'
  have oD := int_get eD ev
  refine ⟨fun a => G a ≠ none, G, s, env_fr (env_off hl) oR ⟨qR, fun a ha => by
    cases q : G a with
    | none => exact absurd q ha
    | some o => exact ⟨o, rfl⟩⟩, fun G1 H1 q vs st1 f1 f2 hq pr hz => ?_⟩
  -- the list is frozen for a while
  have fG : G q = none := s.free f1
  have sq : Step [q] G1 H1 (upd G1 q (.lst vs)) H1 := Step.freeze st1.gh (by simp) f2 hq
  have lσ1 : (σ.set iH (some (.ref q))).length = ρ.length := by rw [List.length_set, hl]
  have gq : (σ.set iH (some (.ref q)))[iH]? = some (some (.ref q)) := List.getElem?_set_self (by omega)
  have gS : (σ.set iH (some (.ref q)))[iS]? = some (some vS) := by rw [List.getElem?_set_ne n2]; exact oS
  have gD : (σ.set iH (some (.ref q)))[iD]? = some (some (.int d)) := by rw [List.getElem?_set_ne n3]; exact oD
  have gR : (σ.set iH (some (.ref q)))[iRs]? = some (some vR) := by rw [List.getElem?_set_ne n1]; exact oR
  have sGq : Same G (upd G1 q (.lst vs)) := st1.gg.trans sq.gg
  have prU : Paired (Ru.ok (upd G1 q (.lst vs))) vs rs := paired_mono (fun v x z => hxu _ _ _ (Rx.mono (cut_same.trans sq.gg) z)) pr
  have okH : (rL Ru).ok (upd G1 q (.lst vs)) (.ref q) rs := ⟨q, vs, rfl, SqL.of upd_same, prU, hz⟩
  let B1 : Addr → Prop := fun a => G a = none ∧ upd G1 q (.lst vs) a ≠ none
  have sB1 : Same G (cut B1 (upd G1 q (.lst vs))) := fun a o e => by
    rw [cut_good (fun z : B1 a => by rw [z.1] at e; cases e)]
    exact sGq _ _ e
  have bW : ∀ a, B1 a → ∃ o, upd G1 q (.lst vs) a = some o := fun a ha => by
    cases z : upd G1 q (.lst vs) a with
    | none => exact absurd z ha.2
    | some o => exact ⟨o, rfl⟩
  refine ⟨B1, upd G1 q (.lst vs), (· = bk), sq.gh, ?_, rfl, fun G2 H2 v b st2 _ eb rb => ?_⟩
  · refine env_fr (env_fr (env_fr (env_off lσ1) gS (Rs.mono sB1 qS)) gD rfl) gq ⟨okH, bW⟩
  subst eb
  rw [padr_of (pls_setoff (pls_setoff (pls_setoff (pls_rep _) rfl) rfl) rfl)] at st2
  have hq2 := st2.keep q _ hq (by simp)
  have lσ2 : ((σ.set iH (some (.ref q))).set iB (some v)).length = ρ.length := by rw [List.length_set]; exact lσ1
  have kq : ((σ.set iH (some (.ref q))).set iB (some v))[iH]? = some (some (.ref q)) := by rw [List.getElem?_set_ne n5]; exact gq
  have kR : ((σ.set iH (some (.ref q))).set iB (some v))[iRs]? = some (some vR) := by rw [List.getElem?_set_ne n4]; exact gR
  refine ⟨G2, (· = false), st2.gh, env_fr (env_fr (env_off lσ2) kR ((rL Ru).mono (sGq.trans st2.gg) qR)) kq ((rL Ru).mono st2.gg okH), rfl, fun G3 H3 k st3 _ ek => ?_⟩
  subst ek
  rw [padr_of (pls_setoff (pls_setoff (pls_rep _) rfl) rfl)] at st3
  have hq3 := st3.keep q _ hq2 (by simp)
  have up3 : ∀ a o, H1 a = some o → H3 a = some o := fun a o e => st3.keep a o (st2.keep a o e (by simp)) (by simp)
  -- what changes from here on
  let Mu : Addr → Prop := fun a => G a = none ∧ ∃ l : List V, G1 a = some (.lst l) ∧ l.length ≤ 1000
  have nMq : ¬ Mu q := fun ⟨_, l, e, _⟩ => by rw [f2] at e; cases e
  let Iv : Nat → Hp → Prop := fun b H' => (∀ a o, H3 a = some o → ¬ Mu a → H' a = some o) ∧ ∀ a, Mu a → ∃ l : List V, H' a = some (.lst l) ∧ l.length ≤ b
  have iv_app : ∀ (b : Nat) (H' H4 : Hp) (n : Addr) (l : List V) (w : V), Iv b H' → Mu n → (∀ a o, H' a = some o → H4 a = some o) → H' n = some (.lst l) → l.length ≤ b → Iv (b + 1) (upd H4 n (.lst (l ++ [w]))) := fun b H' H4 n l w iv hn up hl4 hb => by
    refine ⟨fun a o e na => ?_, fun a ha => ?_⟩
    · rw [upd_ne (fun z : a = n => na (z ▸ hn))]
      exact up _ _ (iv.1 a o e na)
    · by_cases z : a = n
      · subst z; exact ⟨l ++ [w], upd_same, by rw [List.length_append]; exact Nat.succ_le_succ hb⟩
      · obtain ⟨l', e, hb'⟩ := iv.2 a ha
        exact ⟨l', by rw [upd_ne z]; exact up _ _ e, Nat.le_succ_of_le hb'⟩
  have hvl : vs.length = rs.length := paired_len pr
  have szv := szl
  refine ⟨.ref q, kq, q, rfl, ⟨vs, SqL.of hq3⟩, fun i m σ' H' => m = vs.length - i ∧ i ≤ vs.length ∧ σ'.length = ρ.length ∧ (∀ j, j ≠ iR → σ'[j]? = ((σ.set iH (some (.ref q))).set iB (some v))[j]?) ∧ Iv (1000 + 2 * i) H', ⟨vs.length, by simp, Nat.zero_le _, lσ2, fun _ _ => rfl, fun a o e _ => e, fun a ⟨_, l, e, hb⟩ => ⟨l, up3 _ _ (st1.gh _ _ e), by omega⟩⟩, ?_⟩
  rintro i m σ' H' ⟨rfl, hle, hl', hsl, iv⟩
  have hq' : H' q = some (.lst vs) := iv.1 q _ hq3 nMq
  by_cases hlt : i < vs.length
  · refine .inr ⟨⟨vs, vs[i], SqL.of hq', List.getElem?_eq_getElem hlt⟩, fun σ'' H'' => σ''.length = ρ.length ∧ (∀ j, j ≠ iR → σ''[j]? = ((σ.set iH (some (.ref q))).set iB (some v))[j]?) ∧ Iv (1000 + 2 * (i + 1)) H'', fun σ'' H'' ⟨q1, q2, q3⟩ => ⟨vs.length - (i + 1), by omega, rfl, by omega, q1, q2, q3⟩, fun x H'' hy => ?_⟩
    obtain ⟨eH, hy⟩ := hy
    subst eH
    have hxi := hy vs (SqL.of hq')
    obtain ⟨z, hz1, hz2⟩ := paired_get' pr hxi
    obtain ⟨a, ws, n, u, l1, l2, ex, hT, w1, w6, g1, b1, g2, b2⟩ := hx _ _ _ (List.mem_of_getElem? hz1) hz2
    subst ex
    obtain ⟨c1, g1'⟩ := cut_some g1
    obtain ⟨c2, g2'⟩ := cut_some g2
    have Mn : Mu n := ⟨by simpa using c1, l1, g1', b1⟩
    have Muu : Mu u := ⟨by simpa using c2, l2, g2', b2⟩
    have hTM : SqT X.K (cut Mu G1) a ws := by
      rcases hT with (h | ⟨o, h⟩) | h
      · obtain ⟨_, h⟩ := cut_some h
        refine .inl (.inl ?_)
        rw [cut_good (fun ⟨_, l, e, _⟩ => by rw [h] at e; cases e)]
        exact h
      · obtain ⟨_, h⟩ := cut_some h
        refine .inl (.inr ⟨o, ?_⟩)
        rw [cut_good (fun ⟨_, l, e, _⟩ => by rw [h] at e; cases e)]
        exact h
      · exact .inr h
    have upT : ∀ {b : Nat} {Hx : Hp}, Iv b Hx → SqT X.K Hx a ws := fun {b Hx} ivx => same_t (fun a' o e => by
      obtain ⟨na, e'⟩ := cut_some e
      exact ivx.1 a' o (up3 _ _ (st1.gh _ _ e')) na) hTM
    have lR' : iR < σ'.length := by omega
    have gx : (σ'.set iR (some (.ref a)))[iR]? = some (some (.ref a)) := List.getElem?_set_self lR'
    obtain ⟨k1, e1, hb1⟩ := iv.2 n Mn
    refine ⟨.ref a, gx, a, ws, 1, .ref n, rfl, rfl, upT iv, atI_nat (j := 1) w1, .inl ⟨rfl, k1, SqL.of e1⟩, hA _ _ _ fun w4 H4 up4 => ?_⟩
    refine ⟨n, k1, w4, rfl, rfl, up4 _ _ e1, by omega, ?_⟩
    have iv2 : Iv (1000 + 2 * i + 1) (upd H4 n (.lst (k1 ++ [w4]))) := iv_app _ _ _ _ _ _ iv Mn up4 e1 hb1
    obtain ⟨k2, e2, hb2⟩ := iv2.2 u Muu
    refine ⟨.ref a, gx, a, ws, 6, .ref u, rfl, rfl, upT iv2, atI_nat (j := 6) w6, .inl ⟨rfl, k2, SqL.of e2⟩, hB _ _ _ fun w5 H5 up5 => ?_⟩
    refine ⟨u, k2, w5, rfl, rfl, up5 _ _ e2, by omega, ?_⟩
    exact ⟨by rw [List.length_set]; exact hl', fun j hj => by rw [List.getElem?_set_ne (Ne.symm hj)]; exact hsl j hj, iv_app _ _ _ _ _ _ iv2 Muu up5 e2 hb2⟩
  · refine .inl ⟨⟨vs, SqL.of hq', by omega⟩, ?_⟩
    have gq' : σ'[iH]? = some (some (.ref q)) := by rw [hsl iH (Ne.symm n6)]; exact kq
    refine ⟨.ref q, gq', .inl ⟨rfl, vs, SqL.of hq'⟩, q, vs, .int 7, rfl, rfl, hq', by omega, ?_⟩
    have stF : Step [] G H (cut B1 G3) (upd H' q (.lst (vs ++ [.int 7]))) := by
      refine ⟨fun a o e => ?_, fun a o e => ?_, fun a o e _ => ?_, fun a o e n _ => ?_⟩
      · rw [cut_good (fun z : B1 a => by rw [z.1] at e; cases e)]
        exact st3.gg _ _ (st2.gg _ _ (sGq _ _ e))
      · obtain ⟨nb, e⟩ := cut_some e
        have nm : ¬ Mu a := fun ⟨z1, l, z2, _⟩ => nb ⟨z1, fun z3 => by rw [sq.gg _ _ z2] at z3; cases z3⟩
        have nq : a ≠ q := fun z => nb (by subst z; exact ⟨fG, fun z3 => by rw [upd_same] at z3; cases z3⟩)
        rw [upd_ne nq]
        exact iv.1 _ _ (st3.gh _ _ e) nm
      · have nm : ¬ Mu a := fun ⟨z1, l, z2, _⟩ => by rw [st1.old a o e z1 (by simp)] at z2; cases z2
        have nq : a ≠ q := fun z => by subst z; rw [f1] at e; cases e
        rw [upd_ne nq]
        exact iv.1 _ _ (up3 _ _ (st1.keep a o e (by simp))) nm
      · have nq : a ≠ q := fun z => by subst z; rw [f1] at e; cases e
        have e1 := st1.keep a o e (by simp)
        have m1 : upd G1 q (.lst vs) a = none := by rw [upd_ne nq]; exact st1.old a o e n (by simp)
        have m2 := st2.old a o e1 m1 (by simp)
        have m3 := st3.old a o (st2.keep a o e1 (by simp)) m2 (by simp)
        by_cases z : B1 a
        · exact cut_bad z
        · rw [cut_good z]; exact m3
    have evF := ev.step0 stF
    have eA : EnvOk (ρ.set iH .off) (cut B1 G3) (upd H' q (.lst (vs ++ [.int 7]))) (σ.set iH (some (.ref q))) := evF.put (e := .off) trivial (nodup_fr evF.nd rfl).1
    have eB := eA.putFr (i := iB) (R := Rbk) (x := b) (v := v) (Rbk.mono (cut_mono st3.gg) rb)
    have eC := env_slot (i := iR) (σ' := σ') eB (by rw [hl', lσ2]) hsl
    refine ⟨cut B1 G3, P, stF.gh, eC, pp, ct.step stF.of0 (fun a ha => .inl ?_) fun z hz => pls_set pR (pls_set pB (pls_set pH hz))⟩
    rcases adrs_set ha with ha | ha
    · rcases adrs_set ha with ha | ha
      · rcases adrs_set ha with ha | ha
        · exact ha
        · cases ha
      · cases ha
    · cases ha
end
end SS

set_option Elab.async false
set_option linter.all false
set_option maxRecDepth 100000
/-! SSM: own rules: the pool begun, own lists in tests, the copying comprehension. Own work. -/
namespace SS
open PySem PySem.Spec L2
section
variable {X : Cx} {K : PySem.W.Frag} [HK X K] {τ ℓ α β γ δ : Type} {ρ : List (En K)} {post : τ → List (En K)} {lp : ℓ → List (En K)} {R : Rp K β} {rest : List Stmt} {pos : Pos} {e : Expr}
theorem pt_thaw {i : Nat} {p : Addr} {Ra : Rp K α} {xs : List α} {w : W Bool} (ho : ρ[i]? = some (.own p Ra xs)) (h : PT X e (TTx ((ρ.map hide).set i (.fr (rL Ra) xs)) w)) : PT X e (TTx ρ w) := by
  refine pt_imp h fun σ H Q ⟨G, P, s, ev, pp, c⟩ => ?_
  obtain ⟨hσ, n1, ⟨vs, h1, h2, h3⟩, hm⟩ := own_get ho ev
  have s1 : Step [p] G H (upd G p (.lst vs)) H := Step.freeze s (by simp) n1 h1
  have hpl : pls ((ρ.map hide).set i (.fr (rL Ra) xs : En K)) = [] := pls_setoff (hide_pls ρ) rfl
  have nd0 : (adrs (ρ.map hide)).Nodup := ev.nd.sublist (hide_adrs ρ)
  refine ⟨upd G p (.lst vs), P, s1.gh, ⟨by simp [ev.len], fun j e' hj => ?_, (nodup_fr nd0 rfl).1⟩, pp, fun G' H' b st e' pb => ?_⟩
  · by_cases hij : i = j
    · subst hij
      have hl : i < (ρ.map hide).length := by rw [List.length_map]; exact (List.getElem?_eq_some_iff.mp ho).1
      rw [List.getElem?_set_self hl] at hj
      cases hj
      exact ⟨_, hσ, .ref p, rfl, p, vs, rfl, SqL.of upd_same, paired_mono (fun _ _ z => Ra.mono s1.gg z) h2, h3⟩
    · rw [List.getElem?_set_ne hij, List.getElem?_map] at hj
      cases q : ρ[j]? with
      | none => rw [q] at hj; cases hj
      | some e0 =>
        rw [q] at hj
        obtain ⟨o, ho', q'⟩ := ev.ok j e0 q
        have ee : hide e0 = e' := by simpa using hj
        subst ee
        refine ⟨o, ho', ?_⟩
        cases e0 with
        | pool a b => trivial
        | off => trivial
        | fr R' x' => exact En.step (e := .fr R' x') q' s1 fun a ha => nomatch ha
        | own a' R' x' => exact En.step (e := .own a' R' x') q' s1 fun a ha z => nodup_apart ev.nd ho q hij (by rw [mem1 z]; simp [En.adr]) ha
        | obj a' C' x' => exact En.step (e := .obj a' C' x') q' s1 fun a ha z => nodup_apart ev.nd ho q hij (by rw [mem1 z]; simp [En.adr]) ha
  · -- the ghost without p
    have st0 : Step [] (upd G p (.lst vs)) H G' H' := by
      have e0 : padr ((ρ.map hide).set i (.fr (rL Ra) xs : En K)) = [] := by unfold padr; rw [hpl]; rfl
      rw [e0] at st
      exact st
    let G2 : Hp := fun a => if a = p then none else G' a
    have g2 : ∀ a o, G2 a = some o → G' a = some o ∧ a ≠ p := fun a o q => by
      by_cases z : a = p
      · have : G2 a = none := if_pos z
        rw [this] at q; cases q
      · have : G2 a = G' a := if_neg z
        rw [this] at q; exact ⟨q, z⟩
    have stf : Step [] G H G2 H' := by
      refine ⟨fun a o q => ?_, fun a o q => st0.gh a o (g2 a o q).1, fun a o q _ => st0.keep a o q (by simp), fun a o q n _ => ?_⟩
      · have z : a ≠ p := ne_of_none q n1
        have : G2 a = G' a := if_neg z
        rw [this]
        exact st0.gg a o (by rw [upd_ne z]; exact q)
      · by_cases z : a = p
        · exact if_pos z
        · have : G2 a = G' a := if_neg z
          rw [this]
          exact st0.old a o q (by rw [upd_ne z]; exact n) (by simp)
    exact c G2 H' b stf.of0 (ev.step0 stf) pb
/-- pool = begin(script) -/
theorem b_begin {i most k : Nat} {nm x : Str} {pn p spos : Pos} {ps : List Str} {w : W (List Int)} {m : Addr → Addr → W (Out τ ℓ β)} (h : FnG X.prog X.w K X.mg X.base x k ps (SpB K most)) (hr : Room k X.A) (hN : X.N.Nodup) (hi : X.N[i]? = some nm) (hx : Loc X.env.scope nm) (ha : PA X [e] (TAx ρ (fs1 (rL rI)) w))
    (hb : ∀ p g, PSs X rest (TBO (ρ.set i (.pool p g)) post lp R (m p g))) (hp : (ρ.getD i .off).pl = [] := by rfl) (hg : Gl X x := by rfl) (hdb : (x == ("__debug__" : Str)) = false := by decide) (he : starEach [e] X.env = (false, eval e X.env) :: starEach [] X.env := by rfl)
    (hpl : (backTo pos (starEach [] X.env)).any (·.1) = false := by rfl) (hs : swapsWith (.Call (.Name x p) [e] [] pos) (some (.Name nm pn)) spos.line X.env = pure false := by rfl)
    (hf : X.fn nm = true ∨ X.env.scope.names.lookup nm = some .local := by first | exact .inl rfl | exact .inr rfl | assumption) :
    PSs X (.Assign [.Name nm pn] (.Call (.Name x p) [e] [] pos) spos :: rest) (TBO ρ post lp R fun P => w fun ns => ns.length ≤ most ∧ ∀ p g, m p g P) := by
  have hK : X.K = K := HK.eq
  subst hK
  obtain ⟨f, fd, h1, h2, h3, h4⟩ := h.ex
  refine pss_imp (pss_cons (ps_set hN hi hx (pe_call h4 hr hg h1 h2 h3 .nil pass0 ha hdb he hpl) hs hf) (pss_fam fun q : Addr × Addr => hb q.1 q.2)) fun D σ H ⟨G, P, s, ev, pp, c⟩ => ⟨G, _, s, ev, pp, fun G1 H1 vs a st e1 pa ra => ?_⟩
  obtain ⟨v, hv, qv⟩ := ra
  subst hv
  show SpB X.K most ([v] ++ []) H1 _ E0
  refine ⟨G1, v, a, rfl, st.gh, qv, pa.1, fun G2 H2 p g st2 n1 n2 pl => ?_⟩
  have e2 := e1.step0 st2
  have np : H p = none := EnvOk.freshIn st e1 n1
  have ng : H g = none := EnvOk.freshIn st e1 n2
  refine ⟨(p, g), G2, P, st2.gh, e2.put ⟨rfl, pl⟩ (nodup_set e2.nd (by have := pl.2.2.1; simp [En.adr, this]) fun a ha z => ?_), pa.2 p g, c.step ((st.trans st2.of0).wide fun a ha => padr_sub ha) (fun b hb => (adrs_set hb).elim .inl fun z => .inr ?_) fun q hq => pls_set hp hq⟩
  · rcases (by simpa [En.adr] using ha : a = p ∨ a = g) with z2 | z2
    · subst z2; exact ev.fresh np z
    · subst z2; exact ev.fresh ng z
  · rcases (by simpa [En.adr] using z : b = p ∨ b = g) with z2 | z2
    · rw [z2]; exact np
    · rw [z2]; exact ng
/-- name = [.. for ..] where the rest is anything -/
theorem b_lcK {i : Nat} {nm : Str} {pn : Pos} {Ra : Rp K α} {Rb : Rp K γ} {tg iter elt : Expr} {ifs : List Expr} {scope : Scope} {own : List (Str × Nat)} {spos : Pos} {wi : W (List α)} {ext : α → List (En K)} {is : List Nat} {t : α → W Bool} {f : α → W γ} {u : TS}
    (hN : X.N.Nodup) (hi : X.N[i]? = some nm) (hyl : X.env.scope.names.lookup nm = some .local) (hk : X.env.scope.kind = .function) (ha : (scope.names.any fun (n, k) => n == nm && (k == .local || k == .cell)) = false)
    (ok : BlkOk X.N X.env.scope scope own) (hit : PI X tg iter (TIx ρ Ra wi))
    (hg : ∀ (s : Shared) (H : Hp) (C : Addr) (cl : List (Str × Addr)) (fp : List Addr), PG (BX X scope s H C cl fp) tg (TGx (wipeE ρ (own.map (·.2))) Ra ext is))
    (ht : ∀ (x : α) (s : Shared) (H : Hp) (C : Addr) (cl : List (Str × Addr)) (fp : List Addr), PTs (BX X scope s H C cl fp) ifs (TTx (ext x) (t x)))
    (he : ∀ (x : α) (s : Shared) (H : Hp) (C : Addr) (cl : List (Str × Addr)) (fp : List Addr), PE (BX X scope s H C cl fp) elt (TEx (ext x) Rb (f x)))
    (hr : PSs X rest u)
    (hc : X.calm = true := by rfl) (hsub : ∀ j ∈ is, j ∈ own.map (·.2) := by decide) (hpl : ∀ x, pls (ext x) = pls ρ := by intro _; rfl) (hpw : pls (wipeE ρ (own.map (·.2))) = pls ρ := by rfl)
    (hs : ∀ x, foldedSetIterable iter X.env x = pure x := by intro _; rfl) (hl : (pn.line == pos.line) = true := by rfl) :
    PSs X (.Assign [.Name nm pn] (.ListComp elt [⟨tg, iter, ifs, 0⟩] scope pos) spos :: rest) (fun D σ H => ∃ (G : Hp) (P : List γ → Prop), Same G H ∧ EnvOk ρ G H σ ∧ (wi fun xs => lcW xs t f P) ∧
      ∀ G' H' q vs xs, Step (padr ρ) G H G' H' → EnvOk ρ G' H' σ → P xs → H q = none → G' q = none → H' q = some (.lst vs) → Paired (Rb.ok G') vs xs → vs.length ≤ sizeLine → u D (σ.set i (some (.ref q))) H') :=
  pss_imp (pss_cons (ps_setLc hc hN hi hyl (sw_true hk hyl hl ha) hit ok hg (fun s H C cl fp => pts_fam fun x => ht x s H C cl fp) (fun s H C cl fp => pe_fam fun x => he x s H C cl fp) hs) hr)
    fun D σ H ⟨G, P, s, ev, p, c⟩ => tx_lc hsub hpl hpw σ H (fun x H1 => u D (σ.set i (some x)) H1) ⟨G, _, s, ev, p, fun G' H' q vs xs st e' pa n1 n2 hq pr hz => c G' H' q vs xs st e' pa n1 n2 hq pr hz⟩
theorem b_cond {C : Prop} {sts : List Stmt} {m : W (Out τ ℓ β)} (h : C → PSs X sts (TBO ρ post lp R m)) : PSs X sts (TBO ρ post lp R fun P => C ∧ m P) :=
  ⟨fun pins s σ H D I ⟨G, P, sm, ev, ⟨c, pm⟩, ct⟩ => (h c).run pins s σ H D I ⟨G, P, sm, ev, pm, ct⟩⟩
theorem r2_addS : R2Ok (fun x y H Q => ∃ i j : Str, x = .str i ∧ y = .str j ∧ i.length + j.length ≤ sizeLine ∧ Q (.str (i ++ j)) H) (rS : Rp K Str) (rS : Rp K Str) (rS : Rp K Str) (fun x y P => x.length + y.length ≤ sizeLine ∧ P (x ++ y)) := fun G H v u x y P Q s h1 h2 p k => by
  have e1 : v = V.str x := h1
  have e2 : u = V.str y := h2
  subst e1 e2
  exact ⟨x, y, rfl, rfl, p.1, k G H _ _ (Step.refl s) p.2 rfl⟩
theorem tC_lays (v : V) : ∀ (σ : L2.St) (H : Hp) (Q : VK), Q v H → tC v σ H Q := fun _ _ _ h => h
/-- (0, [0]) -/
theorem lays_couple : Lays (tTup (tCons (tC (.int 0)) (tCons (tLst (tCons (tC (.int 0)) tNil)) tNil))) := fun σ H Q c => by
  have sz := szl
  refine ⟨by show 1 ≤ sizeLine; omega, fun q1 h1 => ⟨by show 2 ≤ sizeLine; omega, fun q2 h2 => c _ _ fun a o e => ?_⟩⟩
  have n1 : a ≠ q1 := fun z => by subst z; rw [h1] at e; cases e
  have e1 : (upd H q1 (.lst [.int 0])) a = some o := by rw [upd_ne n1]; exact e
  have n2 : a ≠ q2 := fun z => by subst z; rw [h2] at e1; cases e1
  rw [upd_ne n2]; exact e1
/-- [(0, [0])] -/
theorem lays_list : Lays (tLst (tCons (tTup (tCons (tC (.int 0)) (tCons (tLst (tCons (tC (.int 0)) tNil)) tNil))) tNil)) := fun σ H Q c => by
  have sz := szl
  refine lays_couple σ H (fun x H1 => ([x] : List V).length ≤ sizeLine ∧ ∀ p, H1 p = none → Q (.ref p) (upd H1 p (.lst [x]))) fun v H' up => ⟨by show 1 ≤ sizeLine; omega, fun q1 h1 => c _ _ fun a o e => ?_⟩
  have e1 := up a o e
  have n1 : a ≠ q1 := fun z => by subst z; rw [h1] at e1; cases e1
  rw [upd_ne n1]; exact e1
end
end SS

set_option Elab.async false
set_option linter.all false
set_option maxRecDepth 100000
set_option maxHeartbeats 0
namespace KK
open PySem PySem.Spec PyProof.Rows L2
def top (i : Nat) : Stmt := PySem.Challenge.pw_stillsealed_k01_the_due_of_each_form_on.main.body.getD i (.Pass ⟨0, 0, 0, 0⟩)
abbrev s_TooMany___init__ : Stmt := inClass (top 3) 0
abbrev s_BadSpace___init__ : Stmt := inClass (top 4) 0
abbrev s_BadForm___init__ : Stmt := inClass (top 5) 0
abbrev s_BadBook___init__ : Stmt := inClass (top 6) 0
abbrev s_BadFields___init__ : Stmt := inClass (top 7) 0
abbrev s_BadRule___init__ : Stmt := inClass (top 8) 0
abbrev s_is_name : Stmt := top 10
abbrev s_bound_sizes : Stmt := top 15
abbrev s_forms_over : Stmt := top 16
abbrev s_Space___init__ : Stmt := inClass (top 17) 0
abbrev s_Space___eq__ : Stmt := inClass (top 17) 1
abbrev s_Space___len__ : Stmt := inClass (top 17) 2
abbrev s_Space___iter__ : Stmt := inClass (top 17) 3
abbrev s_Space_width : Stmt := inClass (top 17) 4
abbrev s_Space_sizes : Stmt := inClass (top 17) 5
abbrev s_Space_size : Stmt := inClass (top 17) 6
abbrev s_Space_many : Stmt := inClass (top 17) 7
abbrev s_Space_forms : Stmt := inClass (top 17) 8
abbrev s_Space_number_of : Stmt := inClass (top 17) 10
abbrev s_Space_need_form : Stmt := inClass (top 17) 17
abbrev s_Space_need_field : Stmt := inClass (top 17) 18
abbrev s_bound_dues : Stmt := top 20
abbrev s_Book___init__ : Stmt := inClass (top 21) 0
abbrev s_Book___eq__ : Stmt := inClass (top 21) 1
abbrev s_Book_space : Stmt := inClass (top 21) 2
abbrev s_Book_dues : Stmt := inClass (top 21) 3
abbrev s_Book_due : Stmt := inClass (top 21) 4
abbrev s_bound_days : Stmt := top 25
abbrev s_bound_rules : Stmt := top 26
abbrev s_copied_needs : Stmt := top 27
abbrev s_copied_rule : Stmt := top 28
abbrev s_wrong_needs : Stmt := top 29
abbrev s_need_rule : Stmt := top 30
abbrev s_meets : Stmt := top 31
abbrev s_speaks : Stmt := top 32
abbrev s_outranks : Stmt := top 33
abbrev s_Rulebook___init__ : Stmt := inClass (top 34) 0
abbrev s_Rulebook_space : Stmt := inClass (top 34) 1
abbrev s_Rulebook_default : Stmt := inClass (top 34) 2
abbrev s_Rulebook_rules : Stmt := inClass (top 34) 3
abbrev s_Rulebook_names : Stmt := inClass (top 34) 4
abbrev s_Rulebook_decider : Stmt := inClass (top 34) 5
abbrev s_Rulebook_deciding : Stmt := inClass (top 34) 6
abbrev s_Rulebook_on_day : Stmt := inClass (top 34) 7
abbrev s__law_just : Stmt := top 36
abbrev s__law_begin : Stmt := top 37
abbrev s__law_below : Stmt := top 38
abbrev s__law_sizes : Stmt := top 39
abbrev s__law_forms : Stmt := top 40
abbrev s__law_couples : Stmt := top 41
abbrev s__law_rule : Stmt := top 42
abbrev s__law_copied_rule : Stmt := top 43
abbrev s__law_met : Stmt := top 44
abbrev s__law_speaks : Stmt := top 45
abbrev s__law_decides : Stmt := top 46
abbrev s__law_day_dues : Stmt := top 47
abbrev s__law_days_right : Stmt := top 48
abbrev s_law : Stmt := top 49
def d_TooMany___init__ : He.DefD := ⟨("TooMany", some "__init__"), "__init__", "TooMany.__init__", defArgs s_TooMany___init__, defBody s_TooMany___init__, defScope s_TooMany___init__, [], []⟩
def d_BadSpace___init__ : He.DefD := ⟨("BadSpace", some "__init__"), "__init__", "BadSpace.__init__", defArgs s_BadSpace___init__, defBody s_BadSpace___init__, defScope s_BadSpace___init__, [], []⟩
def d_BadForm___init__ : He.DefD := ⟨("BadForm", some "__init__"), "__init__", "BadForm.__init__", defArgs s_BadForm___init__, defBody s_BadForm___init__, defScope s_BadForm___init__, [], []⟩
def d_BadBook___init__ : He.DefD := ⟨("BadBook", some "__init__"), "__init__", "BadBook.__init__", defArgs s_BadBook___init__, defBody s_BadBook___init__, defScope s_BadBook___init__, [], []⟩
def d_BadFields___init__ : He.DefD := ⟨("BadFields", some "__init__"), "__init__", "BadFields.__init__", defArgs s_BadFields___init__, defBody s_BadFields___init__, defScope s_BadFields___init__, [], []⟩
def d_BadRule___init__ : He.DefD := ⟨("BadRule", some "__init__"), "__init__", "BadRule.__init__", defArgs s_BadRule___init__, defBody s_BadRule___init__, defScope s_BadRule___init__, [], []⟩
def d_is_name : He.DefD := ⟨("is_name", none), "is_name", "is_name", defArgs s_is_name, defBody s_is_name, defScope s_is_name, [], []⟩
def d_bound_sizes : He.DefD := ⟨("bound_sizes", none), "bound_sizes", "bound_sizes", defArgs s_bound_sizes, defBody s_bound_sizes, defScope s_bound_sizes, [], []⟩
def d_forms_over : He.DefD := ⟨("forms_over", none), "forms_over", "forms_over", defArgs s_forms_over, defBody s_forms_over, defScope s_forms_over, [], []⟩
def d_Space___init__ : He.DefD := ⟨("Space", some "__init__"), "__init__", "Space.__init__", defArgs s_Space___init__, defBody s_Space___init__, defScope s_Space___init__, [], []⟩
def d_Space___eq__ : He.DefD := ⟨("Space", some "__eq__"), "__eq__", "Space.__eq__", defArgs s_Space___eq__, defBody s_Space___eq__, defScope s_Space___eq__, [], []⟩
def d_Space___len__ : He.DefD := ⟨("Space", some "__len__"), "__len__", "Space.__len__", defArgs s_Space___len__, defBody s_Space___len__, defScope s_Space___len__, [], []⟩
def d_Space___iter__ : He.DefD := ⟨("Space", some "__iter__"), "__iter__", "Space.__iter__", defArgs s_Space___iter__, defBody s_Space___iter__, defScope s_Space___iter__, [], []⟩
def d_Space_width : He.DefD := ⟨("Space", some "width"), "width", "Space.width", defArgs s_Space_width, defBody s_Space_width, defScope s_Space_width, [], []⟩
def d_Space_sizes : He.DefD := ⟨("Space", some "sizes"), "sizes", "Space.sizes", defArgs s_Space_sizes, defBody s_Space_sizes, defScope s_Space_sizes, [], []⟩
def d_Space_size : He.DefD := ⟨("Space", some "size"), "size", "Space.size", defArgs s_Space_size, defBody s_Space_size, defScope s_Space_size, [], []⟩
def d_Space_many : He.DefD := ⟨("Space", some "many"), "many", "Space.many", defArgs s_Space_many, defBody s_Space_many, defScope s_Space_many, [], []⟩
def d_Space_forms : He.DefD := ⟨("Space", some "forms"), "forms", "Space.forms", defArgs s_Space_forms, defBody s_Space_forms, defScope s_Space_forms, [], []⟩
def d_Space_number_of : He.DefD := ⟨("Space", some "number_of"), "number_of", "Space.number_of", defArgs s_Space_number_of, defBody s_Space_number_of, defScope s_Space_number_of, [], []⟩
def d_Space_need_form : He.DefD := ⟨("Space", some "need_form"), "need_form", "Space.need_form", defArgs s_Space_need_form, defBody s_Space_need_form, defScope s_Space_need_form, [], []⟩
def d_Space_need_field : He.DefD := ⟨("Space", some "need_field"), "need_field", "Space.need_field", defArgs s_Space_need_field, defBody s_Space_need_field, defScope s_Space_need_field, [], []⟩
def d_bound_dues : He.DefD := ⟨("bound_dues", none), "bound_dues", "bound_dues", defArgs s_bound_dues, defBody s_bound_dues, defScope s_bound_dues, [], []⟩
def d_Book___init__ : He.DefD := ⟨("Book", some "__init__"), "__init__", "Book.__init__", defArgs s_Book___init__, defBody s_Book___init__, defScope s_Book___init__, [], []⟩
def d_Book___eq__ : He.DefD := ⟨("Book", some "__eq__"), "__eq__", "Book.__eq__", defArgs s_Book___eq__, defBody s_Book___eq__, defScope s_Book___eq__, [], []⟩
def d_Book_space : He.DefD := ⟨("Book", some "space"), "space", "Book.space", defArgs s_Book_space, defBody s_Book_space, defScope s_Book_space, [], []⟩
def d_Book_dues : He.DefD := ⟨("Book", some "dues"), "dues", "Book.dues", defArgs s_Book_dues, defBody s_Book_dues, defScope s_Book_dues, [], []⟩
def d_Book_due : He.DefD := ⟨("Book", some "due"), "due", "Book.due", defArgs s_Book_due, defBody s_Book_due, defScope s_Book_due, [], []⟩
def d_bound_days : He.DefD := ⟨("bound_days", none), "bound_days", "bound_days", defArgs s_bound_days, defBody s_bound_days, defScope s_bound_days, [], []⟩
def d_bound_rules : He.DefD := ⟨("bound_rules", none), "bound_rules", "bound_rules", defArgs s_bound_rules, defBody s_bound_rules, defScope s_bound_rules, [], []⟩
def d_copied_needs : He.DefD := ⟨("copied_needs", none), "copied_needs", "copied_needs", defArgs s_copied_needs, defBody s_copied_needs, defScope s_copied_needs, [], []⟩
def d_copied_rule : He.DefD := ⟨("copied_rule", none), "copied_rule", "copied_rule", defArgs s_copied_rule, defBody s_copied_rule, defScope s_copied_rule, [], []⟩
def d_wrong_needs : He.DefD := ⟨("wrong_needs", none), "wrong_needs", "wrong_needs", defArgs s_wrong_needs, defBody s_wrong_needs, defScope s_wrong_needs, [], []⟩
def d_need_rule : He.DefD := ⟨("need_rule", none), "need_rule", "need_rule", defArgs s_need_rule, defBody s_need_rule, defScope s_need_rule, [], []⟩
def d_meets : He.DefD := ⟨("meets", none), "meets", "meets", defArgs s_meets, defBody s_meets, defScope s_meets, [], []⟩
def d_speaks : He.DefD := ⟨("speaks", none), "speaks", "speaks", defArgs s_speaks, defBody s_speaks, defScope s_speaks, [], []⟩
def d_outranks : He.DefD := ⟨("outranks", none), "outranks", "outranks", defArgs s_outranks, defBody s_outranks, defScope s_outranks, [], []⟩
def d_Rulebook___init__ : He.DefD := ⟨("Rulebook", some "__init__"), "__init__", "Rulebook.__init__", defArgs s_Rulebook___init__, defBody s_Rulebook___init__, defScope s_Rulebook___init__, [], []⟩
def d_Rulebook_space : He.DefD := ⟨("Rulebook", some "space"), "space", "Rulebook.space", defArgs s_Rulebook_space, defBody s_Rulebook_space, defScope s_Rulebook_space, [], []⟩
def d_Rulebook_default : He.DefD := ⟨("Rulebook", some "default"), "default", "Rulebook.default", defArgs s_Rulebook_default, defBody s_Rulebook_default, defScope s_Rulebook_default, [], []⟩
def d_Rulebook_rules : He.DefD := ⟨("Rulebook", some "rules"), "rules", "Rulebook.rules", defArgs s_Rulebook_rules, defBody s_Rulebook_rules, defScope s_Rulebook_rules, [], []⟩
def d_Rulebook_names : He.DefD := ⟨("Rulebook", some "names"), "names", "Rulebook.names", defArgs s_Rulebook_names, defBody s_Rulebook_names, defScope s_Rulebook_names, [], []⟩
def d_Rulebook_decider : He.DefD := ⟨("Rulebook", some "decider"), "decider", "Rulebook.decider", defArgs s_Rulebook_decider, defBody s_Rulebook_decider, defScope s_Rulebook_decider, [], []⟩
def d_Rulebook_deciding : He.DefD := ⟨("Rulebook", some "deciding"), "deciding", "Rulebook.deciding", defArgs s_Rulebook_deciding, defBody s_Rulebook_deciding, defScope s_Rulebook_deciding, [], []⟩
def d_Rulebook_on_day : He.DefD := ⟨("Rulebook", some "on_day"), "on_day", "Rulebook.on_day", defArgs s_Rulebook_on_day, defBody s_Rulebook_on_day, defScope s_Rulebook_on_day, [], []⟩
def d__law_just : He.DefD := ⟨("_law_just", none), "_law_just", "_law_just", defArgs s__law_just, defBody s__law_just, defScope s__law_just, [], []⟩
def d__law_begin : He.DefD := ⟨("_law_begin", none), "_law_begin", "_law_begin", defArgs s__law_begin, defBody s__law_begin, defScope s__law_begin, [], []⟩
def d__law_below : He.DefD := ⟨("_law_below", none), "_law_below", "_law_below", defArgs s__law_below, defBody s__law_below, defScope s__law_below, [], []⟩
def d__law_sizes : He.DefD := ⟨("_law_sizes", none), "_law_sizes", "_law_sizes", defArgs s__law_sizes, defBody s__law_sizes, defScope s__law_sizes, [], []⟩
def d__law_forms : He.DefD := ⟨("_law_forms", none), "_law_forms", "_law_forms", defArgs s__law_forms, defBody s__law_forms, defScope s__law_forms, [], []⟩
def d__law_couples : He.DefD := ⟨("_law_couples", none), "_law_couples", "_law_couples", defArgs s__law_couples, defBody s__law_couples, defScope s__law_couples, [], []⟩
def d__law_rule : He.DefD := ⟨("_law_rule", none), "_law_rule", "_law_rule", defArgs s__law_rule, defBody s__law_rule, defScope s__law_rule, [], []⟩
def d__law_copied_rule : He.DefD := ⟨("_law_copied_rule", none), "_law_copied_rule", "_law_copied_rule", defArgs s__law_copied_rule, defBody s__law_copied_rule, defScope s__law_copied_rule, [], []⟩
def d__law_met : He.DefD := ⟨("_law_met", none), "_law_met", "_law_met", defArgs s__law_met, defBody s__law_met, defScope s__law_met, [], []⟩
def d__law_speaks : He.DefD := ⟨("_law_speaks", none), "_law_speaks", "_law_speaks", defArgs s__law_speaks, defBody s__law_speaks, defScope s__law_speaks, [], []⟩
def d__law_decides : He.DefD := ⟨("_law_decides", none), "_law_decides", "_law_decides", defArgs s__law_decides, defBody s__law_decides, defScope s__law_decides, [], []⟩
def d__law_day_dues : He.DefD := ⟨("_law_day_dues", none), "_law_day_dues", "_law_day_dues", defArgs s__law_day_dues, defBody s__law_day_dues, defScope s__law_day_dues, [], []⟩
def d__law_days_right : He.DefD := ⟨("_law_days_right", none), "_law_days_right", "_law_days_right", defArgs s__law_days_right, defBody s__law_days_right, defScope s__law_days_right, [], []⟩
def d_law : He.DefD := ⟨("law", none), "law", "law", defArgs s_law, defBody s_law, defScope s_law, [], []⟩
def fn : List He.DefD := [d_TooMany___init__, d_BadSpace___init__, d_BadForm___init__, d_BadBook___init__, d_BadFields___init__, d_BadRule___init__, d_is_name, d_bound_sizes, d_forms_over, d_Space___init__, d_Space___eq__, d_Space___len__, d_Space___iter__, d_Space_width, d_Space_sizes, d_Space_size, d_Space_many, d_Space_forms, d_Space_number_of, d_Space_need_form, d_Space_need_field, d_bound_dues, d_Book___init__, d_Book___eq__, d_Book_space, d_Book_dues, d_Book_due, d_bound_days, d_bound_rules, d_copied_needs, d_copied_rule, d_wrong_needs, d_need_rule, d_meets, d_speaks, d_outranks, d_Rulebook___init__, d_Rulebook_space, d_Rulebook_default, d_Rulebook_rules, d_Rulebook_names, d_Rulebook_decider, d_Rulebook_deciding, d_Rulebook_on_day, d__law_just, d__law_begin, d__law_below, d__law_sizes, d__law_forms, d__law_couples, d__law_rule, d__law_copied_rule, d__law_met, d__law_speaks, d__law_decides, d__law_day_dues, d__law_days_right, d_law]
def fa : List He.Fa := [.glo "SealedError", .glo "TooMany", .glo "BadSpace", .glo "BadForm", .glo "BadBook", .glo "BadFields", .glo "BadRule", .glo "is_name", .glo "bound_sizes", .glo "forms_over", .glo "Space", .glo "bound_dues", .glo "Book", .glo "bound_days", .glo "bound_rules", .glo "copied_needs", .glo "copied_rule", .glo "wrong_needs", .glo "need_rule", .glo "meets", .glo "speaks", .glo "outranks", .glo "Rulebook", .glo "_law_just", .glo "_law_begin", .glo "_law_below", .glo "_law_sizes", .glo "_law_forms", .glo "_law_couples", .glo "_law_rule", .glo "_law_copied_rule", .glo "_law_met", .glo "_law_speaks", .glo "_law_decides", .glo "_law_day_dues", .glo "_law_days_right", .glo "law", .free "len", .free "max", .free "range", .free "isinstance", .free "list", .free "tuple", .free "int", .free "abs", .free "bool", .free "str", .free "all", .free "any", .free "iter", .int "MOST_FIELDS" 8, .int "MOST_VALUES" 9, .int "MOST_FORMS" 1296, .int "MOST_DUE" 1000000000, .int "MOST_RULES" 60, .int "MOST_DAY" 1000000, .cls "Space", .mkr "Space", .noat "Space" "kept_sizes", .noat "Space" "kept_forms", .noat "Space" "kept_steps", .meth "Space" "__eq__", .meth "Space" "__len__", .meth "Space" "__iter__", .meth "Space" "width", .meth "Space" "sizes", .meth "Space" "size", .meth "Space" "many", .meth "Space" "forms", .meth "Space" "number_of", .meth "Space" "need_form", .meth "Space" "need_field", .cls "Book", .mkr "Book", .noat "Book" "kept_space", .noat "Book" "kept_dues", .meth "Book" "__eq__", .meth "Book" "space", .meth "Book" "dues", .meth "Book" "due", .cls "Rulebook", .mkr "Rulebook", .noat "Rulebook" "kept_space", .noat "Rulebook" "kept_default", .noat "Rulebook" "kept_rules", .meth "Rulebook" "space", .meth "Rulebook" "default", .meth "Rulebook" "rules", .meth "Rulebook" "names", .meth "Rulebook" "decider", .meth "Rulebook" "deciding", .meth "Rulebook" "on_day"]
def loose0 : List PySem.Str := ["_wall", "__name__", "SealedError", "TooMany", "BadSpace", "BadForm", "BadBook", "BadFields", "BadRule", "is_name", "MOST_FIELDS", "MOST_VALUES", "MOST_FORMS", "bound_sizes", "forms_over", "Space", "MOST_DUE", "bound_dues", "Book", "MOST_RULES", "MOST_DAY", "bound_days", "bound_rules", "copied_needs", "copied_rule", "wrong_needs", "need_rule", "meets", "speaks", "outranks"]
def loose1 : List PySem.Str := ["Rulebook", "_law_just", "_law_begin", "_law_below", "_law_sizes", "_law_forms", "_law_couples", "_law_rule", "_law_copied_rule", "_law_met", "_law_speaks", "_law_decides", "_law_day_dues", "_law_days_right"]
def loose : List PySem.Str := loose0 ++ loose1
abbrev R : PySem.W.OpenRow := PySem.W.OpenLaw.row PySem.Challenge.rw_stillsealed_k01_the_due_of_each_form_on
abbrev hk : PySem.W.Hook := He.hookD 5 fa fn
def ob (s : PySem.W.SharedT) : He.AlD := He.obsDG 5 fa fn (HandSHeadRun.getT s)
theorem ob_eq (s : PySem.W.SharedT) : ob s = hk.obs s.abs := He.obsDG_eq (HandSHeadRun.getT_eq s)
theorem run (w : World) : HandSHeadRun.RunEq R (PySem.W.view R.prog [49]) hk ob 6000 loose w := by
  intro os
  kernel_rfl
end KK

set_option Elab.async false
set_option linter.all false
set_option maxRecDepth 100000
set_option maxHeartbeats 4000000
namespace KK
open PySem PySem.Spec L2 SS MM
structure Tx (K : PySem.W.Frag) (mg : Str → Option Value) : Prop where
  glo_SealedError : mg "SealedError" = some (.ref (He.ga K "SealedError"))
  glo_TooMany : mg "TooMany" = some (.ref (He.ga K "TooMany"))
  glo_BadSpace : mg "BadSpace" = some (.ref (He.ga K "BadSpace"))
  glo_BadForm : mg "BadForm" = some (.ref (He.ga K "BadForm"))
  glo_BadBook : mg "BadBook" = some (.ref (He.ga K "BadBook"))
  glo_BadFields : mg "BadFields" = some (.ref (He.ga K "BadFields"))
  glo_BadRule : mg "BadRule" = some (.ref (He.ga K "BadRule"))
  glo_is_name : mg "is_name" = some (.ref (He.ga K "is_name"))
  glo_bound_sizes : mg "bound_sizes" = some (.ref (He.ga K "bound_sizes"))
  glo_forms_over : mg "forms_over" = some (.ref (He.ga K "forms_over"))
  glo_Space : mg "Space" = some (.ref (He.ga K "Space"))
  glo_bound_dues : mg "bound_dues" = some (.ref (He.ga K "bound_dues"))
  glo_Book : mg "Book" = some (.ref (He.ga K "Book"))
  glo_bound_days : mg "bound_days" = some (.ref (He.ga K "bound_days"))
  glo_bound_rules : mg "bound_rules" = some (.ref (He.ga K "bound_rules"))
  glo_copied_needs : mg "copied_needs" = some (.ref (He.ga K "copied_needs"))
  glo_copied_rule : mg "copied_rule" = some (.ref (He.ga K "copied_rule"))
  glo_wrong_needs : mg "wrong_needs" = some (.ref (He.ga K "wrong_needs"))
  glo_need_rule : mg "need_rule" = some (.ref (He.ga K "need_rule"))
  glo_meets : mg "meets" = some (.ref (He.ga K "meets"))
  glo_speaks : mg "speaks" = some (.ref (He.ga K "speaks"))
  glo_outranks : mg "outranks" = some (.ref (He.ga K "outranks"))
  glo_Rulebook : mg "Rulebook" = some (.ref (He.ga K "Rulebook"))
  glo__law_just : mg "_law_just" = some (.ref (He.ga K "_law_just"))
  glo__law_begin : mg "_law_begin" = some (.ref (He.ga K "_law_begin"))
  glo__law_below : mg "_law_below" = some (.ref (He.ga K "_law_below"))
  glo__law_sizes : mg "_law_sizes" = some (.ref (He.ga K "_law_sizes"))
  glo__law_forms : mg "_law_forms" = some (.ref (He.ga K "_law_forms"))
  glo__law_couples : mg "_law_couples" = some (.ref (He.ga K "_law_couples"))
  glo__law_rule : mg "_law_rule" = some (.ref (He.ga K "_law_rule"))
  glo__law_copied_rule : mg "_law_copied_rule" = some (.ref (He.ga K "_law_copied_rule"))
  glo__law_met : mg "_law_met" = some (.ref (He.ga K "_law_met"))
  glo__law_speaks : mg "_law_speaks" = some (.ref (He.ga K "_law_speaks"))
  glo__law_decides : mg "_law_decides" = some (.ref (He.ga K "_law_decides"))
  glo__law_day_dues : mg "_law_day_dues" = some (.ref (He.ga K "_law_day_dues"))
  glo__law_days_right : mg "_law_days_right" = some (.ref (He.ga K "_law_days_right"))
  glo_law : mg "law" = some (.ref (He.ga K "law"))
  free_len : mg "len" = none
  free_max : mg "max" = none
  free_range : mg "range" = none
  free_isinstance : mg "isinstance" = none
  free_list : mg "list" = none
  free_tuple : mg "tuple" = none
  free_int : mg "int" = none
  free_abs : mg "abs" = none
  free_bool : mg "bool" = none
  free_str : mg "str" = none
  free_all : mg "all" = none
  free_any : mg "any" = none
  free_iter : mg "iter" = none
  int_MOST_FIELDS : ∃ t, mg "MOST_FIELDS" = some (.int (8) t)
  int_MOST_VALUES : ∃ t, mg "MOST_VALUES" = some (.int (9) t)
  int_MOST_FORMS : ∃ t, mg "MOST_FORMS" = some (.int (1296) t)
  int_MOST_DUE : ∃ t, mg "MOST_DUE" = some (.int (1000000000) t)
  int_MOST_RULES : ∃ t, mg "MOST_RULES" = some (.int (60) t)
  int_MOST_DAY : ∃ t, mg "MOST_DAY" = some (.int (1000000) t)
  cls_Space : Cls K (He.ga K "Space")
  mkr_Space : Mk K (He.ga K "Space") (He.fAd K ("Space", some "__init__"))
  noat_Space_kept_sizes : NoAttr K (He.ga K "Space") "kept_sizes"
  noat_Space_kept_forms : NoAttr K (He.ga K "Space") "kept_forms"
  noat_Space_kept_steps : NoAttr K (He.ga K "Space") "kept_steps"
  meth_Space___eq__ : Meth K (He.ga K "Space") "__eq__" (He.fAd K ("Space", some "__eq__"))
  meth_Space___len__ : Meth K (He.ga K "Space") "__len__" (He.fAd K ("Space", some "__len__"))
  meth_Space___iter__ : Meth K (He.ga K "Space") "__iter__" (He.fAd K ("Space", some "__iter__"))
  meth_Space_width : Meth K (He.ga K "Space") "width" (He.fAd K ("Space", some "width"))
  meth_Space_sizes : Meth K (He.ga K "Space") "sizes" (He.fAd K ("Space", some "sizes"))
  meth_Space_size : Meth K (He.ga K "Space") "size" (He.fAd K ("Space", some "size"))
  meth_Space_many : Meth K (He.ga K "Space") "many" (He.fAd K ("Space", some "many"))
  meth_Space_forms : Meth K (He.ga K "Space") "forms" (He.fAd K ("Space", some "forms"))
  meth_Space_number_of : Meth K (He.ga K "Space") "number_of" (He.fAd K ("Space", some "number_of"))
  meth_Space_need_form : Meth K (He.ga K "Space") "need_form" (He.fAd K ("Space", some "need_form"))
  meth_Space_need_field : Meth K (He.ga K "Space") "need_field" (He.fAd K ("Space", some "need_field"))
  cls_Book : Cls K (He.ga K "Book")
  mkr_Book : Mk K (He.ga K "Book") (He.fAd K ("Book", some "__init__"))
  noat_Book_kept_space : NoAttr K (He.ga K "Book") "kept_space"
  noat_Book_kept_dues : NoAttr K (He.ga K "Book") "kept_dues"
  meth_Book___eq__ : Meth K (He.ga K "Book") "__eq__" (He.fAd K ("Book", some "__eq__"))
  meth_Book_space : Meth K (He.ga K "Book") "space" (He.fAd K ("Book", some "space"))
  meth_Book_dues : Meth K (He.ga K "Book") "dues" (He.fAd K ("Book", some "dues"))
  meth_Book_due : Meth K (He.ga K "Book") "due" (He.fAd K ("Book", some "due"))
  cls_Rulebook : Cls K (He.ga K "Rulebook")
  mkr_Rulebook : Mk K (He.ga K "Rulebook") (He.fAd K ("Rulebook", some "__init__"))
  noat_Rulebook_kept_space : NoAttr K (He.ga K "Rulebook") "kept_space"
  noat_Rulebook_kept_default : NoAttr K (He.ga K "Rulebook") "kept_default"
  noat_Rulebook_kept_rules : NoAttr K (He.ga K "Rulebook") "kept_rules"
  meth_Rulebook_space : Meth K (He.ga K "Rulebook") "space" (He.fAd K ("Rulebook", some "space"))
  meth_Rulebook_default : Meth K (He.ga K "Rulebook") "default" (He.fAd K ("Rulebook", some "default"))
  meth_Rulebook_rules : Meth K (He.ga K "Rulebook") "rules" (He.fAd K ("Rulebook", some "rules"))
  meth_Rulebook_names : Meth K (He.ga K "Rulebook") "names" (He.fAd K ("Rulebook", some "names"))
  meth_Rulebook_decider : Meth K (He.ga K "Rulebook") "decider" (He.fAd K ("Rulebook", some "decider"))
  meth_Rulebook_deciding : Meth K (He.ga K "Rulebook") "deciding" (He.fAd K ("Rulebook", some "deciding"))
  meth_Rulebook_on_day : Meth K (He.ga K "Rulebook") "on_day" (He.fAd K ("Rulebook", some "on_day"))
theorem tx_of {K : PySem.W.Frag} {h : Heap} {mg : Str → Option Value} (X : K.In h) (G : h.Ns mainGlobals mg) (c : He.SaysD fa fn K) : Tx K mg :=
  ⟨He.glo_ok X G (c.fact 0), He.glo_ok X G (c.fact 1), He.glo_ok X G (c.fact 2), He.glo_ok X G (c.fact 3), He.glo_ok X G (c.fact 4), He.glo_ok X G (c.fact 5), He.glo_ok X G (c.fact 6), He.glo_ok X G (c.fact 7), He.glo_ok X G (c.fact 8), He.glo_ok X G (c.fact 9), He.glo_ok X G (c.fact 10), He.glo_ok X G (c.fact 11), He.glo_ok X G (c.fact 12), He.glo_ok X G (c.fact 13), He.glo_ok X G (c.fact 14), He.glo_ok X G (c.fact 15), He.glo_ok X G (c.fact 16), He.glo_ok X G (c.fact 17), He.glo_ok X G (c.fact 18), He.glo_ok X G (c.fact 19), He.glo_ok X G (c.fact 20), He.glo_ok X G (c.fact 21), He.glo_ok X G (c.fact 22), He.glo_ok X G (c.fact 23), He.glo_ok X G (c.fact 24), He.glo_ok X G (c.fact 25), He.glo_ok X G (c.fact 26), He.glo_ok X G (c.fact 27), He.glo_ok X G (c.fact 28), He.glo_ok X G (c.fact 29), He.glo_ok X G (c.fact 30), He.glo_ok X G (c.fact 31), He.glo_ok X G (c.fact 32), He.glo_ok X G (c.fact 33), He.glo_ok X G (c.fact 34), He.glo_ok X G (c.fact 35), He.glo_ok X G (c.fact 36), He.free_ok X G (c.fact 37), He.free_ok X G (c.fact 38), He.free_ok X G (c.fact 39), He.free_ok X G (c.fact 40), He.free_ok X G (c.fact 41), He.free_ok X G (c.fact 42), He.free_ok X G (c.fact 43), He.free_ok X G (c.fact 44), He.free_ok X G (c.fact 45), He.free_ok X G (c.fact 46), He.free_ok X G (c.fact 47), He.free_ok X G (c.fact 48), He.free_ok X G (c.fact 49), He.int_ok X G (c.fact 50), He.int_ok X G (c.fact 51), He.int_ok X G (c.fact 52), He.int_ok X G (c.fact 53), He.int_ok X G (c.fact 54), He.int_ok X G (c.fact 55), He.cls_ok (c.fact 56), He.mkr_ok (c.fact 57), He.noat_ok (c.fact 58), He.noat_ok (c.fact 59), He.noat_ok (c.fact 60), He.meth_ok (c.fact 61), He.meth_ok (c.fact 62), He.meth_ok (c.fact 63), He.meth_ok (c.fact 64), He.meth_ok (c.fact 65), He.meth_ok (c.fact 66), He.meth_ok (c.fact 67), He.meth_ok (c.fact 68), He.meth_ok (c.fact 69), He.meth_ok (c.fact 70), He.meth_ok (c.fact 71), He.cls_ok (c.fact 72), He.mkr_ok (c.fact 73), He.noat_ok (c.fact 74), He.noat_ok (c.fact 75), He.meth_ok (c.fact 76), He.meth_ok (c.fact 77), He.meth_ok (c.fact 78), He.meth_ok (c.fact 79), He.cls_ok (c.fact 80), He.mkr_ok (c.fact 81), He.noat_ok (c.fact 82), He.noat_ok (c.fact 83), He.noat_ok (c.fact 84), He.meth_ok (c.fact 85), He.meth_ok (c.fact 86), He.meth_ok (c.fact 87), He.meth_ok (c.fact 88), He.meth_ok (c.fact 89), He.meth_ok (c.fact 90), He.meth_ok (c.fact 91)⟩
structure Bd (P : Program) (w : World) (K : PySem.W.Frag) (mg : Str → Option Value) (base : Heap) : Prop where
  says : He.SaysD fa fn K
  tx : Tx K mg
abbrev T_Space : Type := (List Int) × (List (List Int)) × (List Int)
abbrev F_Space (K : PySem.W.Frag) (x : T_Space) : List (Str × Mp) := [("kept_sizes", Rp.mp (K := K) (rL SS.rI) x.1), ("kept_forms", Rp.mp (K := K) (rL (SS.rU SS.rI)) x.2.1), ("kept_steps", Rp.mp (K := K) (rL SS.rI) x.2.2)]
abbrev r_Space (K : PySem.W.Frag) : Rp K T_Space := rIns (He.ga K "Space") (F_Space K)
abbrev T_Book : Type := T_Space × (List Int)
abbrev F_Book (K : PySem.W.Frag) (x : T_Book) : List (Str × Mp) := [("kept_space", Rp.mp (K := K) (r_Space K) x.1), ("kept_dues", Rp.mp (K := K) (rL SS.rI) x.2)]
abbrev r_Book (K : PySem.W.Frag) : Rp K T_Book := rIns (He.ga K "Book") (F_Book K)
abbrev T_Rulebook : Type := T_Space × Int × (List (Str × (List (Int × (List Int))) × Int × Int × (Option Int) × (Option Int) × (List (List (Int × (List Int))))))
abbrev F_Rulebook (K : PySem.W.Frag) (x : T_Rulebook) : List (Str × Mp) := [("kept_space", Rp.mp (K := K) (r_Space K) x.1), ("kept_default", Rp.mp (K := K) SS.rI x.2.1), ("kept_rules", Rp.mp (K := K) (rL (rT (fsC rS (fsC (rL (rT (fsC SS.rI (fs1 (rL SS.rI))))) (fsC SS.rI (fsC SS.rI (fsC (rO SS.rI) (fsC (rO SS.rI) (fs1 (rL (rL (rT (fsC SS.rI (fs1 (rL SS.rI))))))))))))))) x.2.2)]
abbrev r_Rulebook (K : PySem.W.Frag) : Rp K T_Rulebook := rIns (He.ga K "Rulebook") (F_Rulebook K)
section
variable {P : Program} {w : World} {K : PySem.W.Frag} {mg : Str → Option Value} {base : Heap}
theorem sc_bound_sizes : FnScope ["sizes", "forms", "size"] ["sizes"] (defScope s_bound_sizes) := ⟨rfl, rfl, rfl, by decide +kernel, rfl, by decide +kernel, by decide +kernel⟩
theorem ok_bound_sizes (B : Bd P w K mg base) : FnG P w K mg base "bound_sizes" 1 ["sizes"] (SpF (K := K) (fs1 (rL SS.rI)) rN (fun (a : (List Int)) => (fun P => a ∈ SZ ∧ P () : W Unit))) := by
  obtain ⟨fd, D⟩ := B.says.def_ 7 (d := d_bound_sizes) rfl
  refine ⟨_, fd, B.tx.glo_bound_sizes, D.kp, D.bindsN (fun _ _ _ _ _ _ us hl => match us, hl with | [_], _ => rfl), fnok_ofN (post := fun _ : Unit => ([.off, .off, .off] : List (En K))) D sc_bound_sizes rfl (by decide) fsE_1 (fun a => [.fr (rL SS.rI) a, .off, .off]) (fun _ => rfl) (fun a cdv A outer s H E hr => (b_ifr (pt_cmpX op_gt r2_gt (nomark _) (pr_cb call_len_seq rc_len B.tx.free_len (by decide +kernel) (pa_oneX (pr_name (pv 0) rfl))) (pr_gint (by rfl) B.tx.int_MOST_FIELDS)) b_never (b_asg (i := 1) sc_bound_sizes.nd rfl (by first | exact Or.inl rfl | exact Or.inr rfl) pr_int (fun x1 => (b_for (fun s2 : Int => [.fr (rL SS.rI) a, .fr SS.rI s2, .off]) x1 (pi_listX (pr_name (pv 0) rfl)) (.same (.same (.same .nil))) (fun s2 => (pg_nameX (pg_name (i := 2) sc_bound_sizes.nd rfl (by first | exact Or.inl rfl | exact Or.inr rfl)))) (fun q3 q3x => (b_ifr (pt_cmpX op_gt r2_gt (nomark _) (pr_name (pv 2) rfl) (pr_gint (by rfl) B.tx.int_MOST_VALUES)) b_never (b_augM (i := 1) sc_bound_sizes.nd rfl (by first | exact Or.inl rfl | exact Or.inr rfl) rfl (pr_cb (call_max2 rfl) rc_max2 B.tx.free_max (by decide +kernel) (pa_consX pr_int (pa_oneX (pr_name (pv 2) rfl)))) (fun x4 => (b_nil (t := x4) (.same (.same (.off .nil rfl)))))))) (fun s2 => (b_ifr (pt_cmpX op_gt r2_gt (nomark _) (pr_name (pv 1) rfl) (pr_gint (by rfl) B.tx.int_MOST_FORMS)) b_never (b_nil (t := ()) (.off (.off (.same .nil) rfl) rfl))))))))) (fun a Q h => ?_)⟩
  obtain ⟨hz, h⟩ := h
  simp only [SZ, List.mem_cons, List.not_mem_nil, or_false] at hz
  rcases hz with hz | hz | hz | hz | hz | hz | hz | hz | hz | hz | hz | hz | hz <;> subst hz <;> simp [forW, CMul, fin, h, max23]
theorem sc_forms_over : FnScope ["sizes", "forms", "size", "form", "value"] ["sizes"] (defScope s_forms_over) := ⟨rfl, rfl, rfl, by decide +kernel, rfl, by decide +kernel, by decide +kernel⟩
theorem ok_forms_over (B : Bd P w K mg base) : FnG P w K mg base "forms_over" 1 ["sizes"] (SpF (K := K) (fs1 (rL SS.rI)) (rL (SS.rU SS.rI)) (fun (a : (List Int)) => (fun P => a ∈ SZ ∧ P (forms a) : W (List (List Int))))) := by
  obtain ⟨fd, D⟩ := B.says.def_ 8 (d := d_forms_over) rfl
  refine ⟨_, fd, B.tx.glo_forms_over, D.kp, D.bindsN (fun _ _ _ _ _ _ us hl => match us, hl with | [_], _ => rfl), fnok_of (post := fun _ : Unit => ([.off, .off, .off, .off, .off] : List (En K))) D sc_forms_over rfl (by decide) fsE_1 (fun a => [.fr (rL SS.rI) a, .off, .off, .off, .off]) (fun _ => rfl) (fun a cdv A outer s H E hr => (b_asg (i := 1) sc_forms_over.nd rfl (by first | exact Or.inl rfl | exact Or.inr rfl) (pr_frz (pr_lst (R := (SS.rU SS.rI)) (pa_consR (pr_tupU (R := SS.rI) pa_nilR) pa_nilR))) (fun x5 => (b_for (fun s6 : (List (List Int)) => [.fr (rL SS.rI) a, .fr (rL (SS.rU SS.rI)) s6, .off, .off, .off]) x5 (pi_listX (pr_name (pv 0) rfl)) (.same (.same (.same (.same (.same .nil))))) (fun s6 => (pg_nameX (pg_name (i := 2) sc_forms_over.nd rfl (by first | exact Or.inl rfl | exact Or.inr rfl)))) (fun q7 q7x => (b_lc2T (i := 1) (own := [("form", 3), ("value", 4)]) (vs1 := [4]) sc_forms_over.nd rfl rfl rfl (by decide +kernel) (blkOk_by (own := [("form", 3), ("value", 4)]) (N := ["sizes", "forms", "size", "form", "value"]) (sc := defScope s_forms_over) (by decide +kernel)) (pi_listX (pr_name (pv 1) rfl)) (fun _ _ _ _ _ => (pg_nameX (pg_name (i := 3) sc_forms_over.nd rfl (by first | exact Or.inl rfl | exact Or.inr rfl)))) (fun x8 _ _ _ _ _ => pts_nilX) (fun x8 _ _ _ _ _ => (pi_rng1X B.tx.free_range (pa_oneX (pr_name (pv 2) rfl)))) (fun x8 _ _ _ _ _ => (pg_nameX (pg_name (i := 4) sc_forms_over.nd rfl (by first | exact Or.inl rfl | exact Or.inr rfl)))) (fun q9 q9y _ _ _ _ _ => pts_nilX) (fun q9 q9y _ _ _ _ _ => (pr_op op_catA r2_catU (pr_name (pv 3) rfl) (pr_tupU (R := SS.rI) (pa_consR (pr_name (pv 4) rfl) pa_nilR)))) (fun q10 q10l => (b_frz 1 rfl (b_nil (t := q10l) (.same (.same (.off (.same (.same .nil)) rfl)))))))) (fun s6 => (b_ret (pr_name (pv 1) rfl))))))) (fun a Q h => ?_)⟩
  obtain ⟨hz, h⟩ := h
  dsimp only
  refine forW_inv (fun pre suf st => st = forms pre) rfl (fun pre x suf st C e hi h1 _ _ _ => ?_) (fun st e => by subst e; exact h)
  subst hi
  obtain ⟨hx, hl, hf⟩ := sz_split hz e
  refine lc2W_map (fun _ => rng 0 x.toNat) (fun f v => f ++ [v]) _ _ (fun f hf C c => ⟨by omega, c⟩) (fun f hf' v hv C c => ⟨by have := hf f hf'; exact small (by simp; omega), c⟩) (small ?_) (fun p => h1 _ ?_)
  · have : ∀ l : List (List Int), (l.flatMap fun _ => rng 0 x.toNat).length ≤ l.length * 3 := fun l => by
      induction l with
      | nil => simp
      | cons y l ih => rw [List.flatMap_cons, List.length_append, rng_len, List.length_cons]; omega
    have := this (forms pre)
    simp only [List.length_nil]
    omega
  · rw [forms_snoc]; rfl
theorem sc_Space___init__ : FnScope ["self", "sizes", "i", "steps", "size"] ["self", "sizes"] (defScope s_Space___init__) := ⟨rfl, rfl, rfl, by decide +kernel, rfl, by decide +kernel, by decide +kernel⟩
theorem ok_Space___init__ (B : Bd P w K mg base) : FnC P w K mg base "Space" (He.ga K "Space") 2 ["self", "sizes"] (SpI (K := K) (He.ga K "Space") (fs1 (rL SS.rI)) (r_Space K) (fun (a : (List Int)) => (fun P => a ∈ SZ ∧ P (spc a) : W T_Space))) := by
  obtain ⟨fd, D⟩ := B.says.def_ 9 (d := d_Space___init__) rfl
  refine ⟨_, fd, B.tx.glo_Space, B.tx.mkr_Space, D.bindsN (fun _ _ _ _ _ _ us hl => match us, hl with | [_, _], _ => rfl), fnok_ofI (C := He.ga K "Space") (FI := F_Space K) D sc_Space___init__ rfl (by decide) fsE_1 (fun i a => [.obj i (He.ga K "Space") [], .fr (rL SS.rI) a, .off, .off, .off]) (fun _ _ => rfl) (fun i b => [.obj i (He.ga K "Space") (F_Space K b), .off, .off, .off, .off]) (fun _ _ => rfl) (fun i a cdv A outer s H E hr => (b_expr (pr_call (ok_bound_sizes B) (hr.mono (by decide)) (pa_oneX (pr_name (pv 1) rfl))) (b_ifr (pt_cmpX (op_eqP hr.units) (r2_eq eqI) (nomark _) (pr_cb call_len_seq rc_len B.tx.free_len (by decide +kernel) (pa_oneX (pr_name (pv 1) rfl))) pr_int) b_never (b_for (fun s11 : Unit => [.obj i (He.ga K "Space") [], .fr (rL SS.rI) a, .off, .off, .off]) () (pi_rng1X B.tx.free_range (pa_oneX (pr_cb call_len_seq rc_len B.tx.free_len (by decide +kernel) (pa_oneX (pr_name (pv 1) rfl))))) (.same (.same (.same (.same (.same .nil))))) (fun s11 => (pg_nameX (pg_name (i := 2) sc_Space___init__.nd rfl (by first | exact Or.inl rfl | exact Or.inr rfl)))) (fun q12 q12x => (b_ifr (pt_cmpX op_lt r2_lt (nomark _) (pr_ix ix_list r2_ixL (pr_name (pv 1) rfl) (pr_name (pv 2) rfl)) pr_int) b_never (b_nil (t := ()) (.same (.same (.off (.same (.same .nil)) rfl)))))) (fun s11 => (b_fld (ks := []) (pv 0) rfl B.tx.cls_Space B.tx.noat_Space_kept_sizes (pr_frz (pr_ctyL call_list_of rcl_list B.tx.free_list (by decide +kernel) (pa_oneX (pr_name (pv 1) rfl)))) rfl (by decide +kernel) (fun x13 => (b_fld (ks := ["kept_sizes"]) (pv 0) rfl B.tx.cls_Space B.tx.noat_Space_kept_forms (pr_call (ok_forms_over B) (hr.mono (by decide)) (pa_oneX (pr_name (pv 1) rfl))) rfl (by decide +kernel) (fun x14 => (b_lcT (i := 3) (own := [("size", 4)]) sc_Space___init__.nd rfl rfl rfl (by decide +kernel) (blkOk_by (own := [("size", 4)]) (N := ["self", "sizes", "i", "steps", "size"]) (sc := defScope s_Space___init__) (by decide +kernel)) (pi_listX (pr_name (pv 1) rfl)) (fun _ _ _ _ _ => (pg_nameX (pg_name (i := 4) sc_Space___init__.nd rfl (by first | exact Or.inl rfl | exact Or.inr rfl)))) (fun x15 _ _ _ _ _ => pts_nilX) (fun x15 _ _ _ _ _ => pr_int) (fun q16 q16l => (b_for (fun s17 : (List Int) => [.obj i (He.ga K "Space") ([("kept_sizes", Rp.mp (K := K) (rL SS.rI) x13), ("kept_forms", Rp.mp (K := K) (rL (SS.rU SS.rI)) x14)] : List (Str × Mp)), .fr (rL SS.rI) a, .off, .own q16 SS.rI s17, .off]) q16l (pi_rngDX B.tx.free_range (pa_consX (pr_op op_sub r2_sub (pr_cb call_len_seq rc_len B.tx.free_len (by decide +kernel) (pa_oneX (pr_name (pv 1) rfl))) pr_int) (pa_consX (pr_un un_neg r1_neg pr_int) (pa_oneX (pr_un un_neg r1_neg pr_int))))) (.same (.same (.same (.same (.same .nil))))) (fun s17 => (pg_nameX (pg_name (i := 2) sc_Space___init__.nd rfl (by first | exact Or.inl rfl | exact Or.inr rfl)))) (fun q18 q18x => (b_seti (pv 3) rfl (pr_op op_mul r2_mul (pr_ownix (pv 3) rfl (pr_op op_add r2_add (pr_name (pv 2) rfl) pr_int)) (pr_ix ix_list r2_ixL (pr_name (pv 1) rfl) (pr_op op_add r2_add (pr_name (pv 2) rfl) pr_int))) (pr_name (pv 2) rfl) (fun q19 q19l => (b_nil (t := (q18.set q19 q19l)) (.same (.same (.off (.same (.same .nil)) rfl))))))) (fun s17 => (b_frz 3 rfl (b_fld (ks := ["kept_sizes", "kept_forms"]) (pv 0) rfl B.tx.cls_Space B.tx.noat_Space_kept_steps (pr_name (pv 3) rfl) rfl (by decide +kernel) (fun x20 => (b_nil (t := (x13, x14, x20)) (.same (.off (.same (.off (.same .nil) rfl)) rfl))))))))))))))))))) (fun i a Q h => ?_)⟩
  obtain ⟨hz, h⟩ := h
  dsimp only
  refine ⟨hz, fun _ => ?_⟩
  have hz' := hz
  simp only [SZ, List.mem_cons, List.not_mem_nil, or_false] at hz
  rcases hz with hz | hz | hz | hz | hz | hz | hz | hz | hz | hz | hz | hz | hz <;> subst hz <;> simp [forW, lcW, rng, rngD, List.range, List.range.loop, atI, ixN, CMul, hz'] <;> exact fun _ => h
theorem sc_Space_width : FnScope ["self"] ["self"] (defScope s_Space_width) := ⟨rfl, rfl, rfl, by decide +kernel, rfl, by decide +kernel, by decide +kernel⟩
theorem ok_Space_width (B : Bd P w K mg base) : FnM P w K mg base (He.ga K "Space") "width" 1 ["self"] (SpF (K := K) (fs1 (r_Space K)) SS.rI (fun (a : T_Space) => (fun P => P (a.1.length : Int) : W Int))) := by
  obtain ⟨fd, D⟩ := B.says.def_ 13 (d := d_Space_width) rfl
  refine ⟨_, fd, B.tx.cls_Space, B.tx.meth_Space_width, D.bindsN (fun _ _ _ _ _ _ us hl => match us, hl with | [_], _ => rfl), fnok_of (post := fun _ : Unit => ([.off] : List (En K))) D sc_Space_width rfl (by decide) fsE_1 (fun a => [.fr (r_Space K) a]) (fun _ => rfl) (fun a cdv A outer s H E hr => (b_ret (pr_cb call_len_seq rc_len B.tx.free_len (by decide +kernel) (pa_oneX (pr_fld (ks := ["kept_sizes", "kept_forms", "kept_steps"]) 0 (pr_name (pv 0) rfl) B.tx.cls_Space B.tx.noat_Space_kept_sizes (fun _ => rfl) (fun _ => rfl) (by decide +kernel)))))) (fun a Q h => ?_)⟩
  exact fun _ => h
theorem sc_Space_sizes : FnScope ["self"] ["self"] (defScope s_Space_sizes) := ⟨rfl, rfl, rfl, by decide +kernel, rfl, by decide +kernel, by decide +kernel⟩
theorem ok_Space_sizes (B : Bd P w K mg base) : FnM P w K mg base (He.ga K "Space") "sizes" 1 ["self"] (SpF (K := K) (fs1 (r_Space K)) (rL SS.rI) (fun (a : T_Space) => (fun P => P a.1 : W (List Int)))) := by
  obtain ⟨fd, D⟩ := B.says.def_ 14 (d := d_Space_sizes) rfl
  refine ⟨_, fd, B.tx.cls_Space, B.tx.meth_Space_sizes, D.bindsN (fun _ _ _ _ _ _ us hl => match us, hl with | [_], _ => rfl), fnok_of (post := fun _ : Unit => ([.off] : List (En K))) D sc_Space_sizes rfl (by decide) fsE_1 (fun a => [.fr (r_Space K) a]) (fun _ => rfl) (fun a cdv A outer s H E hr => (b_ret (pr_frz (pr_ctyL call_list_of rcl_list B.tx.free_list (by decide +kernel) (pa_oneX (pr_fld (ks := ["kept_sizes", "kept_forms", "kept_steps"]) 0 (pr_name (pv 0) rfl) B.tx.cls_Space B.tx.noat_Space_kept_sizes (fun _ => rfl) (fun _ => rfl) (by decide +kernel))))))) (fun a Q h => ?_)⟩
  exact h
theorem sc_Space_need_field : FnScope ["self", "i"] ["self", "i"] (defScope s_Space_need_field) := ⟨rfl, rfl, rfl, by decide +kernel, rfl, by decide +kernel, by decide +kernel⟩
theorem ok_Space_need_field (B : Bd P w K mg base) : FnM P w K mg base (He.ga K "Space") "need_field" 1 ["self", "i"] (SpF (K := K) (fsC (r_Space K) (fs1 SS.rI)) rN (fun (a : T_Space × Int) => (fun P => (0 ≤ a.2 ∧ a.2 < a.1.1.length) ∧ P () : W Unit))) := by
  obtain ⟨fd, D⟩ := B.says.def_ 20 (d := d_Space_need_field) rfl
  refine ⟨_, fd, B.tx.cls_Space, B.tx.meth_Space_need_field, D.bindsN (fun _ _ _ _ _ _ us hl => match us, hl with | [_, _], _ => rfl), fnok_ofN (post := fun _ : Unit => ([.off, .off] : List (En K))) D sc_Space_need_field rfl (by decide) (fsE_C fsE_1) (fun a => [.fr (r_Space K) a.1, .fr SS.rI a.2]) (fun _ => rfl) (fun a cdv A outer s H E hr => (b_ifr (pt_notX (pt_chainX op_le r2_le op_lt r2_lt pr_int (pr_name (pv 1) rfl) (pr_cb call_len_seq rc_len B.tx.free_len (by decide +kernel) (pa_oneX (pr_fld (ks := ["kept_sizes", "kept_forms", "kept_steps"]) 0 (pr_name (pv 0) rfl) B.tx.cls_Space B.tx.noat_Space_kept_sizes (fun _ => rfl) (fun _ => rfl) (by decide +kernel)))))) b_never (b_nil (t := ()) (.off (.off .nil rfl) rfl)))) (fun a Q h => ?_)⟩
  obtain ⟨⟨h1, h2⟩, h⟩ := h
  dsimp only
  rw [if_pos (decide_eq_true h1)]
  intro _
  rw [decide_eq_true h2]
  exact h
theorem sc_Space_need_form : FnScope ["self", "form", "i"] ["self", "form"] (defScope s_Space_need_form) := ⟨rfl, rfl, rfl, by decide +kernel, rfl, by decide +kernel, by decide +kernel⟩
theorem ok_Space_need_form (B : Bd P w K mg base) : FnM P w K mg base (He.ga K "Space") "need_form" 1 ["self", "form"] (SpF (K := K) (fsC (r_Space K) (fs1 (SS.rU SS.rI))) rN (fun (a : T_Space × (List Int)) => (fun P => (∃ s ∈ SZ, a.1 = spc s ∧ a.2 ∈ forms s) ∧ P () : W Unit))) := by
  obtain ⟨fd, D⟩ := B.says.def_ 19 (d := d_Space_need_form) rfl
  refine ⟨_, fd, B.tx.cls_Space, B.tx.meth_Space_need_form, D.bindsN (fun _ _ _ _ _ _ us hl => match us, hl with | [_, _], _ => rfl), fnok_ofN (post := fun _ : Unit => ([.off, .off, .off] : List (En K))) D sc_Space_need_form rfl (by decide) (fsE_C fsE_1) (fun a => [.fr (r_Space K) a.1, .fr (SS.rU SS.rI) a.2, .off]) (fun _ => rfl) (fun a cdv A outer s H E hr => (b_ifr (pt_cmpX (op_neP hr.units) (r2_ne eqI) (nomark _) (pr_cb call_len_seq rc_lenU B.tx.free_len (by decide +kernel) (pa_oneX (pr_name (pv 1) rfl))) (pr_cb call_len_seq rc_len B.tx.free_len (by decide +kernel) (pa_oneX (pr_fld (ks := ["kept_sizes", "kept_forms", "kept_steps"]) 0 (pr_name (pv 0) rfl) B.tx.cls_Space B.tx.noat_Space_kept_sizes (fun _ => rfl) (fun _ => rfl) (by decide +kernel))))) b_never (b_for (fun s21 : Unit => [.fr (r_Space K) a.1, .fr (SS.rU SS.rI) a.2, .off]) () (pi_rng1X B.tx.free_range (pa_oneX (pr_cb call_len_seq rc_lenU B.tx.free_len (by decide +kernel) (pa_oneX (pr_name (pv 1) rfl))))) (.same (.same (.same .nil))) (fun s21 => (pg_nameX (pg_name (i := 2) sc_Space_need_form.nd rfl (by first | exact Or.inl rfl | exact Or.inr rfl)))) (fun q22 q22x => (b_ifr (pt_notX (pt_chainX op_le r2_le op_lt r2_lt pr_int (pr_ix ix_tup r2_ixU (pr_name (pv 1) rfl) (pr_name (pv 2) rfl)) (pr_ix ix_list r2_ixL (pr_fld (ks := ["kept_sizes", "kept_forms", "kept_steps"]) 0 (pr_name (pv 0) rfl) B.tx.cls_Space B.tx.noat_Space_kept_sizes (fun _ => rfl) (fun _ => rfl) (by decide +kernel)) (pr_name (pv 2) rfl)))) b_never (b_nil (t := ()) (.same (.same (.off .nil rfl)))))) (fun s21 => (b_nil (t := ()) (.off (.off (.same .nil) rfl) rfl)))))) (fun a Q h => ?_)⟩
  obtain ⟨⟨s, hz, e, hf⟩, h⟩ := h
  obtain ⟨a1, a2⟩ := a
  dsimp only at e hf ⊢
  subst e
  have hl := forms_len s hz a2 hf
  have hs := sz_small s hz
  have hi := forms_in s hz a2 hf
  refine fun _ _ => ?_
  rw [show decide ((a2.length : Int) = ((spc s).1.length : Int)) = true from decide_eq_true (by rw [hl]; rfl)]
  refine fun _ => ⟨by omega, ?_⟩
  refine forW_inv (fun _ _ _ => True) trivial (fun pre x suf st C e _ h1 _ _ _ => ?_) (fun _ _ => h)
  obtain ⟨ex, hlt, _⟩ := rng_mem e
  have hlt' : pre.length < s.length := by omega
  obtain ⟨g1, g2⟩ := hi ⟨pre.length, by omega⟩ hlt'
  dsimp only at g1 g2
  have et : x.toNat = pre.length := by omega
  refine ⟨_, atI_of 0 (by omega) (by omega), ?_⟩
  rw [et, if_pos (decide_eq_true g1)]
  refine ⟨_, atI_of 0 (by omega) (by show x < (s.length : Int); omega), ?_⟩
  rw [et, show decide (a2.getD pre.length 0 < (spc s).1.getD pre.length 0) = true from decide_eq_true g2]
  exact h1 () trivial
theorem sc_Space_size : FnScope ["self", "i"] ["self", "i"] (defScope s_Space_size) := ⟨rfl, rfl, rfl, by decide +kernel, rfl, by decide +kernel, by decide +kernel⟩
theorem ok_Space_size (B : Bd P w K mg base) : FnM P w K mg base (He.ga K "Space") "size" 2 ["self", "i"] (SpF (K := K) (fsC (r_Space K) (fs1 SS.rI)) SS.rI (fun (a : T_Space × Int) => (fun P => (0 ≤ a.2 ∧ a.2 < a.1.1.length) ∧ P (a.1.1.getD a.2.toNat 0) : W Int))) := by
  obtain ⟨fd, D⟩ := B.says.def_ 15 (d := d_Space_size) rfl
  refine ⟨_, fd, B.tx.cls_Space, B.tx.meth_Space_size, D.bindsN (fun _ _ _ _ _ _ us hl => match us, hl with | [_, _], _ => rfl), fnok_of (post := fun _ : Unit => ([.off, .off] : List (En K))) D sc_Space_size rfl (by decide) (fsE_C fsE_1) (fun a => [.fr (r_Space K) a.1, .fr SS.rI a.2]) (fun _ => rfl) (fun a cdv A outer s H E hr => (b_expr (pr_meth (ks := ["kept_sizes", "kept_forms", "kept_steps"]) (ok_Space_need_field B) (hr.mono (by decide)) (pr_name (pv 0) rfl) (fun _ => rfl) (by decide +kernel) (pa_oneX (pr_name (pv 1) rfl))) (b_ret (pr_ix ix_list r2_ixL (pr_fld (ks := ["kept_sizes", "kept_forms", "kept_steps"]) 0 (pr_name (pv 0) rfl) B.tx.cls_Space B.tx.noat_Space_kept_sizes (fun _ => rfl) (fun _ => rfl) (by decide +kernel)) (pr_name (pv 1) rfl))))) (fun a Q h => ?_)⟩
  obtain ⟨⟨h1, h2⟩, h⟩ := h
  exact ⟨⟨h1, h2⟩, _, atI_of 0 h1 h2, h⟩
theorem sc_Space_many : FnScope ["self"] ["self"] (defScope s_Space_many) := ⟨rfl, rfl, rfl, by decide +kernel, rfl, by decide +kernel, by decide +kernel⟩
theorem ok_Space_many (B : Bd P w K mg base) : FnM P w K mg base (He.ga K "Space") "many" 1 ["self"] (SpF (K := K) (fs1 (r_Space K)) SS.rI (fun (a : T_Space) => (fun P => P (a.2.1.length : Int) : W Int))) := by
  obtain ⟨fd, D⟩ := B.says.def_ 16 (d := d_Space_many) rfl
  refine ⟨_, fd, B.tx.cls_Space, B.tx.meth_Space_many, D.bindsN (fun _ _ _ _ _ _ us hl => match us, hl with | [_], _ => rfl), fnok_of (post := fun _ : Unit => ([.off] : List (En K))) D sc_Space_many rfl (by decide) fsE_1 (fun a => [.fr (r_Space K) a]) (fun _ => rfl) (fun a cdv A outer s H E hr => (b_ret (pr_cb call_len_seq rc_len B.tx.free_len (by decide +kernel) (pa_oneX (pr_fld (ks := ["kept_sizes", "kept_forms", "kept_steps"]) 1 (pr_name (pv 0) rfl) B.tx.cls_Space B.tx.noat_Space_kept_forms (fun _ => rfl) (fun _ => rfl) (by decide +kernel)))))) (fun a Q h => ?_)⟩
  exact fun _ => h
theorem sc_Space_forms : FnScope ["self"] ["self"] (defScope s_Space_forms) := ⟨rfl, rfl, rfl, by decide +kernel, rfl, by decide +kernel, by decide +kernel⟩
theorem ok_Space_forms (B : Bd P w K mg base) : FnM P w K mg base (He.ga K "Space") "forms" 1 ["self"] (SpF (K := K) (fs1 (r_Space K)) (rL (SS.rU SS.rI)) (fun (a : T_Space) => (fun P => P a.2.1 : W (List (List Int))))) := by
  obtain ⟨fd, D⟩ := B.says.def_ 17 (d := d_Space_forms) rfl
  refine ⟨_, fd, B.tx.cls_Space, B.tx.meth_Space_forms, D.bindsN (fun _ _ _ _ _ _ us hl => match us, hl with | [_], _ => rfl), fnok_of (post := fun _ : Unit => ([.off] : List (En K))) D sc_Space_forms rfl (by decide) fsE_1 (fun a => [.fr (r_Space K) a]) (fun _ => rfl) (fun a cdv A outer s H E hr => (b_ret (pr_frz (pr_ctyL call_list_of rcl_list B.tx.free_list (by decide +kernel) (pa_oneX (pr_fld (ks := ["kept_sizes", "kept_forms", "kept_steps"]) 1 (pr_name (pv 0) rfl) B.tx.cls_Space B.tx.noat_Space_kept_forms (fun _ => rfl) (fun _ => rfl) (by decide +kernel))))))) (fun a Q h => ?_)⟩
  exact h
theorem sc_Space_number_of : FnScope ["self", "form", "number", "i"] ["self", "form"] (defScope s_Space_number_of) := ⟨rfl, rfl, rfl, by decide +kernel, rfl, by decide +kernel, by decide +kernel⟩
theorem ok_Space_number_of (B : Bd P w K mg base) : FnM P w K mg base (He.ga K "Space") "number_of" 2 ["self", "form"] (SpF (K := K) (fsC (r_Space K) (fs1 (SS.rU SS.rI))) SS.rI (fun (a : T_Space × (List Int)) => (fun P => ∃ s ∈ SZ, a.1 = spc s ∧ a.2 ∈ forms s ∧ P (num s a.2) : W Int))) := by
  obtain ⟨fd, D⟩ := B.says.def_ 18 (d := d_Space_number_of) rfl
  refine ⟨_, fd, B.tx.cls_Space, B.tx.meth_Space_number_of, D.bindsN (fun _ _ _ _ _ _ us hl => match us, hl with | [_, _], _ => rfl), fnok_of (post := fun _ : Unit => ([.off, .off, .off, .off] : List (En K))) D sc_Space_number_of rfl (by decide) (fsE_C fsE_1) (fun a => [.fr (r_Space K) a.1, .fr (SS.rU SS.rI) a.2, .off, .off]) (fun _ => rfl) (fun a cdv A outer s H E hr => (b_expr (pr_meth (ks := ["kept_sizes", "kept_forms", "kept_steps"]) (ok_Space_need_form B) (hr.mono (by decide)) (pr_name (pv 0) rfl) (fun _ => rfl) (by decide +kernel) (pa_oneX (pr_name (pv 1) rfl))) (b_asg (i := 2) sc_Space_number_of.nd rfl (by first | exact Or.inl rfl | exact Or.inr rfl) pr_int (fun x23 => (b_for (fun s24 : Int => [.fr (r_Space K) a.1, .fr (SS.rU SS.rI) a.2, .fr SS.rI s24, .off]) x23 (pi_rng1X B.tx.free_range (pa_oneX (pr_cb call_len_seq rc_len B.tx.free_len (by decide +kernel) (pa_oneX (pr_fld (ks := ["kept_sizes", "kept_forms", "kept_steps"]) 0 (pr_name (pv 0) rfl) B.tx.cls_Space B.tx.noat_Space_kept_sizes (fun _ => rfl) (fun _ => rfl) (by decide +kernel)))))) (.same (.same (.same (.same .nil)))) (fun s24 => (pg_nameX (pg_name (i := 3) sc_Space_number_of.nd rfl (by first | exact Or.inl rfl | exact Or.inr rfl)))) (fun q25 q25x => (b_aug (i := 2) sc_Space_number_of.nd rfl (by first | exact Or.inl rfl | exact Or.inr rfl) ip_add rfl (pr_op op_mul r2_mul (pr_ix ix_tup r2_ixU (pr_name (pv 1) rfl) (pr_name (pv 3) rfl)) (pr_ix ix_list r2_ixL (pr_fld (ks := ["kept_sizes", "kept_forms", "kept_steps"]) 2 (pr_name (pv 0) rfl) B.tx.cls_Space B.tx.noat_Space_kept_steps (fun _ => rfl) (fun _ => rfl) (by decide +kernel)) (pr_name (pv 3) rfl))) (fun x26 => (b_nil (t := x26) (.same (.same (.same (.off .nil rfl)))))))) (fun s24 => (b_ret (pr_name (pv 2) rfl)))))))) (fun a Q h => ?_)⟩
  obtain ⟨s, hz, e, hf, h⟩ := h
  obtain ⟨a1, a2⟩ := a
  dsimp only at e hf h ⊢
  subst e
  have hl := forms_len s hz a2 hf
  have hs := sz_small s hz
  have hi := forms_in s hz a2 hf
  refine ⟨⟨s, hz, rfl, hf⟩, fun _ => ⟨by show ((s.length : Int) < _ ∧ _ < (s.length : Int)); omega, ?_⟩⟩
  refine forW_inv (fun pre _ st => st = pre.foldl (fun n i => n + a2.getD i.toNat 0 * (steps s).getD i.toNat 0) 0) rfl (fun pre x suf st C e hi' h1 _ _ _ => ?_) (fun st hst => by subst hst; exact h)
  subst hi'
  obtain ⟨ex, hlt, _⟩ := rng_mem e
  have hlt' : pre.length < s.length := by have : (spc s).1.length = s.length := rfl; omega
  obtain ⟨g1, g2⟩ := hi ⟨pre.length, by omega⟩ hlt'
  dsimp only at g1 g2
  have et : x.toNat = pre.length := by omega
  refine ⟨_, atI_of 0 (by omega) (by omega), _, atI_of 0 (by omega) (by show x < ((steps s).length : Int); rw [steps_len]; omega), ?_, h1 _ ?_⟩
  · rw [et]
    have := sz_in s hz (s.getD pre.length 0) (by rw [List.getD_eq_getElem?_getD, List.getElem?_eq_getElem hlt']; exact List.getElem_mem hlt')
    exact cmulL (by omega) (by omega)
  · rw [List.foldl_append]; rfl
theorem sc_bound_dues : FnScope ["dues", "due"] ["dues"] (defScope s_bound_dues) := ⟨rfl, rfl, rfl, by decide +kernel, rfl, by decide +kernel, by decide +kernel⟩
theorem ok_bound_dues (B : Bd P w K mg base) : FnG P w K mg base "bound_dues" 1 ["dues"] (SpF (K := K) (fs1 (rL SS.rI)) rN (fun (a : (List Int)) => (fun P => (∀ d ∈ a, Big d) ∧ P () : W Unit))) := by
  obtain ⟨fd, D⟩ := B.says.def_ 21 (d := d_bound_dues) rfl
  refine ⟨_, fd, B.tx.glo_bound_dues, D.kp, D.bindsN (fun _ _ _ _ _ _ us hl => match us, hl with | [_], _ => rfl), fnok_ofN (post := fun _ : Unit => ([.off, .off] : List (En K))) D sc_bound_dues rfl (by decide) fsE_1 (fun a => [.fr (rL SS.rI) a, .off]) (fun _ => rfl) (fun a cdv A outer s H E hr => (b_for (fun s27 : Unit => [.fr (rL SS.rI) a, .off]) () (pi_listX (pr_name (pv 0) rfl)) (.same (.same .nil)) (fun s27 => (pg_nameX (pg_name (i := 1) sc_bound_dues.nd rfl (by first | exact Or.inl rfl | exact Or.inr rfl)))) (fun q28 q28x => (b_ifr (pt_notX (pt_chainX op_le r2_le op_le r2_le (pr_un un_neg r1_neg (pr_gint (by rfl) B.tx.int_MOST_DUE)) (pr_name (pv 1) rfl) (pr_gint (by rfl) B.tx.int_MOST_DUE))) b_never (b_nil (t := ()) (.same (.off .nil rfl))))) (fun s27 => (b_nil (t := ()) (.off (.same .nil) rfl))))) (fun a Q h => ?_)⟩
  obtain ⟨hb, h⟩ := h
  refine forW_all (fun x hx C c => ?_) h
  dsimp only
  rw [if_pos (dT (hb x hx).1), dT (hb x hx).2]
  exact c
theorem sc_Book___init__ : FnScope ["self", "space", "dues"] ["self", "space", "dues"] (defScope s_Book___init__) := ⟨rfl, rfl, rfl, by decide +kernel, rfl, by decide +kernel, by decide +kernel⟩
theorem ok_Book___init__ (B : Bd P w K mg base) : FnC P w K mg base "Book" (He.ga K "Book") 2 ["self", "space", "dues"] (SpI (K := K) (He.ga K "Book") (fsC (r_Space K) (fs1 (rL SS.rI))) (r_Book K) (fun (a : T_Space × (List Int)) => (fun P => (∀ d ∈ a.2, Big d) ∧ a.2.length = a.1.2.1.length ∧ P (a.1, a.2) : W T_Book))) := by
  obtain ⟨fd, D⟩ := B.says.def_ 22 (d := d_Book___init__) rfl
  refine ⟨_, fd, B.tx.glo_Book, B.tx.mkr_Book, D.bindsN (fun _ _ _ _ _ _ us hl => match us, hl with | [_, _, _], _ => rfl), fnok_ofI (C := He.ga K "Book") (FI := F_Book K) D sc_Book___init__ rfl (by decide) (fsE_C fsE_1) (fun i a => [.obj i (He.ga K "Book") [], .fr (r_Space K) a.1, .fr (rL SS.rI) a.2]) (fun _ _ => rfl) (fun i b => [.obj i (He.ga K "Book") (F_Book K b), .off, .off]) (fun _ _ => rfl) (fun i a cdv A outer s H E hr => (b_expr (pr_call (ok_bound_dues B) (hr.mono (by decide)) (pa_oneX (pr_name (pv 2) rfl))) (b_ifr (pt_cmpX (op_neP hr.units) (r2_ne eqI) (nomark _) (pr_cb call_len_seq rc_len B.tx.free_len (by decide +kernel) (pa_oneX (pr_name (pv 2) rfl))) (pr_meth0 (ks := ["kept_sizes", "kept_forms", "kept_steps"]) (ok_Space_many B) (hr.mono (by decide)) (pr_name (pv 1) rfl) (fun _ => rfl) (by decide +kernel))) b_never (b_fld (ks := []) (pv 0) rfl B.tx.cls_Book B.tx.noat_Book_kept_space (pr_name (pv 1) rfl) rfl (by decide +kernel) (fun x29 => (b_fld (ks := ["kept_space"]) (pv 0) rfl B.tx.cls_Book B.tx.noat_Book_kept_dues (pr_frz (pr_ctyL call_list_of rcl_list B.tx.free_list (by decide +kernel) (pa_oneX (pr_name (pv 2) rfl)))) rfl (by decide +kernel) (fun x30 => (b_nil (t := (x29, x30)) (.same (.off (.off .nil rfl) rfl)))))))))) (fun i a Q h => ?_)⟩
  obtain ⟨h1, h2, h⟩ := h
  refine ⟨h1, fun _ => ?_⟩
  dsimp only
  rw [dT (show (a.2.length : Int) = (a.1.2.1.length : Int) by rw [h2])]
  exact h
theorem sc_Book_space : FnScope ["self"] ["self"] (defScope s_Book_space) := ⟨rfl, rfl, rfl, by decide +kernel, rfl, by decide +kernel, by decide +kernel⟩
theorem ok_Book_space (B : Bd P w K mg base) : FnM P w K mg base (He.ga K "Book") "space" 1 ["self"] (SpF (K := K) (fs1 (r_Book K)) (r_Space K) (fun (a : T_Book) => (fun P => P a.1 : W T_Space))) := by
  obtain ⟨fd, D⟩ := B.says.def_ 24 (d := d_Book_space) rfl
  refine ⟨_, fd, B.tx.cls_Book, B.tx.meth_Book_space, D.bindsN (fun _ _ _ _ _ _ us hl => match us, hl with | [_], _ => rfl), fnok_of (post := fun _ : Unit => ([.off] : List (En K))) D sc_Book_space rfl (by decide) fsE_1 (fun a => [.fr (r_Book K) a]) (fun _ => rfl) (fun a cdv A outer s H E hr => (b_ret (pr_fld (ks := ["kept_space", "kept_dues"]) 0 (pr_name (pv 0) rfl) B.tx.cls_Book B.tx.noat_Book_kept_space (fun _ => rfl) (fun _ => rfl) (by decide +kernel)))) (fun a Q h => ?_)⟩
  exact h
theorem sc_Book_dues : FnScope ["self"] ["self"] (defScope s_Book_dues) := ⟨rfl, rfl, rfl, by decide +kernel, rfl, by decide +kernel, by decide +kernel⟩
theorem ok_Book_dues (B : Bd P w K mg base) : FnM P w K mg base (He.ga K "Book") "dues" 1 ["self"] (SpF (K := K) (fs1 (r_Book K)) (rL SS.rI) (fun (a : T_Book) => (fun P => P a.2 : W (List Int)))) := by
  obtain ⟨fd, D⟩ := B.says.def_ 25 (d := d_Book_dues) rfl
  refine ⟨_, fd, B.tx.cls_Book, B.tx.meth_Book_dues, D.bindsN (fun _ _ _ _ _ _ us hl => match us, hl with | [_], _ => rfl), fnok_of (post := fun _ : Unit => ([.off] : List (En K))) D sc_Book_dues rfl (by decide) fsE_1 (fun a => [.fr (r_Book K) a]) (fun _ => rfl) (fun a cdv A outer s H E hr => (b_ret (pr_frz (pr_ctyL call_list_of rcl_list B.tx.free_list (by decide +kernel) (pa_oneX (pr_fld (ks := ["kept_space", "kept_dues"]) 1 (pr_name (pv 0) rfl) B.tx.cls_Book B.tx.noat_Book_kept_dues (fun _ => rfl) (fun _ => rfl) (by decide +kernel))))))) (fun a Q h => ?_)⟩
  exact h
theorem sc_Book_due : FnScope ["self", "form"] ["self", "form"] (defScope s_Book_due) := ⟨rfl, rfl, rfl, by decide +kernel, rfl, by decide +kernel, by decide +kernel⟩
theorem ok_Book_due (B : Bd P w K mg base) : FnM P w K mg base (He.ga K "Book") "due" 3 ["self", "form"] (SpF (K := K) (fsC (r_Book K) (fs1 (SS.rU SS.rI))) SS.rI (fun (a : T_Book × (List Int)) => (fun P => ∃ s ∈ SZ, a.1.1 = spc s ∧ a.2 ∈ forms s ∧ a.1.2.length = (forms s).length ∧ P (a.1.2.getD (num s a.2).toNat 0) : W Int))) := by
  obtain ⟨fd, D⟩ := B.says.def_ 26 (d := d_Book_due) rfl
  refine ⟨_, fd, B.tx.cls_Book, B.tx.meth_Book_due, D.bindsN (fun _ _ _ _ _ _ us hl => match us, hl with | [_, _], _ => rfl), fnok_of (post := fun _ : Unit => ([.off, .off] : List (En K))) D sc_Book_due rfl (by decide) (fsE_C fsE_1) (fun a => [.fr (r_Book K) a.1, .fr (SS.rU SS.rI) a.2]) (fun _ => rfl) (fun a cdv A outer s H E hr => (b_ret (pr_ix ix_list r2_ixL (pr_fld (ks := ["kept_space", "kept_dues"]) 1 (pr_name (pv 0) rfl) B.tx.cls_Book B.tx.noat_Book_kept_dues (fun _ => rfl) (fun _ => rfl) (by decide +kernel)) (pr_meth (ks := ["kept_sizes", "kept_forms", "kept_steps"]) (ok_Space_number_of B) (hr.mono (by decide)) (pr_fld (ks := ["kept_space", "kept_dues"]) 0 (pr_name (pv 0) rfl) B.tx.cls_Book B.tx.noat_Book_kept_space (fun _ => rfl) (fun _ => rfl) (by decide +kernel)) (fun _ => rfl) (by decide +kernel) (pa_oneX (pr_name (pv 1) rfl)))))) (fun a Q h => ?_)⟩
  obtain ⟨s, hz, e, hf, hl, h⟩ := h
  obtain ⟨n1, n2⟩ := num_at s hz _ hf
  have hlt : (num s a.2).toNat < (forms s).length := (List.getElem?_eq_some_iff.mp n2).1
  have n3 : 0 ≤ num s a.2 := n1
  exact ⟨s, hz, e, hf, _, atI_of 0 n3 (show num s a.2 < (a.1.2.length : Int) by rw [hl]; omega), h⟩
theorem sc_bound_days : FnScope ["days", "day"] ["days"] (defScope s_bound_days) := ⟨rfl, rfl, rfl, by decide +kernel, rfl, by decide +kernel, by decide +kernel⟩
theorem ok_bound_days (B : Bd P w K mg base) : FnG P w K mg base "bound_days" 1 ["days"] (SpF (K := K) (fs1 (rL (rO SS.rI))) rN (fun (a : (List (Option Int))) => (fun P => (∀ d ∈ a, ∀ x, d = some x → DayOk x) ∧ P () : W Unit))) := by
  obtain ⟨fd, D⟩ := B.says.def_ 27 (d := d_bound_days) rfl
  refine ⟨_, fd, B.tx.glo_bound_days, D.kp, D.bindsN (fun _ _ _ _ _ _ us hl => match us, hl with | [_], _ => rfl), fnok_ofN (post := fun _ : Unit => ([.off, .off] : List (En K))) D sc_bound_days rfl (by decide) fsE_1 (fun a => [.fr (rL (rO SS.rI)) a, .off]) (fun _ => rfl) (fun a cdv A outer s H E hr => (b_for (fun s31 : Unit => [.fr (rL (rO SS.rI)) a, .off]) () (pi_listX (pr_name (pv 0) rfl)) (.same (.same .nil)) (fun s31 => (pg_nameX (pg_name (i := 1) sc_bound_days.nd rfl (by first | exact Or.inl rfl | exact Or.inr rfl)))) (fun q32 q32x => (b_ifr (PW.pt (pw_andX (pt_cmpX op_notN (r2_notN nn_I) (nomark _) (pr_name (pv 1) rfl) pr_nonU) (pw_and1X (pt_notX (pt_chainX op_le r2_le op_le r2_le (pr_un un_neg r1_neg (pr_gint (by rfl) B.tx.int_MOST_DAY)) (pr_get (pr_name (pv 1) rfl)) (pr_gint (by rfl) B.tx.int_MOST_DAY)))))) b_never (b_nil (t := ()) (.same (.off .nil rfl))))) (fun s31 => (b_nil (t := ()) (.off (.same .nil) rfl))))) (fun a Q h => ?_)⟩
  obtain ⟨hb, h⟩ := h
  refine forW_all (fun x hx C c => ?_) h
  cases x with
  | none => exact c
  | some x =>
    obtain ⟨g1, g2⟩ := hb _ hx x rfl
    refine ⟨x, rfl, ?_⟩
    dsimp only
    rw [if_pos (dT g1), dT g2]
    exact c
theorem sc_bound_rules : FnScope ["dues", "many", "rules", "name", "needs", "due", "rank", "first", "last", "unless"] ["dues", "many", "rules"] (defScope s_bound_rules) := ⟨rfl, rfl, rfl, by decide +kernel, rfl, by decide +kernel, by decide +kernel⟩
theorem ok_bound_rules (B : Bd P w K mg base) : FnG P w K mg base "bound_rules" 2 ["dues", "many", "rules"] (SpF (K := K) (fsC (rL SS.rI) (fsC SS.rI (fs1 (rL (rT (fsC rS (fsC (rL (rT (fsC SS.rI (fs1 (rL SS.rI))))) (fsC SS.rI (fsC SS.rI (fsC (rO SS.rI) (fsC (rO SS.rI) (fs1 (rL (rL (rT (fsC SS.rI (fs1 (rL SS.rI)))))))))))))))))) rN (fun (a : (List Int) × Int × (List (Str × (List (Int × (List Int))) × Int × Int × (Option Int) × (Option Int) × (List (List (Int × (List Int))))))) => (fun P => (∀ d ∈ a.1, Big d) ∧ a.2.1 ≤ 60 ∧ (∃ s, ∀ r ∈ a.2.2, RuleOk s r) ∧ P () : W Unit))) := by
  obtain ⟨fd, D⟩ := B.says.def_ 28 (d := d_bound_rules) rfl
  refine ⟨_, fd, B.tx.glo_bound_rules, D.kp, D.bindsN (fun _ _ _ _ _ _ us hl => match us, hl with | [_, _, _], _ => rfl), fnok_ofN (post := fun _ : Unit => ([.off, .off, .off, .off, .off, .off, .off, .off, .off, .off] : List (En K))) D sc_bound_rules rfl (by decide) (fsE_C (fsE_C fsE_1)) (fun a => [.fr (rL SS.rI) a.1, .fr SS.rI a.2.1, .fr (rL (rT (fsC rS (fsC (rL (rT (fsC SS.rI (fs1 (rL SS.rI))))) (fsC SS.rI (fsC SS.rI (fsC (rO SS.rI) (fsC (rO SS.rI) (fs1 (rL (rL (rT (fsC SS.rI (fs1 (rL SS.rI))))))))))))))) a.2.2, .off, .off, .off, .off, .off, .off, .off]) (fun _ => rfl) (fun a cdv A outer s H E hr => (b_expr (pr_call (ok_bound_dues B) (hr.mono (by decide)) (pa_oneX (pr_name (pv 0) rfl))) (b_for (fun s33 : Unit => [.fr (rL SS.rI) a.1, .fr SS.rI a.2.1, .fr (rL (rT (fsC rS (fsC (rL (rT (fsC SS.rI (fs1 (rL SS.rI))))) (fsC SS.rI (fsC SS.rI (fsC (rO SS.rI) (fsC (rO SS.rI) (fs1 (rL (rL (rT (fsC SS.rI (fs1 (rL SS.rI))))))))))))))) a.2.2, .off, .off, .off, .off, .off, .off, .off]) () (pi_listX (pr_name (pv 2) rfl)) (.same (.same (.same (.same (.same (.same (.same (.same (.same (.same .nil)))))))))) (fun s33 => (pg_tupX (pgs_consX (pg_name (i := 3) sc_bound_rules.nd rfl (by first | exact Or.inl rfl | exact Or.inr rfl)) (fun _ => (pgs_consX (pg_name (i := 4) sc_bound_rules.nd rfl (by first | exact Or.inl rfl | exact Or.inr rfl)) (fun _ => (pgs_consX (pg_name (i := 5) sc_bound_rules.nd rfl (by first | exact Or.inl rfl | exact Or.inr rfl)) (fun _ => (pgs_consX (pg_name (i := 6) sc_bound_rules.nd rfl (by first | exact Or.inl rfl | exact Or.inr rfl)) (fun _ => (pgs_consX (pg_name (i := 7) sc_bound_rules.nd rfl (by first | exact Or.inl rfl | exact Or.inr rfl)) (fun _ => (pgs_consX (pg_name (i := 8) sc_bound_rules.nd rfl (by first | exact Or.inl rfl | exact Or.inr rfl)) (fun _ => (pgs_oneX (pg_name (i := 9) sc_bound_rules.nd rfl (by first | exact Or.inl rfl | exact Or.inr rfl))))))))))))))))) (fun q34 q34x => (b_expr (pr_call (ok_bound_dues B) (hr.mono (by decide)) (pa_oneX (pr_frz (pr_lst (R := SS.rI) (pa_consR (pr_name (pv 5) rfl) (pa_consR (pr_name (pv 6) rfl) pa_nilR)))))) (b_nil (t := ()) (.same (.same (.same (.off (.off (.off (.off (.off (.off (.off .nil rfl) rfl) rfl) rfl) rfl) rfl) rfl))))))) (fun s33 => (b_ifr (pt_cmpX op_gt r2_gt (nomark _) (pr_name (pv 1) rfl) (pr_gint (by rfl) B.tx.int_MOST_RULES)) b_never (b_for (fun s35 : Unit => [.fr (rL SS.rI) a.1, .fr SS.rI a.2.1, .fr (rL (rT (fsC rS (fsC (rL (rT (fsC SS.rI (fs1 (rL SS.rI))))) (fsC SS.rI (fsC SS.rI (fsC (rO SS.rI) (fsC (rO SS.rI) (fs1 (rL (rL (rT (fsC SS.rI (fs1 (rL SS.rI))))))))))))))) a.2.2, .off, .off, .off, .off, .off, .off, .off]) () (pi_listX (pr_name (pv 2) rfl)) (.same (.same (.same (.same (.same (.same (.same (.same (.same (.same .nil)))))))))) (fun s35 => (pg_tupX (pgs_consX (pg_name (i := 3) sc_bound_rules.nd rfl (by first | exact Or.inl rfl | exact Or.inr rfl)) (fun _ => (pgs_consX (pg_name (i := 4) sc_bound_rules.nd rfl (by first | exact Or.inl rfl | exact Or.inr rfl)) (fun _ => (pgs_consX (pg_name (i := 5) sc_bound_rules.nd rfl (by first | exact Or.inl rfl | exact Or.inr rfl)) (fun _ => (pgs_consX (pg_name (i := 6) sc_bound_rules.nd rfl (by first | exact Or.inl rfl | exact Or.inr rfl)) (fun _ => (pgs_consX (pg_name (i := 7) sc_bound_rules.nd rfl (by first | exact Or.inl rfl | exact Or.inr rfl)) (fun _ => (pgs_consX (pg_name (i := 8) sc_bound_rules.nd rfl (by first | exact Or.inl rfl | exact Or.inr rfl)) (fun _ => (pgs_oneX (pg_name (i := 9) sc_bound_rules.nd rfl (by first | exact Or.inl rfl | exact Or.inr rfl))))))))))))))))) (fun q36 q36x => (b_ifr (pt_cmpX op_gt r2_gt (nomark _) (pr_cb call_len_seq rc_len B.tx.free_len (by decide +kernel) (pa_oneX (pr_name (pv 9) rfl))) (pr_gint (by rfl) B.tx.int_MOST_RULES)) b_never (b_nil (t := ()) (.same (.same (.same (.off (.off (.off (.off (.off (.off (.off .nil rfl) rfl) rfl) rfl) rfl) rfl) rfl))))))) (fun s35 => (b_for (fun s37 : Unit => [.fr (rL SS.rI) a.1, .fr SS.rI a.2.1, .fr (rL (rT (fsC rS (fsC (rL (rT (fsC SS.rI (fs1 (rL SS.rI))))) (fsC SS.rI (fsC SS.rI (fsC (rO SS.rI) (fsC (rO SS.rI) (fs1 (rL (rL (rT (fsC SS.rI (fs1 (rL SS.rI))))))))))))))) a.2.2, .off, .off, .off, .off, .off, .off, .off]) () (pi_listX (pr_name (pv 2) rfl)) (.same (.same (.same (.same (.same (.same (.same (.same (.same (.same .nil)))))))))) (fun s37 => (pg_tupX (pgs_consX (pg_name (i := 3) sc_bound_rules.nd rfl (by first | exact Or.inl rfl | exact Or.inr rfl)) (fun _ => (pgs_consX (pg_name (i := 4) sc_bound_rules.nd rfl (by first | exact Or.inl rfl | exact Or.inr rfl)) (fun _ => (pgs_consX (pg_name (i := 5) sc_bound_rules.nd rfl (by first | exact Or.inl rfl | exact Or.inr rfl)) (fun _ => (pgs_consX (pg_name (i := 6) sc_bound_rules.nd rfl (by first | exact Or.inl rfl | exact Or.inr rfl)) (fun _ => (pgs_consX (pg_name (i := 7) sc_bound_rules.nd rfl (by first | exact Or.inl rfl | exact Or.inr rfl)) (fun _ => (pgs_consX (pg_name (i := 8) sc_bound_rules.nd rfl (by first | exact Or.inl rfl | exact Or.inr rfl)) (fun _ => (pgs_oneX (pg_name (i := 9) sc_bound_rules.nd rfl (by first | exact Or.inl rfl | exact Or.inr rfl))))))))))))))))) (fun q38 q38x => (b_expr (pr_call (ok_bound_days B) (hr.mono (by decide)) (pa_oneX (pr_frz (pr_lst (R := (rO SS.rI)) (pa_consR (pr_name (pv 7) rfl) (pa_consR (pr_name (pv 8) rfl) pa_nilR)))))) (b_nil (t := ()) (.same (.same (.same (.off (.off (.off (.off (.off (.off (.off .nil rfl) rfl) rfl) rfl) rfl) rfl) rfl))))))) (fun s37 => (b_nil (t := ()) (.off (.off (.off (.same (.same (.same (.same (.same (.same (.same .nil))))))) rfl) rfl) rfl))))))))))) (fun a Q h => ?_)⟩
  obtain ⟨h1, h2, ⟨s, h3⟩, h⟩ := h
  refine ⟨h1, forW_all (fun r hr C c => ⟨fun d hd => ?_, c⟩) ?_⟩
  · rcases List.mem_cons.mp hd with e | hd
    · rw [e]; exact (h3 r hr).due
    · rw [List.mem_singleton.mp hd]; exact (h3 r hr).rank
  dsimp only
  rw [dF (show ¬ 60 < a.2.1 by omega)]
  refine forW_all (fun r hr C c _ => ?_) (forW_all (fun r hr C c => ⟨fun d hd x ex => ?_, c⟩) h)
  · have := (h3 r hr).few
    rw [dF (show ¬ 60 < (r.2.2.2.2.2.2.length : Int) by omega)]
    exact c
  · rcases List.mem_cons.mp hd with e | hd
    · have := (h3 r hr).first x (by rw [← e]; exact ex)
      exact ⟨by omega, by omega⟩
    · have := (h3 r hr).last x (by rw [← List.mem_singleton.mp hd]; exact ex)
      exact ⟨by omega, by omega⟩
theorem sc_copied_needs : FnScope ["needs", "i", "values"] ["needs"] (defScope s_copied_needs) := ⟨rfl, rfl, rfl, by decide +kernel, rfl, by decide +kernel, by decide +kernel⟩
theorem ok_copied_needs (B : Bd P w K mg base) : FnG P w K mg base "copied_needs" 1 ["needs"] (SpF (K := K) (fs1 (rL (rT (fsC SS.rI (fs1 (rL SS.rI)))))) (rL (rT (fsC SS.rI (fs1 (rL SS.rI))))) (fun (a : (List (Int × (List Int)))) => (fun P => P a : W (List (Int × (List Int)))))) := by
  obtain ⟨fd, D⟩ := B.says.def_ 29 (d := d_copied_needs) rfl
  refine ⟨_, fd, B.tx.glo_copied_needs, D.kp, D.bindsN (fun _ _ _ _ _ _ us hl => match us, hl with | [_], _ => rfl), fnok_of (post := fun _ : Unit => ([.off, .off, .off] : List (En K))) D sc_copied_needs rfl (by decide) fsE_1 (fun a => [.fr (rL (rT (fsC SS.rI (fs1 (rL SS.rI))))) a, .off, .off]) (fun _ => rfl) (fun a cdv A outer s H E hr => (b_ret (pr_frz (pr_lc (own := [("i", 1), ("values", 2)]) sc_copied_needs.nd (blkOk_by (own := [("i", 1), ("values", 2)]) (N := ["needs", "i", "values"]) (sc := defScope s_copied_needs) (by decide +kernel)) (pi_listX (pr_name (pv 0) rfl)) (fun _ _ _ _ _ => (pg_tupX (pgs_consX (pg_name (i := 1) sc_copied_needs.nd rfl (by first | exact Or.inl rfl | exact Or.inr rfl)) (fun _ => (pgs_oneX (pg_name (i := 2) sc_copied_needs.nd rfl (by first | exact Or.inl rfl | exact Or.inr rfl))))))) (fun x39 _ _ _ _ _ => pts_nilX) (fun x39 _ _ _ _ _ => (pr_tup (pa_consX (pr_name (pv 1) rfl) (pa_oneX (pr_frz (pr_ctyL call_list_of rcl_list B.tx.free_list (by decide +kernel) (pa_oneX (pr_name (pv 2) rfl)))))))))))) (fun a Q h => ?_)⟩
  refine lcW_map1 (fun p => p) _ (fun p _ C c => c) ?_
  show Q _
  rw [List.map_id']
  exact h
theorem sc_copied_rule : FnScope ["rule", "name", "needs", "due", "rank", "first", "last", "unless", "one"] ["rule"] (defScope s_copied_rule) := ⟨rfl, rfl, rfl, by decide +kernel, rfl, by decide +kernel, by decide +kernel⟩
theorem ok_copied_rule (B : Bd P w K mg base) : FnG P w K mg base "copied_rule" 2 ["rule"] (SpF (K := K) (fs1 (rT (fsC rS (fsC (rL (rT (fsC SS.rI (fs1 (rL SS.rI))))) (fsC SS.rI (fsC SS.rI (fsC (rO SS.rI) (fsC (rO SS.rI) (fs1 (rL (rL (rT (fsC SS.rI (fs1 (rL SS.rI))))))))))))))) (rT (fsC rS (fsC (rL (rT (fsC SS.rI (fs1 (rL SS.rI))))) (fsC SS.rI (fsC SS.rI (fsC (rO SS.rI) (fsC (rO SS.rI) (fs1 (rL (rL (rT (fsC SS.rI (fs1 (rL SS.rI)))))))))))))) (fun (a : (Str × (List (Int × (List Int))) × Int × Int × (Option Int) × (Option Int) × (List (List (Int × (List Int)))))) => (fun P => P a : W (Str × (List (Int × (List Int))) × Int × Int × (Option Int) × (Option Int) × (List (List (Int × (List Int)))))))) := by
  obtain ⟨fd, D⟩ := B.says.def_ 30 (d := d_copied_rule) rfl
  refine ⟨_, fd, B.tx.glo_copied_rule, D.kp, D.bindsN (fun _ _ _ _ _ _ us hl => match us, hl with | [_], _ => rfl), fnok_of (post := fun _ : Unit => ([.off, .off, .off, .off, .off, .off, .off, .off, .off] : List (En K))) D sc_copied_rule rfl (by decide) fsE_1 (fun a => [.fr (rT (fsC rS (fsC (rL (rT (fsC SS.rI (fs1 (rL SS.rI))))) (fsC SS.rI (fsC SS.rI (fsC (rO SS.rI) (fsC (rO SS.rI) (fs1 (rL (rL (rT (fsC SS.rI (fs1 (rL SS.rI)))))))))))))) a, .off, .off, .off, .off, .off, .off, .off, .off]) (fun _ => rfl) (fun a cdv A outer s H E hr => (b_asgT (pr_name (pv 0) rfl) (pg_tupX (pgs_consX (pg_name (i := 1) sc_copied_rule.nd rfl (by first | exact Or.inl rfl | exact Or.inr rfl)) (fun _ => (pgs_consX (pg_name (i := 2) sc_copied_rule.nd rfl (by first | exact Or.inl rfl | exact Or.inr rfl)) (fun _ => (pgs_consX (pg_name (i := 3) sc_copied_rule.nd rfl (by first | exact Or.inl rfl | exact Or.inr rfl)) (fun _ => (pgs_consX (pg_name (i := 4) sc_copied_rule.nd rfl (by first | exact Or.inl rfl | exact Or.inr rfl)) (fun _ => (pgs_consX (pg_name (i := 5) sc_copied_rule.nd rfl (by first | exact Or.inl rfl | exact Or.inr rfl)) (fun _ => (pgs_consX (pg_name (i := 6) sc_copied_rule.nd rfl (by first | exact Or.inl rfl | exact Or.inr rfl)) (fun _ => (pgs_oneX (pg_name (i := 7) sc_copied_rule.nd rfl (by first | exact Or.inl rfl | exact Or.inr rfl)))))))))))))))) (fun x40 => (b_ret (pr_tup (pa_consX (pr_name (pv 1) rfl) (pa_consX (pr_call (ok_copied_needs B) (hr.mono (by decide)) (pa_oneX (pr_name (pv 2) rfl))) (pa_consX (pr_name (pv 3) rfl) (pa_consX (pr_name (pv 4) rfl) (pa_consX (pr_name (pv 5) rfl) (pa_consX (pr_name (pv 6) rfl) (pa_oneX (pr_frz (pr_lc (own := [("one", 8)]) sc_copied_rule.nd (blkOk_by (own := [("one", 8)]) (N := ["rule", "name", "needs", "due", "rank", "first", "last", "unless", "one"]) (sc := defScope s_copied_rule) (by decide +kernel)) (pi_listX (pr_name (pv 7) rfl)) (fun _ _ _ _ _ => (pg_nameX (pg_name (i := 8) sc_copied_rule.nd rfl (by first | exact Or.inl rfl | exact Or.inr rfl)))) (fun x41 _ _ _ _ _ => pts_nilX) (fun x41 _ _ _ _ _ => (pr_call (ok_copied_needs B) (hr.mono (by decide)) (pa_oneX (pr_name (pv 8) rfl)))))))))))))))))) (fun a Q h => ?_)⟩
  refine lcW_map1 (fun p => p) _ (fun p _ C c => c) ?_
  show Q _
  rw [List.map_id']
  exact h
theorem sc_wrong_needs : FnScope ["space", "needs", "above", "i", "values", "under", "value"] ["space", "needs"] (defScope s_wrong_needs) := ⟨rfl, rfl, rfl, by decide +kernel, rfl, by decide +kernel, by decide +kernel⟩
theorem ok_wrong_needs (B : Bd P w K mg base) : FnG P w K mg base "wrong_needs" 3 ["space", "needs"] (SpF (K := K) (fsC (r_Space K) (fs1 (rL (rT (fsC SS.rI (fs1 (rL SS.rI))))))) rB (fun (a : T_Space × (List (Int × (List Int)))) => (fun P => (∃ s ∈ SZ, a.1 = spc s ∧ okN s (-1) a.2 = true) ∧ P false : W Bool))) := by
  obtain ⟨fd, D⟩ := B.says.def_ 31 (d := d_wrong_needs) rfl
  refine ⟨_, fd, B.tx.glo_wrong_needs, D.kp, D.bindsN (fun _ _ _ _ _ _ us hl => match us, hl with | [_, _], _ => rfl), fnok_of (post := fun _ : Unit => ([.off, .off, .off, .off, .off, .off, .off] : List (En K))) D sc_wrong_needs rfl (by decide) (fsE_C fsE_1) (fun a => [.fr (r_Space K) a.1, .fr (rL (rT (fsC SS.rI (fs1 (rL SS.rI))))) a.2, .off, .off, .off, .off, .off]) (fun _ => rfl) (fun a cdv A outer s H E hr => (b_asg (i := 2) sc_wrong_needs.nd rfl (by first | exact Or.inl rfl | exact Or.inr rfl) (pr_un un_neg r1_neg pr_int) (fun x42 => (b_for (fun s43 : Int => [.fr (r_Space K) a.1, .fr (rL (rT (fsC SS.rI (fs1 (rL SS.rI))))) a.2, .fr SS.rI s43, .off, .off, .off, .off]) x42 (pi_listX (pr_name (pv 1) rfl)) (.same (.same (.same (.same (.same (.same (.same .nil))))))) (fun s43 => (pg_tupX (pgs_consX (pg_name (i := 3) sc_wrong_needs.nd rfl (by first | exact Or.inl rfl | exact Or.inr rfl)) (fun _ => (pgs_oneX (pg_name (i := 4) sc_wrong_needs.nd rfl (by first | exact Or.inl rfl | exact Or.inr rfl))))))) (fun q44 q44x => (b_ifr (PW.pt (pw_orX (pt_notX (pt_chainX op_lt r2_lt op_lt r2_lt (pr_name (pv 2) rfl) (pr_name (pv 3) rfl) (pr_meth0 (ks := ["kept_sizes", "kept_forms", "kept_steps"]) (ok_Space_width B) (hr.mono (by decide)) (pr_name (pv 0) rfl) (fun _ => rfl) (by decide +kernel)))) (pw_or1X (pt_cmpX (op_eqP hr.units) (r2_eq eqI) (nomark _) (pr_cb call_len_seq rc_len B.tx.free_len (by decide +kernel) (pa_oneX (pr_name (pv 4) rfl))) pr_int)))) (b_ret pr_bl) (b_asg (i := 5) sc_wrong_needs.nd rfl (by first | exact Or.inl rfl | exact Or.inr rfl) (pr_un un_neg r1_neg pr_int) (fun x45 => (b_for (fun s46 : Int => [.fr (r_Space K) a.1, .fr (rL (rT (fsC SS.rI (fs1 (rL SS.rI))))) a.2, .fr SS.rI q44, .fr SS.rI q44x.1, .fr (rL SS.rI) q44x.2, .fr SS.rI s46, .off]) x45 (pi_listX (pr_name (pv 4) rfl)) (.same (.same (.same (.same (.same (.same (.same .nil))))))) (fun s46 => (pg_nameX (pg_name (i := 6) sc_wrong_needs.nd rfl (by first | exact Or.inl rfl | exact Or.inr rfl)))) (fun q47 q47x => (b_ifr (pt_notX (pt_chainX op_lt r2_lt op_lt r2_lt (pr_name (pv 5) rfl) (pr_name (pv 6) rfl) (pr_meth (ks := ["kept_sizes", "kept_forms", "kept_steps"]) (ok_Space_size B) (hr.mono (by decide)) (pr_name (pv 0) rfl) (fun _ => rfl) (by decide +kernel) (pa_oneX (pr_name (pv 3) rfl))))) (b_ret pr_bl) (b_asg (i := 5) sc_wrong_needs.nd rfl (by first | exact Or.inl rfl | exact Or.inr rfl) (pr_name (pv 6) rfl) (fun x48 => (b_nil (t := x48) (.same (.same (.same (.same (.same (.same (.off .nil rfl)))))))))))) (fun s46 => (b_asg (i := 2) sc_wrong_needs.nd rfl (by first | exact Or.inl rfl | exact Or.inr rfl) (pr_name (pv 3) rfl) (fun x49 => (b_nil (t := x49) (.same (.same (.same (.off (.off (.off (.same .nil) rfl) rfl) rfl))))))))))))) (fun s43 => (b_ret pr_bl)))))) (fun a Q h => ?_)⟩
  obtain ⟨⟨s, hz, e, hk⟩, h⟩ := h
  obtain ⟨a1, a2⟩ := a
  dsimp only at e hk ⊢
  subst e
  refine forW_inv (fun _ suf st => okN s st suf = true ∧ -1 ≤ st) ⟨hk, by omega⟩ (fun pre x suf st C e hi h1 _ _ _ => ?_) (fun st _ => h)
  obtain ⟨i, vs⟩ := x
  obtain ⟨hi, hm⟩ := hi
  simp only [okN, Bool.and_eq_true, decide_eq_true_eq] at hi
  obtain ⟨⟨⟨⟨g1, g2⟩, g3⟩, g4⟩, g5⟩ := hi
  have hi0 : 0 ≤ i := by omega
  rw [if_pos (dT g1), dT (show i < ((spc s).1.length : Int) from g2)]
  refine fun _ => ?_
  have hv : vs ≠ [] := fun z => by rw [z] at g3; cases g3
  have hv' : ¬ (vs.length : Int) = 0 := fun z => hv (List.length_eq_zero_iff.mp (by omega))
  rw [dF hv']
  refine forW_inv (fun _ suf st => okV (s.getD i.toNat 0) st suf = true) g4 (fun pre x suf st C e hi h1 _ _ _ => ?_) (fun st _ => h1 _ ⟨g5, by omega⟩)
  simp only [okV, Bool.and_eq_true, decide_eq_true_eq] at hi
  obtain ⟨⟨k1, k2⟩, k3⟩ := hi
  rw [if_pos (dT k1)]
  refine ⟨⟨hi0, g2⟩, ?_⟩
  rw [dT (show x < (spc s).1.getD i.toNat 0 from k2)]
  exact h1 _ k3
theorem sc_is_name : FnScope ["thing", "sign"] ["thing"] (defScope s_is_name) := ⟨rfl, rfl, rfl, by decide +kernel, rfl, by decide +kernel, by decide +kernel⟩
theorem ok_is_name (B : Bd P w K mg base) : FnG P w K mg base "is_name" 1 ["thing"] (SpF (K := K) (fs1 rS) rB (fun (a : Str) => (fun P => NameOk a ∧ P true : W Bool))) := by
  obtain ⟨fd, D⟩ := B.says.def_ 6 (d := d_is_name) rfl
  refine ⟨_, fd, B.tx.glo_is_name, D.kp, D.bindsN (fun _ _ _ _ _ _ us hl => match us, hl with | [_], _ => rfl), fnok_of (post := fun _ : Unit => ([.off, .off] : List (En K))) D sc_is_name rfl (by decide) fsE_1 (fun a => [.fr rS a, .off]) (fun _ => rfl) (fun a cdv A outer s H E hr => (b_ifr (PW.pt (pw_orX (pt_notX (pt_valX (pr_isStr B.tx.free_isinstance B.tx.free_str (pr_name (pv 0) rfl)))) (pw_or1X (pt_notX (pt_chainX op_le r2_le op_le r2_le pr_int (pr_cb call_len_str rc_lenS B.tx.free_len (by decide +kernel) (pa_oneX (pr_name (pv 0) rfl))) pr_int))))) (b_ret pr_bl) (b_for (fun s50 : Unit => [.fr rS a, .off]) () (pi_strX (pr_name (pv 0) rfl)) (.same (.same .nil)) (fun s50 => (pg_nameX (pg_name (i := 1) sc_is_name.nd rfl (by first | exact Or.inl rfl | exact Or.inr rfl)))) (fun q51 q51x => (b_ifr (pt_cmpX op_notIn_sign r2_ninS (by rfl) (pr_name (pv 1) rfl) pr_str) (b_ret pr_bl) (b_nil (t := ()) (.same (.off .nil rfl))))) (fun s50 => (b_ret pr_bl))))) (fun a Q h => ?_)⟩
  obtain ⟨⟨h1, h2, h3⟩, h⟩ := h
  have hz : a.length ≤ sizeLine := small (by omega)
  refine ⟨hz, ?_⟩
  dsimp only
  rw [if_pos (dT (show 1 ≤ (a.length : Int) by omega)), dT (show (a.length : Int) ≤ 20 by omega)]
  refine ⟨hz, forW_all (fun x hx C c => ?_) h⟩
  obtain ⟨n, e, hn⟩ := sign_of hx
  refine ⟨n, e, ?_⟩
  rw [dT (show n ∈ (Str.ofString "abcdefghijklmnopqrstuvwxyz0123456789_").cps.toList from h3 n hn)]
  exact c
theorem sc_need_rule : FnScope ["space", "rule", "names", "one", "name", "needs", "due", "rank", "first", "last", "unless"] ["space", "rule", "names"] (defScope s_need_rule) := ⟨rfl, rfl, rfl, by decide +kernel, rfl, by decide +kernel, by decide +kernel⟩
theorem ok_need_rule (B : Bd P w K mg base) : FnG P w K mg base "need_rule" 4 ["space", "rule", "names"] (SpF (K := K) (fsC (r_Space K) (fsC (rT (fsC rS (fsC (rL (rT (fsC SS.rI (fs1 (rL SS.rI))))) (fsC SS.rI (fsC SS.rI (fsC (rO SS.rI) (fsC (rO SS.rI) (fs1 (rL (rL (rT (fsC SS.rI (fs1 (rL SS.rI)))))))))))))) (fs1 (rL rS)))) rN (fun (a : T_Space × (Str × (List (Int × (List Int))) × Int × Int × (Option Int) × (Option Int) × (List (List (Int × (List Int))))) × (List Str)) => (fun P => (∃ s ∈ SZ, a.1 = spc s ∧ RuleOk s a.2.1) ∧ a.2.1.1 ∉ a.2.2 ∧ P () : W Unit))) := by
  obtain ⟨fd, D⟩ := B.says.def_ 32 (d := d_need_rule) rfl
  refine ⟨_, fd, B.tx.glo_need_rule, D.kp, D.bindsN (fun _ _ _ _ _ _ us hl => match us, hl with | [_, _, _], _ => rfl), fnok_ofN (post := fun _ : Unit => ([.off, .off, .off, .off, .off, .off, .off, .off, .off, .off, .off] : List (En K))) D sc_need_rule rfl (by decide) (fsE_C (fsE_C fsE_1)) (fun a => [.fr (r_Space K) a.1, .fr (rT (fsC rS (fsC (rL (rT (fsC SS.rI (fs1 (rL SS.rI))))) (fsC SS.rI (fsC SS.rI (fsC (rO SS.rI) (fsC (rO SS.rI) (fs1 (rL (rL (rT (fsC SS.rI (fs1 (rL SS.rI)))))))))))))) a.2.1, .fr (rL rS) a.2.2, .off, .off, .off, .off, .off, .off, .off, .off]) (fun _ => rfl) (fun a cdv A outer s H E hr => (b_asgT (pr_name (pv 1) rfl) (pg_tupX (pgs_consX (pg_name (i := 4) sc_need_rule.nd rfl (by first | exact Or.inl rfl | exact Or.inr rfl)) (fun _ => (pgs_consX (pg_name (i := 5) sc_need_rule.nd rfl (by first | exact Or.inl rfl | exact Or.inr rfl)) (fun _ => (pgs_consX (pg_name (i := 6) sc_need_rule.nd rfl (by first | exact Or.inl rfl | exact Or.inr rfl)) (fun _ => (pgs_consX (pg_name (i := 7) sc_need_rule.nd rfl (by first | exact Or.inl rfl | exact Or.inr rfl)) (fun _ => (pgs_consX (pg_name (i := 8) sc_need_rule.nd rfl (by first | exact Or.inl rfl | exact Or.inr rfl)) (fun _ => (pgs_consX (pg_name (i := 9) sc_need_rule.nd rfl (by first | exact Or.inl rfl | exact Or.inr rfl)) (fun _ => (pgs_oneX (pg_name (i := 10) sc_need_rule.nd rfl (by first | exact Or.inl rfl | exact Or.inr rfl)))))))))))))))) (fun x52 => (b_ifr (pt_notX (pt_valX (pr_call (ok_is_name B) (hr.mono (by decide)) (pa_oneX (pr_name (pv 4) rfl))))) b_never (b_ifr (pt_valX (pr_call (ok_wrong_needs B) (hr.mono (by decide)) (pa_consX (pr_name (pv 0) rfl) (pa_oneX (pr_name (pv 5) rfl))))) b_never (b_ifr (PW.pt (pw_andX (pt_cmpX op_notN (r2_notN nn_I) (nomark _) (pr_name (pv 8) rfl) pr_nonU) (pw_andX (pt_cmpX op_notN (r2_notN nn_I) (nomark _) (pr_name (pv 9) rfl) pr_nonU) (pw_and1X (pt_cmpX op_gt r2_gt (nomark _) (pr_get (pr_name (pv 8) rfl)) (pr_get (pr_name (pv 9) rfl))))))) b_never (b_for (fun s53 : Unit => [.fr (r_Space K) a.1, .fr (rT (fsC rS (fsC (rL (rT (fsC SS.rI (fs1 (rL SS.rI))))) (fsC SS.rI (fsC SS.rI (fsC (rO SS.rI) (fsC (rO SS.rI) (fs1 (rL (rL (rT (fsC SS.rI (fs1 (rL SS.rI)))))))))))))) a.2.1, .fr (rL rS) a.2.2, .off, .fr rS x52.1, .fr (rL (rT (fsC SS.rI (fs1 (rL SS.rI))))) x52.2.1, .fr SS.rI x52.2.2.1, .fr SS.rI x52.2.2.2.1, .fr (rO SS.rI) x52.2.2.2.2.1, .fr (rO SS.rI) x52.2.2.2.2.2.1, .fr (rL (rL (rT (fsC SS.rI (fs1 (rL SS.rI)))))) x52.2.2.2.2.2.2]) () (pi_listX (pr_name (pv 10) rfl)) (.same (.same (.same (.same (.same (.same (.same (.same (.same (.same (.same .nil))))))))))) (fun s53 => (pg_nameX (pg_name (i := 3) sc_need_rule.nd rfl (by first | exact Or.inl rfl | exact Or.inr rfl)))) (fun q54 q54x => (b_ifr (PW.pt (pw_orX (pt_cmpX (op_eqP hr.units) (r2_eq eqI) (nomark _) (pr_cb call_len_seq rc_len B.tx.free_len (by decide +kernel) (pa_oneX (pr_name (pv 3) rfl))) pr_int) (pw_or1X (pt_valX (pr_call (ok_wrong_needs B) (hr.mono (by decide)) (pa_consX (pr_name (pv 0) rfl) (pa_oneX (pr_name (pv 3) rfl)))))))) b_never (b_nil (t := ()) (.same (.same (.same (.off (.same (.same (.same (.same (.same (.same (.same .nil))))))) rfl))))))) (fun s53 => (b_ifr (pt_cmpX op_in_seq (r2_inL flat_S) (by rfl) (pr_name (pv 4) rfl) (pr_name (pv 2) rfl)) b_never (b_nil (t := ()) (.off (.off (.off (.same (.off (.off (.off (.off (.off (.off (.off .nil rfl) rfl) rfl) rfl) rfl) rfl) rfl)) rfl) rfl) rfl))))))))))) (fun a Q h => ?_)⟩
  obtain ⟨⟨s, hz, e, hk⟩, hm, h⟩ := h
  have loop : ∀ (N : Prop), N → forW a.2.1.2.2.2.2.2.2 () (fun (_ : Unit) x P => x.length ≤ sizeLine →
      if decide ((x.length : Int) = 0) = true then if true = true then False else P (Out.nx ())
      else (∃ s, s ∈ SZ ∧ a.1 = spc s ∧ okN s (-1) x = true) ∧ if false = true then False else P (Out.nx ())) (fun _ => N) (fun (b : Unit) => fin (Q ()) Q (Out.rt b : Out Unit Empty Unit)) := fun N hN => by
    refine forW_all (fun u hu C c _ => ?_) hN
    obtain ⟨u1, u2⟩ := hk.unl u hu
    rw [dF (fun z => u1 (List.length_eq_zero_iff.mp (by omega)))]
    exact ⟨⟨s, hz, e, u2⟩, c⟩
  have last : if decide (a.2.1.1 ∈ a.2.2) = true then False else Q () := by
    rw [dF hm]; exact h
  refine ⟨hk.name, ⟨s, hz, e, hk.needs⟩, ?_⟩
  dsimp only
  cases e1 : a.2.1.2.2.2.2.1 with
  | none => exact loop _ last
  | some x =>
    cases e2 : a.2.1.2.2.2.2.2.1 with
    | none => exact loop _ last
    | some y =>
      refine ⟨x, rfl, y, rfl, ?_⟩
      have := hk.ends x y e1 e2
      rw [dF (show ¬ y < x by omega)]
      exact loop _ last
theorem sc_meets : FnScope ["form", "needs", "i", "values"] ["form", "needs"] (defScope s_meets) := ⟨rfl, rfl, rfl, by decide +kernel, rfl, by decide +kernel, by decide +kernel⟩
theorem ok_meets (B : Bd P w K mg base) : FnG P w K mg base "meets" 1 ["form", "needs"] (SpF (K := K) (fsC (SS.rU SS.rI) (fs1 (rL (rT (fsC SS.rI (fs1 (rL SS.rI))))))) rB (fun (a : (List Int) × (List (Int × (List Int)))) => (fun P => InR a.1.length a.2 ∧ P (met a.1 a.2) : W Bool))) := by
  obtain ⟨fd, D⟩ := B.says.def_ 33 (d := d_meets) rfl
  refine ⟨_, fd, B.tx.glo_meets, D.kp, D.bindsN (fun _ _ _ _ _ _ us hl => match us, hl with | [_, _], _ => rfl), fnok_of (post := fun _ : Unit => ([.off, .off, .off, .off] : List (En K))) D sc_meets rfl (by decide) (fsE_C fsE_1) (fun a => [.fr (SS.rU SS.rI) a.1, .fr (rL (rT (fsC SS.rI (fs1 (rL SS.rI))))) a.2, .off, .off]) (fun _ => rfl) (fun a cdv A outer s H E hr => (b_for (fun s55 : Unit => [.fr (SS.rU SS.rI) a.1, .fr (rL (rT (fsC SS.rI (fs1 (rL SS.rI))))) a.2, .off, .off]) () (pi_listX (pr_name (pv 1) rfl)) (.same (.same (.same (.same .nil)))) (fun s55 => (pg_tupX (pgs_consX (pg_name (i := 2) sc_meets.nd rfl (by first | exact Or.inl rfl | exact Or.inr rfl)) (fun _ => (pgs_oneX (pg_name (i := 3) sc_meets.nd rfl (by first | exact Or.inl rfl | exact Or.inr rfl))))))) (fun q56 q56x => (b_ifr (pt_cmpX op_notIn_seq (r2_ninL flat_I) (by rfl) (pr_ix ix_tup r2_ixU (pr_name (pv 0) rfl) (pr_name (pv 2) rfl)) (pr_name (pv 3) rfl)) (b_ret pr_bl) (b_nil (t := ()) (.same (.same (.off (.off .nil rfl) rfl)))))) (fun s55 => (b_ret pr_bl)))) (fun a Q h => ?_)⟩
  obtain ⟨hi, h⟩ := h
  refine forW_inv (fun pre suf _ => met a.1 a.2 = met a.1 suf) rfl (fun pre x suf st C e he h1 _ _ h4 => ?_) (fun st e => by show Q true; rw [e] at h; exact h)
  obtain ⟨i1, i2⟩ := hi x (by rw [e]; simp)
  refine ⟨_, atI_of 0 i1 i2, ?_⟩
  have em : met a.1 (x :: suf) = (decide (a.1.getD x.1.toNat 0 ∈ x.2) && met a.1 suf) := rfl
  rw [em] at he
  dsimp only
  cases hd : decide (a.1.getD x.1.toNat 0 ∈ x.2) with
  | true => rw [hd, Bool.true_and] at he; exact h1 () he
  | false =>
    rw [hd] at he
    exact h4 false (by show Q false; rw [he] at h; exact h)
theorem sc_speaks : FnScope ["rule", "form", "day", "one", "name", "needs", "due", "rank", "first", "last", "unless"] ["rule", "form", "day"] (defScope s_speaks) := ⟨rfl, rfl, rfl, by decide +kernel, rfl, by decide +kernel, by decide +kernel⟩
theorem ok_speaks (B : Bd P w K mg base) : FnG P w K mg base "speaks" 2 ["rule", "form", "day"] (SpF (K := K) (fsC (rT (fsC rS (fsC (rL (rT (fsC SS.rI (fs1 (rL SS.rI))))) (fsC SS.rI (fsC SS.rI (fsC (rO SS.rI) (fsC (rO SS.rI) (fs1 (rL (rL (rT (fsC SS.rI (fs1 (rL SS.rI)))))))))))))) (fsC (SS.rU SS.rI) (fs1 SS.rI))) rB (fun (a : (Str × (List (Int × (List Int))) × Int × Int × (Option Int) × (Option Int) × (List (List (Int × (List Int))))) × (List Int) × Int) => (fun P => RuleIn a.2.1.length a.1 ∧ P (spk a.1 a.2.1 a.2.2) : W Bool))) := by
  obtain ⟨fd, D⟩ := B.says.def_ 34 (d := d_speaks) rfl
  refine ⟨_, fd, B.tx.glo_speaks, D.kp, D.bindsN (fun _ _ _ _ _ _ us hl => match us, hl with | [_, _, _], _ => rfl), fnok_of (post := fun _ : Unit => ([.off, .off, .off, .off, .off, .off, .off, .off, .off, .off, .off] : List (En K))) D sc_speaks rfl (by decide) (fsE_C (fsE_C fsE_1)) (fun a => [.fr (rT (fsC rS (fsC (rL (rT (fsC SS.rI (fs1 (rL SS.rI))))) (fsC SS.rI (fsC SS.rI (fsC (rO SS.rI) (fsC (rO SS.rI) (fs1 (rL (rL (rT (fsC SS.rI (fs1 (rL SS.rI)))))))))))))) a.1, .fr (SS.rU SS.rI) a.2.1, .fr SS.rI a.2.2, .off, .off, .off, .off, .off, .off, .off, .off]) (fun _ => rfl) (fun a cdv A outer s H E hr => (b_asgT (pr_name (pv 0) rfl) (pg_tupX (pgs_consX (pg_name (i := 4) sc_speaks.nd rfl (by first | exact Or.inl rfl | exact Or.inr rfl)) (fun _ => (pgs_consX (pg_name (i := 5) sc_speaks.nd rfl (by first | exact Or.inl rfl | exact Or.inr rfl)) (fun _ => (pgs_consX (pg_name (i := 6) sc_speaks.nd rfl (by first | exact Or.inl rfl | exact Or.inr rfl)) (fun _ => (pgs_consX (pg_name (i := 7) sc_speaks.nd rfl (by first | exact Or.inl rfl | exact Or.inr rfl)) (fun _ => (pgs_consX (pg_name (i := 8) sc_speaks.nd rfl (by first | exact Or.inl rfl | exact Or.inr rfl)) (fun _ => (pgs_consX (pg_name (i := 9) sc_speaks.nd rfl (by first | exact Or.inl rfl | exact Or.inr rfl)) (fun _ => (pgs_oneX (pg_name (i := 10) sc_speaks.nd rfl (by first | exact Or.inl rfl | exact Or.inr rfl)))))))))))))))) (fun x57 => (b_ifr (PW.pt (pw_andX (pt_cmpX op_notN (r2_notN nn_I) (nomark _) (pr_name (pv 8) rfl) pr_nonU) (pw_and1X (pt_cmpX op_lt r2_lt (nomark _) (pr_name (pv 2) rfl) (pr_get (pr_name (pv 8) rfl)))))) (b_ret pr_bl) (b_ifr (PW.pt (pw_andX (pt_cmpX op_notN (r2_notN nn_I) (nomark _) (pr_name (pv 9) rfl) pr_nonU) (pw_and1X (pt_cmpX op_gt r2_gt (nomark _) (pr_name (pv 2) rfl) (pr_get (pr_name (pv 9) rfl)))))) (b_ret pr_bl) (b_ifr (pt_notX (pt_valX (pr_call (ok_meets B) (hr.mono (by decide)) (pa_consX (pr_name (pv 1) rfl) (pa_oneX (pr_name (pv 5) rfl)))))) (b_ret pr_bl) (b_for (fun s58 : Unit => [.fr (rT (fsC rS (fsC (rL (rT (fsC SS.rI (fs1 (rL SS.rI))))) (fsC SS.rI (fsC SS.rI (fsC (rO SS.rI) (fsC (rO SS.rI) (fs1 (rL (rL (rT (fsC SS.rI (fs1 (rL SS.rI)))))))))))))) a.1, .fr (SS.rU SS.rI) a.2.1, .fr SS.rI a.2.2, .off, .fr rS x57.1, .fr (rL (rT (fsC SS.rI (fs1 (rL SS.rI))))) x57.2.1, .fr SS.rI x57.2.2.1, .fr SS.rI x57.2.2.2.1, .fr (rO SS.rI) x57.2.2.2.2.1, .fr (rO SS.rI) x57.2.2.2.2.2.1, .fr (rL (rL (rT (fsC SS.rI (fs1 (rL SS.rI)))))) x57.2.2.2.2.2.2]) () (pi_listX (pr_name (pv 10) rfl)) (.same (.same (.same (.same (.same (.same (.same (.same (.same (.same (.same .nil))))))))))) (fun s58 => (pg_nameX (pg_name (i := 3) sc_speaks.nd rfl (by first | exact Or.inl rfl | exact Or.inr rfl)))) (fun q59 q59x => (b_ifr (pt_valX (pr_call (ok_meets B) (hr.mono (by decide)) (pa_consX (pr_name (pv 1) rfl) (pa_oneX (pr_name (pv 3) rfl))))) (b_ret pr_bl) (b_nil (t := ()) (.same (.same (.same (.off (.same (.same (.same (.same (.same (.same (.same .nil))))))) rfl))))))) (fun s58 => (b_ret pr_bl))))))))) (fun a Q h => ?_)⟩
  obtain ⟨⟨hi, hu⟩, h⟩ := h
  have loop : (∀ b : Bool, b = met a.2.1 a.1.2.1 → b = true → (a.1.2.2.2.2.2.2.any (fun u => met a.2.1 u)) = !(spk a.1 a.2.1 a.2.2)) → spk a.1 a.2.1 a.2.2 = (spk a.1 a.2.1 a.2.2 && met a.2.1 a.1.2.1) →
    InR a.2.1.length a.1.2.1 ∧ if (!met a.2.1 a.1.2.1) = true then Q false
     else forW a.1.2.2.2.2.2.2 () (fun (_ : Unit) x P => InR a.2.1.length x ∧ if met a.2.1 x = true then onx (fun (z : Empty) => nomatch z) P (Out.rt false : Out Empty Unit Bool) else P (Out.nx ())) (fun _ => Q true) (fun (b : Bool) => Q b) := fun e1 e2 => by
    refine ⟨hi, ?_⟩
    cases em : met a.2.1 a.1.2.1 with
    | false => rw [em, Bool.and_false] at e2; rw [e2] at h; exact h
    | true =>
      have e3 := e1 true em.symm rfl
      refine forW_inv (fun pre suf _ => (suf.any fun u => met a.2.1 u) = !(spk a.1 a.2.1 a.2.2)) e3 (fun pre x suf st C e he h1 _ _ h4 => ?_) (fun st e => ?_)
      · refine ⟨hu x (by rw [e]; simp), ?_⟩
        rw [List.any_cons] at he
        cases hx : met a.2.1 x with
        | true => rw [hx, Bool.true_or] at he; exact h4 false (by have : spk a.1 a.2.1 a.2.2 = false := by simpa using he.symm
                                                                  rw [this] at h; exact h)
        | false => rw [hx, Bool.false_or] at he; exact h1 () he
      · have : spk a.1 a.2.1 a.2.2 = true := by simpa using e.symm
        rw [this] at h
        exact h
  have sp : spk a.1 a.2.1 a.2.2 = ((match a.1.2.2.2.2.1 with | none => true | some x => decide (x ≤ a.2.2)) && (match a.1.2.2.2.2.2.1 with | none => true | some b => decide (a.2.2 ≤ b)) && met a.2.1 a.1.2.1 && !(a.1.2.2.2.2.2.2.any fun u => met a.2.1 u)) := rfl
  dsimp only
  cases e1 : a.1.2.2.2.2.1 with
  | none =>
    cases e2 : a.1.2.2.2.2.2.1 with
    | none =>
      rw [e1, e2] at sp
      exact loop (fun b hb hb' => by rw [sp, ← hb, hb']; simp) (by rw [sp]; cases met a.2.1 a.1.2.1 <;> simp)
    | some y =>
      refine ⟨y, rfl, ?_⟩
      by_cases hy : y < a.2.2
      · rw [dT hy]
        rw [e1, e2] at sp
        dsimp only at sp
        rw [dF (show ¬ a.2.2 ≤ y by omega)] at sp
        rw [sp] at h
        exact h
      · rw [dF hy]
        rw [e1, e2] at sp
        dsimp only at sp
        rw [dT (show a.2.2 ≤ y by omega)] at sp
        exact loop (fun b hb hb' => by rw [sp, ← hb, hb']; simp) (by rw [sp]; cases met a.2.1 a.1.2.1 <;> simp)
  | some x =>
    refine ⟨x, rfl, ?_⟩
    by_cases hx : a.2.2 < x
    · rw [dT hx]
      rw [e1] at sp
      dsimp only at sp
      rw [dF (show ¬ x ≤ a.2.2 by omega)] at sp
      rw [sp] at h
      exact h
    · rw [dF hx]
      cases e2 : a.1.2.2.2.2.2.1 with
      | none =>
        rw [e1, e2] at sp
        dsimp only at sp
        rw [dT (show x ≤ a.2.2 by omega)] at sp
        exact loop (fun b hb hb' => by rw [sp, ← hb, hb']; simp) (by rw [sp]; cases met a.2.1 a.1.2.1 <;> simp)
      | some y =>
        refine ⟨y, rfl, ?_⟩
        by_cases hy : y < a.2.2
        · rw [dT hy]
          rw [e1, e2] at sp
          dsimp only at sp
          rw [dF (show ¬ a.2.2 ≤ y by omega), Bool.and_false] at sp
          rw [sp] at h
          exact h
        · rw [dF hy]
          rw [e1, e2] at sp
          dsimp only at sp
          rw [dT (show a.2.2 ≤ y by omega), dT (show x ≤ a.2.2 by omega)] at sp
          exact loop (fun b hb hb' => by rw [sp, ← hb, hb']; simp) (by rw [sp]; cases met a.2.1 a.1.2.1 <;> simp)
theorem sc_outranks : FnScope ["rule", "other"] ["rule", "other"] (defScope s_outranks) := ⟨rfl, rfl, rfl, by decide +kernel, rfl, by decide +kernel, by decide +kernel⟩
theorem ok_outranks (B : Bd P w K mg base) : FnG P w K mg base "outranks" 1 ["rule", "other"] (SpF (K := K) (fsC (rT (fsC rS (fsC (rL (rT (fsC SS.rI (fs1 (rL SS.rI))))) (fsC SS.rI (fsC SS.rI (fsC (rO SS.rI) (fsC (rO SS.rI) (fs1 (rL (rL (rT (fsC SS.rI (fs1 (rL SS.rI)))))))))))))) (fs1 (rT (fsC rS (fsC (rL (rT (fsC SS.rI (fs1 (rL SS.rI))))) (fsC SS.rI (fsC SS.rI (fsC (rO SS.rI) (fsC (rO SS.rI) (fs1 (rL (rL (rT (fsC SS.rI (fs1 (rL SS.rI)))))))))))))))) rB (fun (a : (Str × (List (Int × (List Int))) × Int × Int × (Option Int) × (Option Int) × (List (List (Int × (List Int))))) × (Str × (List (Int × (List Int))) × Int × Int × (Option Int) × (Option Int) × (List (List (Int × (List Int)))))) => (fun P => P (outr a.1 a.2) : W Bool))) := by
  obtain ⟨fd, D⟩ := B.says.def_ 35 (d := d_outranks) rfl
  refine ⟨_, fd, B.tx.glo_outranks, D.kp, D.bindsN (fun _ _ _ _ _ _ us hl => match us, hl with | [_, _], _ => rfl), fnok_of (post := fun _ : Unit => ([.off, .off] : List (En K))) D sc_outranks rfl (by decide) (fsE_C fsE_1) (fun a => [.fr (rT (fsC rS (fsC (rL (rT (fsC SS.rI (fs1 (rL SS.rI))))) (fsC SS.rI (fsC SS.rI (fsC (rO SS.rI) (fsC (rO SS.rI) (fs1 (rL (rL (rT (fsC SS.rI (fs1 (rL SS.rI)))))))))))))) a.1, .fr (rT (fsC rS (fsC (rL (rT (fsC SS.rI (fs1 (rL SS.rI))))) (fsC SS.rI (fsC SS.rI (fsC (rO SS.rI) (fsC (rO SS.rI) (fs1 (rL (rL (rT (fsC SS.rI (fs1 (rL SS.rI)))))))))))))) a.2]) (fun _ => rfl) (fun a cdv A outer s H E hr => (b_ifr (pt_cmpX (op_neP hr.units) (r2_ne eqI) (nomark _) (pr_ix ix_tup (r2_ixF (j := 3) (fsAt_s (fsAt_s (fsAt_s fsAt_0)))) (pr_name (pv 0) rfl) pr_int) (pr_ix ix_tup (r2_ixF (j := 3) (fsAt_s (fsAt_s (fsAt_s fsAt_0)))) (pr_name (pv 1) rfl) pr_int)) (b_ret (pr_cmp op_gt r2_gt (nomark _) (pr_ix ix_tup (r2_ixF (j := 3) (fsAt_s (fsAt_s (fsAt_s fsAt_0)))) (pr_name (pv 0) rfl) pr_int) (pr_ix ix_tup (r2_ixF (j := 3) (fsAt_s (fsAt_s (fsAt_s fsAt_0)))) (pr_name (pv 1) rfl) pr_int))) (b_ifr (pt_cmpX op_isN (r2_isN nn_I) (nomark _) (pr_ix ix_tup (r2_ixF (j := 4) (fsAt_s (fsAt_s (fsAt_s (fsAt_s fsAt_0))))) (pr_name (pv 1) rfl) pr_int) pr_nonU) (b_ret pr_bl) (b_ret (pr_andV (pr_cmp op_notN (r2_notN nn_I) (nomark _) (pr_ix ix_tup (r2_ixF (j := 4) (fsAt_s (fsAt_s (fsAt_s (fsAt_s fsAt_0))))) (pr_name (pv 0) rfl) pr_int) pr_nonU) (pr_oneV (pr_cmp op_ge r2_ge (nomark _) (pr_get (pr_ix ix_tup (r2_ixF (j := 4) (fsAt_s (fsAt_s (fsAt_s (fsAt_s fsAt_0))))) (pr_name (pv 0) rfl) pr_int)) (pr_get (pr_ix ix_tup (r2_ixF (j := 4) (fsAt_s (fsAt_s (fsAt_s (fsAt_s fsAt_0))))) (pr_name (pv 1) rfl) pr_int))))))))) (fun a Q h => ?_)⟩
  refine ⟨rfl, rfl, ?_⟩
  have h' := h
  unfold outr at h'
  dsimp only
  by_cases e : a.1.2.2.2.1 = a.2.2.2.2.1
  · rw [if_pos e] at h'
    rw [dT e]
    refine ⟨rfl, ?_⟩
    cases eo : a.2.2.2.2.2.1 with
    | none => rw [eo] at h'; exact h'
    | some y =>
      rw [eo] at h'
      refine ⟨rfl, ?_⟩
      cases er : a.1.2.2.2.2.1 with
      | none => rw [er] at h'; exact h'
      | some x => rw [er] at h'; exact ⟨rfl, x, rfl, rfl, y, rfl, h'⟩
  · rw [if_neg e] at h'
    rw [dF e]
    exact ⟨rfl, rfl, h'⟩
theorem sc_Rulebook___init__ : FnScope ["self", "space", "default", "rules", "names", "rule"] ["self", "space", "default", "rules"] (defScope s_Rulebook___init__) := ⟨rfl, rfl, rfl, by decide +kernel, rfl, by decide +kernel, by decide +kernel⟩
theorem ok_Rulebook___init__ (B : Bd P w K mg base) : FnC P w K mg base "Rulebook" (He.ga K "Rulebook") 5 ["self", "space", "default", "rules"] (SpI (K := K) (He.ga K "Rulebook") (fsC (r_Space K) (fsC SS.rI (fs1 (rL (rT (fsC rS (fsC (rL (rT (fsC SS.rI (fs1 (rL SS.rI))))) (fsC SS.rI (fsC SS.rI (fsC (rO SS.rI) (fsC (rO SS.rI) (fs1 (rL (rL (rT (fsC SS.rI (fs1 (rL SS.rI)))))))))))))))))) (r_Rulebook K) (fun (a : T_Space × Int × (List (Str × (List (Int × (List Int))) × Int × Int × (Option Int) × (Option Int) × (List (List (Int × (List Int))))))) => (fun P => ∃ s, a.1 = spc s ∧ BookOk s a.2.1 a.2.2 ∧ P a : W T_Rulebook))) := by
  obtain ⟨fd, D⟩ := B.says.def_ 36 (d := d_Rulebook___init__) rfl
  refine ⟨_, fd, B.tx.glo_Rulebook, B.tx.mkr_Rulebook, D.bindsN (fun _ _ _ _ _ _ us hl => match us, hl with | [_, _, _, _], _ => rfl), fnok_ofI (C := He.ga K "Rulebook") (FI := F_Rulebook K) D sc_Rulebook___init__ rfl (by decide) (fsE_C (fsE_C fsE_1)) (fun i a => [.obj i (He.ga K "Rulebook") [], .fr (r_Space K) a.1, .fr SS.rI a.2.1, .fr (rL (rT (fsC rS (fsC (rL (rT (fsC SS.rI (fs1 (rL SS.rI))))) (fsC SS.rI (fsC SS.rI (fsC (rO SS.rI) (fsC (rO SS.rI) (fs1 (rL (rL (rT (fsC SS.rI (fs1 (rL SS.rI))))))))))))))) a.2.2, .off, .off]) (fun _ _ => rfl) (fun i b => [.obj i (He.ga K "Rulebook") (F_Rulebook K b), .off, .off, .off, .off, .off]) (fun _ _ => rfl) (fun i a cdv A outer s H E hr => (b_expr (pr_call (ok_bound_rules B) (hr.mono (by decide)) (pa_consX (pr_frz (pr_lst (R := SS.rI) (pa_consR (pr_name (pv 2) rfl) pa_nilR))) (pa_consX (pr_cb call_len_seq rc_len B.tx.free_len (by decide +kernel) (pa_oneX (pr_name (pv 3) rfl))) (pa_oneX (pr_name (pv 3) rfl))))) (b_asgL (i := 4) sc_Rulebook___init__.nd rfl (by first | exact Or.inl rfl | exact Or.inr rfl) (pr_lst (R := rS) pa_nilR) (fun q60 q60l => (b_for (fun s61 : (List Str) => [.obj i (He.ga K "Rulebook") [], .fr (r_Space K) a.1, .fr SS.rI a.2.1, .fr (rL (rT (fsC rS (fsC (rL (rT (fsC SS.rI (fs1 (rL SS.rI))))) (fsC SS.rI (fsC SS.rI (fsC (rO SS.rI) (fsC (rO SS.rI) (fs1 (rL (rL (rT (fsC SS.rI (fs1 (rL SS.rI))))))))))))))) a.2.2, .own q60 rS s61, .off]) q60l (pi_listX (pr_name (pv 3) rfl)) (.same (.same (.same (.same (.same (.same .nil)))))) (fun s61 => (pg_nameX (pg_name (i := 5) sc_Rulebook___init__.nd rfl (by first | exact Or.inl rfl | exact Or.inr rfl)))) (fun q62 q62x => (b_expr (pr_thaw (i := 4) rfl (fun _ _ _ _ h => h) (pr_call (ok_need_rule B) (hr.mono (by decide)) (pa_consX (pr_name (pv 1) rfl) (pa_consX (pr_name (pv 5) rfl) (pa_oneX (pr_name (pv 4) rfl)))))) (b_app (pv 4) rfl (pr_ix ix_tup (r2_ixF (j := 0) fsAt_0) (pr_name (pv 5) rfl) pr_int) (fun x63 => (b_nil (t := (q62 ++ [x63])) (.same (.same (.same (.same (.same (.off .nil rfl))))))))))) (fun s61 => (b_fld (ks := []) (pv 0) rfl B.tx.cls_Rulebook B.tx.noat_Rulebook_kept_space (pr_name (pv 1) rfl) rfl (by decide +kernel) (fun x64 => (b_fld (ks := ["kept_space"]) (pv 0) rfl B.tx.cls_Rulebook B.tx.noat_Rulebook_kept_default (pr_name (pv 2) rfl) rfl (by decide +kernel) (fun x65 => (b_fld (ks := ["kept_space", "kept_default"]) (pv 0) rfl B.tx.cls_Rulebook B.tx.noat_Rulebook_kept_rules (pr_frz (pr_lc (own := [("rule", 5)]) sc_Rulebook___init__.nd (blkOk_by (own := [("rule", 5)]) (N := ["self", "space", "default", "rules", "names", "rule"]) (sc := defScope s_Rulebook___init__) (by decide +kernel)) (pi_listX (pr_name (pv 3) rfl)) (fun _ _ _ _ _ => (pg_nameX (pg_name (i := 5) sc_Rulebook___init__.nd rfl (by first | exact Or.inl rfl | exact Or.inr rfl)))) (fun x66 _ _ _ _ _ => pts_nilX) (fun x66 _ _ _ _ _ => (pr_call (ok_copied_rule B) (hr.mono (by decide)) (pa_oneX (pr_name (pv 5) rfl)))))) rfl (by decide +kernel) (fun x67 => (b_nil (t := (x64, x65, x67)) (.same (.off (.off (.off (.off (.same .nil) rfl) rfl) rfl) rfl))))))))))))))) (fun i a Q h => ?_)⟩
  obtain ⟨s, e, hb, h⟩ := h
  refine fun _ => ⟨fun d hd => by rw [List.mem_singleton.mp hd]; exact hb.df, by have := hb.few; show (a.2.2.length : Int) ≤ 60; omega, ⟨s, hb.ok⟩, fun p => ?_⟩
  refine forW_inv (fun pre _ st => st = pre.map (·.1)) rfl (fun pre x suf st C e' hi h1 _ _ _ => ?_) (fun st hst => ?_)
  · subst hi
    have hnd := hb.nd
    rw [e'] at hnd
    refine ⟨⟨s, hb.sz, e, hb.ok x (by rw [e']; simp)⟩, nodup_mid hnd, rfl, fun _ => ?_, h1 _ (by simp)⟩
    have h60 := hb.few
    rw [e'] at h60
    simp at h60
    refine smallS ?_
    rw [List.length_map]; omega
  · refine lcW_map1 (fun p => p) _ (fun p _ C c => c) ?_
    rw [List.map_id']
    exact h
theorem sc_Rulebook_space : FnScope ["self"] ["self"] (defScope s_Rulebook_space) := ⟨rfl, rfl, rfl, by decide +kernel, rfl, by decide +kernel, by decide +kernel⟩
theorem ok_Rulebook_space (B : Bd P w K mg base) : FnM P w K mg base (He.ga K "Rulebook") "space" 1 ["self"] (SpF (K := K) (fs1 (r_Rulebook K)) (r_Space K) (fun (a : T_Rulebook) => (fun P => P a.1 : W T_Space))) := by
  obtain ⟨fd, D⟩ := B.says.def_ 37 (d := d_Rulebook_space) rfl
  refine ⟨_, fd, B.tx.cls_Rulebook, B.tx.meth_Rulebook_space, D.bindsN (fun _ _ _ _ _ _ us hl => match us, hl with | [_], _ => rfl), fnok_of (post := fun _ : Unit => ([.off] : List (En K))) D sc_Rulebook_space rfl (by decide) fsE_1 (fun a => [.fr (r_Rulebook K) a]) (fun _ => rfl) (fun a cdv A outer s H E hr => (b_ret (pr_fld (ks := ["kept_space", "kept_default", "kept_rules"]) 0 (pr_name (pv 0) rfl) B.tx.cls_Rulebook B.tx.noat_Rulebook_kept_space (fun _ => rfl) (fun _ => rfl) (by decide +kernel)))) (fun a Q h => ?_)⟩
  exact h
theorem sc_Rulebook_default : FnScope ["self"] ["self"] (defScope s_Rulebook_default) := ⟨rfl, rfl, rfl, by decide +kernel, rfl, by decide +kernel, by decide +kernel⟩
theorem ok_Rulebook_default (B : Bd P w K mg base) : FnM P w K mg base (He.ga K "Rulebook") "default" 1 ["self"] (SpF (K := K) (fs1 (r_Rulebook K)) SS.rI (fun (a : T_Rulebook) => (fun P => P a.2.1 : W Int))) := by
  obtain ⟨fd, D⟩ := B.says.def_ 38 (d := d_Rulebook_default) rfl
  refine ⟨_, fd, B.tx.cls_Rulebook, B.tx.meth_Rulebook_default, D.bindsN (fun _ _ _ _ _ _ us hl => match us, hl with | [_], _ => rfl), fnok_of (post := fun _ : Unit => ([.off] : List (En K))) D sc_Rulebook_default rfl (by decide) fsE_1 (fun a => [.fr (r_Rulebook K) a]) (fun _ => rfl) (fun a cdv A outer s H E hr => (b_ret (pr_fld (ks := ["kept_space", "kept_default", "kept_rules"]) 1 (pr_name (pv 0) rfl) B.tx.cls_Rulebook B.tx.noat_Rulebook_kept_default (fun _ => rfl) (fun _ => rfl) (by decide +kernel)))) (fun a Q h => ?_)⟩
  exact h
theorem sc_Rulebook_rules : FnScope ["self", "rule"] ["self"] (defScope s_Rulebook_rules) := ⟨rfl, rfl, rfl, by decide +kernel, rfl, by decide +kernel, by decide +kernel⟩
theorem ok_Rulebook_rules (B : Bd P w K mg base) : FnM P w K mg base (He.ga K "Rulebook") "rules" 3 ["self"] (SpF (K := K) (fs1 (r_Rulebook K)) (rL (rT (fsC rS (fsC (rL (rT (fsC SS.rI (fs1 (rL SS.rI))))) (fsC SS.rI (fsC SS.rI (fsC (rO SS.rI) (fsC (rO SS.rI) (fs1 (rL (rL (rT (fsC SS.rI (fs1 (rL SS.rI))))))))))))))) (fun (a : T_Rulebook) => (fun P => P a.2.2 : W (List (Str × (List (Int × (List Int))) × Int × Int × (Option Int) × (Option Int) × (List (List (Int × (List Int))))))))) := by
  obtain ⟨fd, D⟩ := B.says.def_ 39 (d := d_Rulebook_rules) rfl
  refine ⟨_, fd, B.tx.cls_Rulebook, B.tx.meth_Rulebook_rules, D.bindsN (fun _ _ _ _ _ _ us hl => match us, hl with | [_], _ => rfl), fnok_of (post := fun _ : Unit => ([.off, .off] : List (En K))) D sc_Rulebook_rules rfl (by decide) fsE_1 (fun a => [.fr (r_Rulebook K) a, .off]) (fun _ => rfl) (fun a cdv A outer s H E hr => (b_ret (pr_frz (pr_lc (own := [("rule", 1)]) sc_Rulebook_rules.nd (blkOk_by (own := [("rule", 1)]) (N := ["self", "rule"]) (sc := defScope s_Rulebook_rules) (by decide +kernel)) (pi_listX (pr_fld (ks := ["kept_space", "kept_default", "kept_rules"]) 2 (pr_name (pv 0) rfl) B.tx.cls_Rulebook B.tx.noat_Rulebook_kept_rules (fun _ => rfl) (fun _ => rfl) (by decide +kernel))) (fun _ _ _ _ _ => (pg_nameX (pg_name (i := 1) sc_Rulebook_rules.nd rfl (by first | exact Or.inl rfl | exact Or.inr rfl)))) (fun x68 _ _ _ _ _ => pts_nilX) (fun x68 _ _ _ _ _ => (pr_call (ok_copied_rule B) (hr.mono (by decide)) (pa_oneX (pr_name (pv 1) rfl)))))))) (fun a Q h => ?_)⟩
  refine lcW_map1 (fun p => p) _ (fun p _ C c => c) ?_
  show Q _
  rw [List.map_id']
  exact h
theorem sc_Rulebook_names : FnScope ["self", "rule"] ["self"] (defScope s_Rulebook_names) := ⟨rfl, rfl, rfl, by decide +kernel, rfl, by decide +kernel, by decide +kernel⟩
theorem ok_Rulebook_names (B : Bd P w K mg base) : FnM P w K mg base (He.ga K "Rulebook") "names" 1 ["self"] (SpF (K := K) (fs1 (r_Rulebook K)) (rL rS) (fun (a : T_Rulebook) => (fun P => P (a.2.2.map (·.1)) : W (List Str)))) := by
  obtain ⟨fd, D⟩ := B.says.def_ 40 (d := d_Rulebook_names) rfl
  refine ⟨_, fd, B.tx.cls_Rulebook, B.tx.meth_Rulebook_names, D.bindsN (fun _ _ _ _ _ _ us hl => match us, hl with | [_], _ => rfl), fnok_of (post := fun _ : Unit => ([.off, .off] : List (En K))) D sc_Rulebook_names rfl (by decide) fsE_1 (fun a => [.fr (r_Rulebook K) a, .off]) (fun _ => rfl) (fun a cdv A outer s H E hr => (b_ret (pr_frz (pr_lc (own := [("rule", 1)]) sc_Rulebook_names.nd (blkOk_by (own := [("rule", 1)]) (N := ["self", "rule"]) (sc := defScope s_Rulebook_names) (by decide +kernel)) (pi_listX (pr_fld (ks := ["kept_space", "kept_default", "kept_rules"]) 2 (pr_name (pv 0) rfl) B.tx.cls_Rulebook B.tx.noat_Rulebook_kept_rules (fun _ => rfl) (fun _ => rfl) (by decide +kernel))) (fun _ _ _ _ _ => (pg_nameX (pg_name (i := 1) sc_Rulebook_names.nd rfl (by first | exact Or.inl rfl | exact Or.inr rfl)))) (fun x69 _ _ _ _ _ => pts_nilX) (fun x69 _ _ _ _ _ => (pr_ix ix_tup (r2_ixF (j := 0) fsAt_0) (pr_name (pv 1) rfl) pr_int)))))) (fun a Q h => ?_)⟩
  exact lcW_map1 (fun p : Rule => p.1) _ (fun p _ C c => ⟨rfl, c⟩) (show Q _ from h)
theorem sc_Rulebook_decider : FnScope ["self", "form", "day", "found", "rule"] ["self", "form", "day"] (defScope s_Rulebook_decider) := ⟨rfl, rfl, rfl, by decide +kernel, rfl, by decide +kernel, by decide +kernel⟩
theorem ok_Rulebook_decider (B : Bd P w K mg base) : FnM P w K mg base (He.ga K "Rulebook") "decider" 3 ["self", "form", "day"] (SpF (K := K) (fsC (r_Rulebook K) (fsC (SS.rU SS.rI) (fs1 SS.rI))) (rO (rT (fsC rS (fsC (rL (rT (fsC SS.rI (fs1 (rL SS.rI))))) (fsC SS.rI (fsC SS.rI (fsC (rO SS.rI) (fsC (rO SS.rI) (fs1 (rL (rL (rT (fsC SS.rI (fs1 (rL SS.rI))))))))))))))) (fun (a : T_Rulebook × (List Int) × Int) => (fun P => (∀ r ∈ a.1.2.2, RuleIn a.2.1.length r) ∧ P (dcd a.1.2.2 a.2.1 a.2.2) : W (Option (Str × (List (Int × (List Int))) × Int × Int × (Option Int) × (Option Int) × (List (List (Int × (List Int))))))))) := by
  obtain ⟨fd, D⟩ := B.says.def_ 41 (d := d_Rulebook_decider) rfl
  refine ⟨_, fd, B.tx.cls_Rulebook, B.tx.meth_Rulebook_decider, D.bindsN (fun _ _ _ _ _ _ us hl => match us, hl with | [_, _, _], _ => rfl), fnok_of (post := fun _ : Unit => ([.off, .off, .off, .off, .off] : List (En K))) D sc_Rulebook_decider rfl (by decide) (fsE_C (fsE_C fsE_1)) (fun a => [.fr (r_Rulebook K) a.1, .fr (SS.rU SS.rI) a.2.1, .fr SS.rI a.2.2, .off, .off]) (fun _ => rfl) (fun a cdv A outer s H E hr => (b_asg (i := 3) sc_Rulebook_decider.nd rfl (by first | exact Or.inl rfl | exact Or.inr rfl) (pr_non (R := (rT (fsC rS (fsC (rL (rT (fsC SS.rI (fs1 (rL SS.rI))))) (fsC SS.rI (fsC SS.rI (fsC (rO SS.rI) (fsC (rO SS.rI) (fs1 (rL (rL (rT (fsC SS.rI (fs1 (rL SS.rI)))))))))))))))) (fun x70 => (b_for (fun s71 : (Option (Str × (List (Int × (List Int))) × Int × Int × (Option Int) × (Option Int) × (List (List (Int × (List Int)))))) => [.fr (r_Rulebook K) a.1, .fr (SS.rU SS.rI) a.2.1, .fr SS.rI a.2.2, .fr (rO (rT (fsC rS (fsC (rL (rT (fsC SS.rI (fs1 (rL SS.rI))))) (fsC SS.rI (fsC SS.rI (fsC (rO SS.rI) (fsC (rO SS.rI) (fs1 (rL (rL (rT (fsC SS.rI (fs1 (rL SS.rI))))))))))))))) s71, .off]) x70 (pi_listX (pr_fld (ks := ["kept_space", "kept_default", "kept_rules"]) 2 (pr_name (pv 0) rfl) B.tx.cls_Rulebook B.tx.noat_Rulebook_kept_rules (fun _ => rfl) (fun _ => rfl) (by decide +kernel))) (.same (.same (.same (.same (.same .nil))))) (fun s71 => (pg_nameX (pg_name (i := 4) sc_Rulebook_decider.nd rfl (by first | exact Or.inl rfl | exact Or.inr rfl)))) (fun q72 q72x => (b_if (fun s74 : (Option (Str × (List (Int × (List Int))) × Int × Int × (Option Int) × (Option Int) × (List (List (Int × (List Int)))))) => [.fr (r_Rulebook K) a.1, .fr (SS.rU SS.rI) a.2.1, .fr SS.rI a.2.2, .fr (rO (rT (fsC rS (fsC (rL (rT (fsC SS.rI (fs1 (rL SS.rI))))) (fsC SS.rI (fsC SS.rI (fsC (rO SS.rI) (fsC (rO SS.rI) (fs1 (rL (rL (rT (fsC SS.rI (fs1 (rL SS.rI))))))))))))))) s74, .fr (rT (fsC rS (fsC (rL (rT (fsC SS.rI (fs1 (rL SS.rI))))) (fsC SS.rI (fsC SS.rI (fsC (rO SS.rI) (fsC (rO SS.rI) (fs1 (rL (rL (rT (fsC SS.rI (fs1 (rL SS.rI)))))))))))))) q72x]) (PW.pt (pw_andX (pt_valX (pr_call (ok_speaks B) (hr.mono (by decide)) (pa_consX (pr_name (pv 4) rfl) (pa_consX (pr_name (pv 1) rfl) (pa_oneX (pr_name (pv 2) rfl)))))) (pw_and1X (PW.pt (pw_orX (pt_cmpX op_isN (r2_isN nn_T) (nomark _) (pr_name (pv 3) rfl) pr_nonU) (pw_or1X (pt_valX (pr_call (ok_outranks B) (hr.mono (by decide)) (pa_consX (pr_name (pv 4) rfl) (pa_oneX (pr_get (pr_name (pv 3) rfl)))))))))))) (b_asg (i := 3) sc_Rulebook_decider.nd rfl (by first | exact Or.inl rfl | exact Or.inr rfl) (pr_some (pr_name (pv 4) rfl)) (fun x73 => (b_nil (t := x73) (.same (.same (.same (.same (.same .nil)))))))) (b_nil (t := q72) (.same (.same (.same (.same (.same .nil)))))) (fun s74 => (b_nil (t := s74) (.same (.same (.same (.same (.off .nil rfl))))))) (by intro _ _ h; exact h))) (fun s71 => (b_ret (pr_name (pv 3) rfl))))))) (fun a Q h => ?_)⟩
  obtain ⟨hr, h⟩ := h
  refine forW_inv (fun pre _ st => st = pre.foldl (dstep a.2.1 a.2.2) none) rfl (fun pre x suf st C e hi h1 _ _ _ => ?_) (fun st hst => by subst hst; exact h)
  refine ⟨hr x (by rw [e]; simp), ?_⟩
  have h2 := h1 (dstep a.2.1 a.2.2 st x) (by rw [List.foldl_append, ← hi]; rfl)
  unfold dstep at h2
  dsimp only
  cases hs : spk x a.2.1 a.2.2 with
  | false => rw [hs] at h2; exact h2
  | true =>
    rw [hs] at h2
    cases st with
    | none => exact h2
    | some o =>
      refine ⟨o, rfl, ?_⟩
      cases ho : outr x o with
      | false =>
        have h3 : C (.nx (some o)) := by simpa [ho] using h2
        exact h3
      | true =>
        have h3 : C (.nx (some x)) := by simpa [ho] using h2
        exact h3
theorem sc_Rulebook_deciding : FnScope ["self", "form", "day", "found"] ["self", "form", "day"] (defScope s_Rulebook_deciding) := ⟨rfl, rfl, rfl, by decide +kernel, rfl, by decide +kernel, by decide +kernel⟩
theorem ok_Rulebook_deciding (B : Bd P w K mg base) : FnM P w K mg base (He.ga K "Rulebook") "deciding" 4 ["self", "form", "day"] (SpF (K := K) (fsC (r_Rulebook K) (fsC (SS.rU SS.rI) (fs1 SS.rI))) (rO rS) (fun (a : T_Rulebook × (List Int) × Int) => (fun P => ∃ s ∈ SZ, a.1.1 = spc s ∧ a.2.1 ∈ forms s ∧ (∀ r ∈ a.1.2.2, RuleIn s.length r) ∧ DayOk a.2.2 ∧ P ((dcd a.1.2.2 a.2.1 a.2.2).map (·.1)) : W (Option Str)))) := by
  obtain ⟨fd, D⟩ := B.says.def_ 42 (d := d_Rulebook_deciding) rfl
  refine ⟨_, fd, B.tx.cls_Rulebook, B.tx.meth_Rulebook_deciding, D.bindsN (fun _ _ _ _ _ _ us hl => match us, hl with | [_, _, _], _ => rfl), fnok_of (post := fun _ : Unit => ([.off, .off, .off, .off] : List (En K))) D sc_Rulebook_deciding rfl (by decide) (fsE_C (fsE_C fsE_1)) (fun a => [.fr (r_Rulebook K) a.1, .fr (SS.rU SS.rI) a.2.1, .fr SS.rI a.2.2, .off]) (fun _ => rfl) (fun a cdv A outer s H E hr => (b_expr (pr_call (ok_bound_days B) (hr.mono (by decide)) (pa_oneX (pr_frz (pr_lst (R := (rO SS.rI)) (pa_consR (pr_some (pr_name (pv 2) rfl)) pa_nilR))))) (b_expr (pr_meth (ks := ["kept_sizes", "kept_forms", "kept_steps"]) (ok_Space_need_form B) (hr.mono (by decide)) (pr_fld (ks := ["kept_space", "kept_default", "kept_rules"]) 0 (pr_name (pv 0) rfl) B.tx.cls_Rulebook B.tx.noat_Rulebook_kept_space (fun _ => rfl) (fun _ => rfl) (by decide +kernel)) (fun _ => rfl) (by decide +kernel) (pa_oneX (pr_name (pv 1) rfl))) (b_asg (i := 3) sc_Rulebook_deciding.nd rfl (by first | exact Or.inl rfl | exact Or.inr rfl) (pr_meth (ks := ["kept_space", "kept_default", "kept_rules"]) (ok_Rulebook_decider B) (hr.mono (by decide)) (pr_name (pv 0) rfl) (fun _ => rfl) (by decide +kernel) (pa_consX (pr_name (pv 1) rfl) (pa_oneX (pr_name (pv 2) rfl)))) (fun x75 => (b_ret (pr_if (pt_cmpX op_isN (r2_isN nn_T) (nomark _) (pr_name (pv 3) rfl) pr_nonU) (pr_non (R := rS)) (pr_some (pr_ix ix_tup (r2_ixF (j := 0) fsAt_0) (pr_get (pr_name (pv 3) rfl)) pr_int))))))))) (fun a Q h => ?_)⟩
  obtain ⟨s, hz, e, hf, hr, hd, h⟩ := h
  refine ⟨fun d hd' x ex => ?_, ⟨s, hz, e, hf⟩, fun r hr' => ?_, ?_⟩
  · rw [List.mem_singleton.mp hd'] at ex
    cases ex
    exact hd
  · have hl := forms_len s hz _ hf
    show RuleIn a.2.1.length r
    rw [hl]
    exact hr r hr'
  · dsimp only
    cases ed : dcd a.1.2.2 a.2.1 a.2.2 with
    | none => rw [ed] at h; exact h
    | some r => rw [ed] at h; exact ⟨r, rfl, rfl, h⟩
theorem sc_Rulebook_on_day : FnScope ["self", "day", "dues", "form", "found"] ["self", "day"] (defScope s_Rulebook_on_day) := ⟨rfl, rfl, rfl, by decide +kernel, rfl, by decide +kernel, by decide +kernel⟩
theorem ok_Rulebook_on_day (B : Bd P w K mg base) : FnM P w K mg base (He.ga K "Rulebook") "on_day" 4 ["self", "day"] (SpF (K := K) (fsC (r_Rulebook K) (fs1 SS.rI)) (r_Book K) (fun (a : T_Rulebook × Int) => (fun P => ∃ s, a.1.1 = spc s ∧ BookOk s a.1.2.1 a.1.2.2 ∧ DayOk a.2 ∧ P (spc s, (forms s).map (dueOf a.1.2.2 a.1.2.1 a.2)) : W T_Book))) := by
  obtain ⟨fd, D⟩ := B.says.def_ 43 (d := d_Rulebook_on_day) rfl
  refine ⟨_, fd, B.tx.cls_Rulebook, B.tx.meth_Rulebook_on_day, D.bindsN (fun _ _ _ _ _ _ us hl => match us, hl with | [_, _], _ => rfl), fnok_of (post := fun _ : Unit => ([.off, .off, .off, .off, .off] : List (En K))) D sc_Rulebook_on_day rfl (by decide) (fsE_C fsE_1) (fun a => [.fr (r_Rulebook K) a.1, .fr SS.rI a.2, .off, .off, .off]) (fun _ => rfl) (fun a cdv A outer s H E hr => (b_expr (pr_call (ok_bound_days B) (hr.mono (by decide)) (pa_oneX (pr_frz (pr_lst (R := (rO SS.rI)) (pa_consR (pr_some (pr_name (pv 1) rfl)) pa_nilR))))) (b_asgL (i := 2) sc_Rulebook_on_day.nd rfl (by first | exact Or.inl rfl | exact Or.inr rfl) (pr_lst (R := SS.rI) pa_nilR) (fun q76 q76l => (b_for (fun s77 : (List Int) => [.fr (r_Rulebook K) a.1, .fr SS.rI a.2, .own q76 SS.rI s77, .off, .off]) q76l (pi_listX (pr_meth0 (ks := ["kept_sizes", "kept_forms", "kept_steps"]) (ok_Space_forms B) (hr.mono (by decide)) (pr_fld (ks := ["kept_space", "kept_default", "kept_rules"]) 0 (pr_name (pv 0) rfl) B.tx.cls_Rulebook B.tx.noat_Rulebook_kept_space (fun _ => rfl) (fun _ => rfl) (by decide +kernel)) (fun _ => rfl) (by decide +kernel))) (.same (.same (.same (.same (.same .nil))))) (fun s77 => (pg_nameX (pg_name (i := 3) sc_Rulebook_on_day.nd rfl (by first | exact Or.inl rfl | exact Or.inr rfl)))) (fun q78 q78x => (b_asg (i := 4) sc_Rulebook_on_day.nd rfl (by first | exact Or.inl rfl | exact Or.inr rfl) (pr_meth (ks := ["kept_space", "kept_default", "kept_rules"]) (ok_Rulebook_decider B) (hr.mono (by decide)) (pr_name (pv 0) rfl) (fun _ => rfl) (by decide +kernel) (pa_consX (pr_name (pv 3) rfl) (pa_oneX (pr_name (pv 1) rfl)))) (fun x79 => (b_app (pv 2) rfl (pr_if (pt_cmpX op_isN (r2_isN nn_T) (nomark _) (pr_name (pv 4) rfl) pr_nonU) (pr_fld (ks := ["kept_space", "kept_default", "kept_rules"]) 1 (pr_name (pv 0) rfl) B.tx.cls_Rulebook B.tx.noat_Rulebook_kept_default (fun _ => rfl) (fun _ => rfl) (by decide +kernel)) (pr_ix ix_tup (r2_ixF (j := 2) (fsAt_s (fsAt_s fsAt_0))) (pr_get (pr_name (pv 4) rfl)) pr_int)) (fun x80 => (b_nil (t := (q78 ++ [x80])) (.same (.same (.same (.off (.off .nil rfl) rfl)))))))))) (fun s77 => (b_frz 2 rfl (b_ret (pr_make (ok_Book___init__ B) (hr.mono (by decide)) (pa_consX (pr_fld (ks := ["kept_space", "kept_default", "kept_rules"]) 0 (pr_name (pv 0) rfl) B.tx.cls_Rulebook B.tx.noat_Rulebook_kept_space (fun _ => rfl) (fun _ => rfl) (by decide +kernel)) (pa_oneX (pr_name (pv 2) rfl)))))))))))) (fun a Q h => ?_)⟩
  obtain ⟨s, e, hb, hd, h⟩ := h
  obtain ⟨⟨a1, df, rs⟩, day⟩ := a
  dsimp only at e hb hd h ⊢
  subst e
  refine ⟨fun d hd' x ex => ?_, fun p => ?_⟩
  · rw [List.mem_singleton.mp hd'] at ex
    cases ex
    exact hd
  have hfew := forms_few s hb.sz
  refine forW_inv (fun pre _ st => st = pre.map (dueOf rs df day)) rfl (fun pre x suf st C e hi h1 _ _ _ => ?_) (fun st hst => ?_)
  · have e' : forms s = pre ++ x :: suf := e
    have hx : x ∈ forms s := by rw [e']; simp
    have hlen : pre.length < 81 := by rw [e'] at hfew; simp at hfew; omega
    have hsz : st.length ≤ sizeLine → st.length < sizeLine := fun _ => smallS (by rw [hi, List.length_map]; omega)
    refine ⟨fun r hr => by rw [forms_len s hb.sz x hx]; exact (hb.ok r hr).inn, ?_⟩
    have h2 := h1 (st ++ [dueOf rs df day x]) (by rw [hi]; simp)
    unfold dueOf at h2
    cases ed : dcd rs x day with
    | none => rw [ed] at h2; exact ⟨hsz, h2⟩
    | some r => rw [ed] at h2; exact ⟨r, rfl, rfl, hsz, h2⟩
  · subst hst
    refine ⟨fun d hd' => ?_, by simp [spc], h⟩
    obtain ⟨f, _, ef⟩ := List.mem_map.mp hd'
    subst ef
    unfold dueOf
    rcases dcd_top f day rs hb.ok with ⟨e1, _⟩ | ⟨k, r, e1, e2, _⟩
    · rw [e1]; exact hb.df
    · rw [e1]; exact (hb.ok r (List.mem_of_getElem? e2)).due
theorem sc__law_below : FnScope ["pool", "many", "great", "digit", "small", "cell"] ["pool", "many"] (defScope s__law_below) := ⟨rfl, rfl, rfl, by decide +kernel, rfl, by decide +kernel, by decide +kernel⟩
theorem ok__law_below (B : Bd P w K mg base) : FnG P w K mg base "_law_below" 1 ["pool", "many"] (SpP (K := K) (fs1 SS.rI) SS.rI (fun (a : Int) => (fun P => (0 < a ∧ a < 1000000) ∧ ∀ r, 0 ≤ r → r < a → P r : W Int))) := by
  obtain ⟨fd, D⟩ := B.says.def_ 46 (d := d__law_below) rfl
  refine ⟨_, fd, B.tx.glo__law_below, D.kp, D.bindsN (fun _ _ _ _ _ _ us hl => match us, hl with | [_, _], _ => rfl), fnok_ofP (post := fun p g (_ : Unit) => ([.pool p g, .off, .off, .off, .off, .off] : List (En K))) D sc__law_below rfl (by decide) fsE_1 (fun p g a => [.pool p g, .fr SS.rI a, .off, .off, .off, .off]) (fun _ _ _ => rfl) (fun p g a cdv A outer s H E hr =>
    (b_asg (i := 2) sc__law_below.nd rfl (by first | exact Or.inl rfl | exact Or.inr rfl) (pr_plA (pv 0) rfl) (fun _ =>
    (b_plAug (pv 0) rfl
    (b_plWhile (i := 0) (j := 2) rfl rfl (PW.pt (pw_and (pt_cmpR (op_neP hr.units) (pv 2) (pe_lst pa_nil) (nomark _)) (pw_and1 (pt_cmpR (op_eqP hr.units) (pe_ix ix_list (pv 2) pe_int (fun _ _ => rfl)) pe_int (nomark _)))))
      (pss_one (ps_expr (pe_bm PySem.F.plainAttrs_list PySem.F.slot_list_pop PySem.F.type_list_pop mt_popAt (pv 2) (pa_cons pe_int pa_nil))))
    (b_plIf (i := 0) (jm := 1) (jg := 2) (jd := 3) rfl rfl rfl (by decide) (by decide) (by show 3 < 6; decide) (pt_cmpR (op_neP hr.units) (pv 2) (pe_lst pa_nil) (nomark _))
      (pss_cons (ps_asg (pe_op op_modN (pe_callTy call_int1 (by rfl) B.tx.free_int (by decide +kernel) (pa_cons (pe_ix ix_list (pv 2) pe_int (fun _ _ => rfl)) pa_nil)) (pv 1)) (pg_name (i := 3) sc__law_below.nd rfl (by first | exact Or.inl rfl | exact Or.inr rfl))) (pss_cons (ps_asg (pe_op op_fdivN (pe_ix ix_list (pv 2) pe_int (fun _ _ => rfl)) (pv 1)) (pg_sub (pv 2) pe_int set_list)) (pss_one (ps_ret (pv 3)))))
    (b_asg (i := 4) sc__law_below.nd rfl (by first | exact Or.inl rfl | exact Or.inr rfl) (pr_plB (pv 0) rfl) (fun x4 =>
    (b_asg (i := 5) sc__law_below.nd rfl (by first | exact Or.inl rfl | exact Or.inr rfl) (pr_ix ix_list r2_ixL (pr_name (pv 4) rfl) (pr_op op_modN r2_mod (pr_cty call_int1 rc_int B.tx.free_int (by decide +kernel) (pa_oneX (pr_plC (pv 0) rfl))) (pr_cb call_len_seq rc_len B.tx.free_len (by decide +kernel) (pa_oneX (pr_name (pv 4) rfl))))) (fun x5 =>
    (b_plSet (pv 0) rfl (pr_op op_modN r2_mod (pr_cty call_int1 rc_int B.tx.free_int (by decide +kernel) (pa_oneX (pr_op op_add r2_add (pr_op op_add r2_add (pr_op op_add r2_add (pr_op op_mul r2_mul (pr_plD (pv 0) rfl) pr_int) (pr_op op_mul r2_mul (pr_name (pv 5) rfl) pr_int)) (pr_op op_mul r2_mul (pr_plC (pv 0) rfl) pr_int)) pr_int))) (pr_op op_pow r2_pow pr_int pr_int))
    (b_ret (pr_op op_modN r2_mod (pr_cty call_int1 rc_int B.tx.free_int (by decide +kernel) (pa_oneX (pr_op op_shr r2_shr (pr_plD (pv 0) rfl) pr_int))) (pr_name (pv 1) rfl))))))))))))))
    (fun p g a Q h => ?_)⟩
  obtain ⟨⟨h0, h1⟩, h⟩ := h
  refine ⟨⟨⟨h0, h1⟩, h⟩, fun ns hns => fun x => ?_⟩
  have hl : 0 < ns.length := List.length_pos_iff.mpr hns
  refine fun _ => ⟨by omega, _, atI_of 0 (Int.fmod_nonneg_of_pos _ (by omega)) (Int.fmod_lt_of_pos _ (by omega)), ?_⟩
  refine fun y => ⟨cmulR (by decide) (by decide), cmulR (by decide) (by decide), fun z => ⟨cmulR (by decide) (by decide), cpow_64, by decide, fun u => ⟨by decide, by omega, ?_⟩⟩⟩
  exact h _ (Int.fmod_nonneg_of_pos _ h0) (Int.fmod_lt_of_pos _ h0)
theorem sc__law_sizes : FnScope ["pool", "kind", "k"] ["pool"] (defScope s__law_sizes) := ⟨rfl, rfl, rfl, by decide +kernel, rfl, by decide +kernel, by decide +kernel⟩
theorem ok__law_sizes (B : Bd P w K mg base) : FnG P w K mg base "_law_sizes" 2 ["pool"] (SpP (K := K) fsN (rL SS.rI) (fun (a : Unit) => (fun P => ∀ s ∈ SZ, P s : W (List Int)))) := by
  obtain ⟨fd, D⟩ := B.says.def_ 47 (d := d__law_sizes) rfl
  refine ⟨_, fd, B.tx.glo__law_sizes, D.kp, D.bindsN (fun _ _ _ _ _ _ us hl => match us, hl with | [_], _ => rfl), fnok_ofP (post := fun p g (_ : Unit) => ([.pool p g, .off, .off] : List (En K))) D sc__law_sizes rfl (by decide) fsE_N (fun p g a => [.pool p g, .off, .off]) (fun _ _ _ => rfl) (fun p g a cdv A outer s H E hr => (b_asg (i := 1) sc__law_sizes.nd rfl (by first | exact Or.inl rfl | exact Or.inr rfl) (pr_draw (ok__law_below B) (hr.mono (by decide)) (pv 0) rfl (pa_oneX pr_int)) (fun x81 => (b_ifr (pt_cmpX (op_eqP hr.units) (r2_eq eqI) (nomark _) (pr_name (pv 1) rfl) pr_int) (b_ret (pr_frz (pr_lst (R := SS.rI) (pa_consR pr_int (pa_consR pr_int (pa_consR pr_int (pa_consR pr_int pa_nilR))))))) (b_ret (pr_frz (pr_lc (own := [("k", 2)]) sc__law_sizes.nd (blkOk_by (own := [("k", 2)]) (N := ["pool", "kind", "k"]) (sc := defScope s__law_sizes) (by decide +kernel)) (pi_rng1X B.tx.free_range (pa_oneX (pr_if (pt_cmpX op_lt r2_lt (nomark _) (pr_name (pv 1) rfl) pr_int) pr_int pr_int))) (fun _ _ _ _ _ => (pg_nameX (pg_name (i := 2) sc__law_sizes.nd rfl (by first | exact Or.inl rfl | exact Or.inr rfl)))) (fun x82 _ _ _ _ _ => pts_nilX) (fun x82 _ _ _ _ _ => (pr_op op_add r2_add pr_int (pr_draw (ok__law_below B) (hr.mono (by decide)) (pv 0) rfl (pa_oneX pr_int))))))))))) (fun p g a Q h => ?_)⟩
  refine ⟨by decide, fun r h1 h2 => ?_⟩
  dsimp only
  by_cases h0 : r = 0
  · rw [dT h0]
    exact h _ (by decide)
  rw [dF h0]
  have pick : ∀ z : Int, 0 ≤ z → z < 2 → z = 0 ∨ z = 1 := fun z _ _ => by omega
  by_cases h3 : r < 3
  · rw [dT h3]
    refine ⟨⟨by decide, by decide⟩, ?_⟩
    have e2 : rng 0 (Int.toNat 2) = [0, 1] := by decide
    rw [e2]
    simp only [lcW, ↓reduceIte]
    refine ⟨by decide, fun r1 g1 g2 => ⟨by decide, fun r2 g3 g4 => h _ ?_⟩⟩
    rcases pick r1 g1 g2 with z | z <;> rcases pick r2 g3 g4 with y | y <;> subst z <;> subst y <;> decide
  · rw [dF h3]
    refine ⟨⟨by decide, by decide⟩, ?_⟩
    have e2 : rng 0 (Int.toNat 3) = [0, 1, 2] := by decide
    rw [e2]
    simp only [lcW, ↓reduceIte]
    refine ⟨by decide, fun r1 g1 g2 => ⟨by decide, fun r2 g3 g4 => ⟨by decide, fun r3 g5 g6 => h _ ?_⟩⟩⟩
    rcases pick r1 g1 g2 with z | z <;> rcases pick r2 g3 g4 with y | y <;> rcases pick r3 g5 g6 with x | x <;> subst z <;> subst y <;> subst x <;> decide
theorem sc__law_forms : FnScope ["sizes", "forms", "size", "wider", "form", "value"] ["sizes"] (defScope s__law_forms) := ⟨rfl, rfl, rfl, by decide +kernel, rfl, by decide +kernel, by decide +kernel⟩
theorem ok__law_forms (B : Bd P w K mg base) : FnG P w K mg base "_law_forms" 1 ["sizes"] (SpF (K := K) (fs1 (rL SS.rI)) (rL (SS.rU SS.rI)) (fun (a : (List Int)) => (fun P => a ∈ SZ ∧ P (forms a) : W (List (List Int))))) := by
  obtain ⟨fd, D⟩ := B.says.def_ 48 (d := d__law_forms) rfl
  refine ⟨_, fd, B.tx.glo__law_forms, D.kp, D.bindsN (fun _ _ _ _ _ _ us hl => match us, hl with | [_], _ => rfl), fnok_of (post := fun _ : Unit => ([.off, .off, .off, .off, .off, .off] : List (En K))) D sc__law_forms rfl (by decide) fsE_1 (fun a => [.fr (rL SS.rI) a, .off, .off, .off, .off, .off]) (fun _ => rfl) (fun a cdv A outer s H E hr => (b_asg (i := 1) sc__law_forms.nd rfl (by first | exact Or.inl rfl | exact Or.inr rfl) (pr_frz (pr_lst (R := (SS.rU SS.rI)) (pa_consR (pr_tupU (R := SS.rI) pa_nilR) pa_nilR))) (fun x83 => (b_for (fun s84 : (List (List Int)) => [.fr (rL SS.rI) a, .fr (rL (SS.rU SS.rI)) s84, .off, .off, .off, .off]) x83 (pi_listX (pr_name (pv 0) rfl)) (.same (.same (.same (.same (.same (.same .nil)))))) (fun s84 => (pg_nameX (pg_name (i := 2) sc__law_forms.nd rfl (by first | exact Or.inl rfl | exact Or.inr rfl)))) (fun q85 q85x => (b_asgL (i := 3) sc__law_forms.nd rfl (by first | exact Or.inl rfl | exact Or.inr rfl) (pr_lst (R := (SS.rU SS.rI)) pa_nilR) (fun q86 q86l => (b_for (fun s87 : (List (List Int)) => [.fr (rL SS.rI) a, .fr (rL (SS.rU SS.rI)) q85, .fr SS.rI q85x, .own q86 (SS.rU SS.rI) s87, .off, .off]) q86l (pi_listX (pr_name (pv 1) rfl)) (.same (.same (.same (.same (.same (.same .nil)))))) (fun s87 => (pg_nameX (pg_name (i := 4) sc__law_forms.nd rfl (by first | exact Or.inl rfl | exact Or.inr rfl)))) (fun q88 q88x => (b_ext (pv 3) rfl (pr_lc (own := [("value", 5)]) sc__law_forms.nd (blkOk_by (own := [("value", 5)]) (N := ["sizes", "forms", "size", "wider", "form", "value"]) (sc := defScope s__law_forms) (by decide +kernel)) (pi_rng1X B.tx.free_range (pa_oneX (pr_name (pv 2) rfl))) (fun _ _ _ _ _ => (pg_nameX (pg_name (i := 5) sc__law_forms.nd rfl (by first | exact Or.inl rfl | exact Or.inr rfl)))) (fun x89 _ _ _ _ _ => pts_nilX) (fun x89 _ _ _ _ _ => (pr_op op_catA r2_catU (pr_name (pv 4) rfl) (pr_tupU (R := SS.rI) (pa_consR (pr_name (pv 5) rfl) pa_nilR))))) (fun x90 => (b_nil (t := (q88 ++ x90)) (.same (.same (.same (.same (.off (.same .nil) rfl))))))))) (fun s87 => (b_frz 3 rfl (b_asg (i := 1) sc__law_forms.nd rfl (by first | exact Or.inl rfl | exact Or.inr rfl) (pr_frz (pr_ctyL call_list_of rcl_list B.tx.free_list (by decide +kernel) (pa_oneX (pr_name (pv 3) rfl)))) (fun x91 => (b_nil (t := x91) (.same (.same (.off (.off (.same (.same .nil)) rfl) rfl)))))))))))) (fun s84 => (b_ret (pr_name (pv 1) rfl))))))) (fun a Q h => ?_)⟩
  obtain ⟨hz, h⟩ := h
  refine forW_inv (fun pre suf st => st = forms pre) rfl (fun pre x suf st C e hi h1 _ _ _ => ?_) (fun st e => by subst e; exact h)
  subst hi
  obtain ⟨hx, hl, hf⟩ := sz_split hz e
  refine fun p => forW_inv (fun pre' _ st' => st' = wider pre' x) rfl (fun pre' f suf' st' C' e' hi' h1' _ _ _ => ?_) (fun st' e' => h1 st' (by rw [e', forms_snoc]))
  refine ⟨⟨by omega, by omega⟩, ?_⟩
  refine lcW_map1 (fun v => f ++ [v]) _ (fun v hv C c => ⟨?_, c⟩) ⟨?_, h1' _ ?_⟩
  · have := hf f (by rw [e']; simp)
    exact small (by simp; omega)
  · subst hi'
    have hw := wider_len pre' x (by omega)
    rw [e'] at hl
    simp at hl
    rw [List.length_map, rng_len]
    exact small (by omega)
  · rw [hi']
    unfold wider
    rw [List.flatMap_append]
    simp
theorem sc__law_couples : FnScope ["pool", "sizes", "at_least", "couples", "must", "i", "values", "v"] ["pool", "sizes", "at_least"] (defScope s__law_couples) := ⟨rfl, rfl, rfl, by decide +kernel, rfl, by decide +kernel, by decide +kernel⟩
theorem ok__law_couples (B : Bd P w K mg base) : FnG P w K mg base "_law_couples" 2 ["pool", "sizes", "at_least"] (SpP (K := K) (fsC (rL SS.rI) (fs1 rB)) (rL (rT (fsC SS.rI (fs1 (rL SS.rI))))) (fun (a : (List Int) × Bool) => (fun P => a.1 ∈ SZ ∧ ∀ c, okN a.1 (-1) c = true → (a.2 = true → c ≠ []) → P c : W (List (Int × (List Int)))))) := by
  obtain ⟨fd, D⟩ := B.says.def_ 49 (d := d__law_couples) rfl
  refine ⟨_, fd, B.tx.glo__law_couples, D.kp, D.bindsN (fun _ _ _ _ _ _ us hl => match us, hl with | [_, _, _], _ => rfl), fnok_ofP (post := fun p g (_ : Unit) => ([.pool p g, .off, .off, .off, .off, .off, .off, .off] : List (En K))) D sc__law_couples rfl (by decide) (fsE_C fsE_1) (fun p g a => [.pool p g, .fr (rL SS.rI) a.1, .fr rB a.2, .off, .off, .off, .off, .off]) (fun _ _ _ => rfl) (fun p g a cdv A outer s H E hr => (b_asgL (i := 3) sc__law_couples.nd rfl (by first | exact Or.inl rfl | exact Or.inr rfl) (pr_lst (R := (rT (fsC SS.rI (fs1 (rL SS.rI))))) pa_nilR) (fun q92 q92l => (b_asg (i := 4) sc__law_couples.nd rfl (by first | exact Or.inl rfl | exact Or.inr rfl) (pr_draw (ok__law_below B) (hr.mono (by decide)) (pv 0) rfl (pa_oneX (pr_cb call_len_seq rc_len B.tx.free_len (by decide +kernel) (pa_oneX (pr_name (pv 1) rfl))))) (fun x93 => (b_for (fun s94 : (List (Int × (List Int))) => [.pool p g, .fr (rL SS.rI) a.1, .fr rB a.2, .own q92 (rT (fsC SS.rI (fs1 (rL SS.rI)))) s94, .fr SS.rI x93, .off, .off, .off]) q92l (pi_rng1X B.tx.free_range (pa_oneX (pr_cb call_len_seq rc_len B.tx.free_len (by decide +kernel) (pa_oneX (pr_name (pv 1) rfl))))) (.same (.same (.same (.same (.same (.same (.same (.same .nil)))))))) (fun s94 => (pg_nameX (pg_name (i := 5) sc__law_couples.nd rfl (by first | exact Or.inl rfl | exact Or.inr rfl)))) (fun q95 q95x => (b_if (fun s101 : (List (Int × (List Int))) => [.pool p g, .fr (rL SS.rI) a.1, .fr rB a.2, .own q92 (rT (fsC SS.rI (fs1 (rL SS.rI)))) s101, .fr SS.rI x93, .fr SS.rI q95x, .off, .off]) (PW.pt (pw_orX (PW.pt (pw_andX (pt_valX (pr_name (pv 2) rfl)) (pw_and1X (pt_cmpX (op_eqP hr.units) (r2_eq eqI) (nomark _) (pr_name (pv 5) rfl) (pr_name (pv 4) rfl))))) (pw_or1X (pt_cmpX (op_eqP hr.units) (r2_eq eqI) (nomark _) (pr_draw (ok__law_below B) (hr.mono (by decide)) (pv 0) rfl (pa_oneX pr_int)) pr_int)))) (b_lcT (i := 6) (own := [("v", 7)]) sc__law_couples.nd rfl rfl rfl (by decide +kernel) (blkOk_by (own := [("v", 7)]) (N := ["pool", "sizes", "at_least", "couples", "must", "i", "values", "v"]) (sc := defScope s__law_couples) (by decide +kernel)) (pi_rng1X B.tx.free_range (pa_oneX (pr_ix ix_list r2_ixL (pr_name (pv 1) rfl) (pr_name (pv 5) rfl)))) (fun _ _ _ _ _ => (pg_nameX (pg_name (i := 7) sc__law_couples.nd rfl (by first | exact Or.inl rfl | exact Or.inr rfl)))) (fun x96 _ _ _ _ _ => (pts_oneX (pt_cmpX (op_eqP hr.units) (r2_eq eqI) (nomark _) (pr_draw (ok__law_below B) (hr.mono (by decide)) (pv 0) rfl (pa_oneX pr_int)) pr_int))) (fun x96 _ _ _ _ _ => (pr_name (pv 7) rfl)) (fun q97 q97l => (b_frz 6 rfl (b_if (fun s99 : (List Int) => [.pool p g, .fr (rL SS.rI) a.1, .fr rB a.2, .own q92 (rT (fsC SS.rI (fs1 (rL SS.rI)))) q95, .fr SS.rI x93, .fr SS.rI q95x, .fr (rL SS.rI) s99, .off]) (pt_cmpX (op_eqP hr.units) (r2_eq (eqL eqI)) (nomark _) (pr_name (pv 6) rfl) (pr_frz (pr_lst (R := SS.rI) pa_nilR))) (b_asg (i := 6) sc__law_couples.nd rfl (by first | exact Or.inl rfl | exact Or.inr rfl) (pr_frz (pr_lst (R := SS.rI) (pa_consR (pr_draw (ok__law_below B) (hr.mono (by decide)) (pv 0) rfl (pa_oneX (pr_ix ix_list r2_ixL (pr_name (pv 1) rfl) (pr_name (pv 5) rfl)))) pa_nilR))) (fun x98 => (b_nil (t := x98) (.same (.same (.same (.same (.same (.same (.same (.same .nil))))))))))) (b_nil (t := q97l) (.same (.same (.same (.same (.same (.same (.same (.same .nil))))))))) (fun s99 => (b_app (pv 3) rfl (pr_tup (pa_consX (pr_name (pv 5) rfl) (pa_oneX (pr_name (pv 6) rfl)))) (fun x100 => (b_nil (t := (q95 ++ [x100])) (.same (.same (.same (.same (.same (.same (.off (.same .nil) rfl))))))))))) (by intro _ _ h; exact h))))) (b_nil (t := q95) (.same (.same (.same (.same (.same (.same (.same (.same .nil))))))))) (fun s101 => (b_nil (t := s101) (.same (.same (.same (.same (.same (.off (.same (.same .nil)) rfl)))))))) (by intro _ _ h; exact h))) (fun s94 => (b_frz 3 rfl (b_ret (pr_name (pv 3) rfl)))))))))) (fun p g a Q h => ?_)⟩
  obtain ⟨hz, h⟩ := h
  obtain ⟨s, al⟩ := a
  dsimp only at hz h
  have hs := sz_small s hz
  refine fun p => fun _ => ⟨⟨by show 0 < (s.length : Int); omega, by show (s.length : Int) < _; omega⟩, fun r r1 r2 => fun _ => ⟨⟨by show (s.length : Int) < _; omega, by show _ < (s.length : Int); omega⟩, ?_⟩⟩
  dsimp only at r2 ⊢
  refine forW_inv (fun pre _ st => okN s (-1) st = true ∧ (∀ p ∈ st, p.1 < (pre.length : Int)) ∧ st.length ≤ pre.length ∧ (al = true → r < (pre.length : Int) → st ≠ [])) ⟨rfl, (fun p hp => nomatch hp), Nat.le_refl _, fun _ z => by simp only [List.length_nil] at z; omega⟩ (fun pre x suf st C e hi h1 _ _ _ => ?_) (fun st hst => ?_)
  · obtain ⟨i1, i2, i3, i4⟩ := hi
    obtain ⟨ex, hlt, _⟩ := rng_mem e
    have hlt' : pre.length < s.length := by omega
    have et : x.toNat = pre.length := by omega
    have hv := sz_in s hz (s.getD pre.length 0) (by rw [List.getD_eq_getElem?_getD, List.getElem?_eq_getElem hlt']; exact List.getElem_mem hlt')
    rw [← et] at hv
    have keep : (al = true → r = x → False) → C (.nx st) := fun hne => h1 _ ⟨i1, fun p hp => by have := i2 p hp; simp only [List.length_append, List.length_cons, List.length_nil]; omega, by simp only [List.length_append, List.length_cons, List.length_nil]; omega, fun q1 q2 => by
      simp only [List.length_append, List.length_cons, List.length_nil] at q2
      refine i4 q1 ?_
      have : r ≠ x := fun z => hne q1 z
      omega⟩
    have make := couples_step (s := s) (x := x) (q := st) (C := C) (by omega) (by omega) hv.1 hv.2 (by omega) (fun vs v1 v2 => h1 _ ⟨okN_snoc i1 (fun p hp => by have := i2 p hp; omega) (by omega) (by omega) v1 v2, fun p hp => by
        rcases List.mem_append.mp hp with hp | hp
        · have := i2 p hp; simp only [List.length_append, List.length_cons, List.length_nil]; omega
        · rw [List.mem_singleton.mp hp]; simp only [List.length_append, List.length_cons, List.length_nil]; omega, by simp only [List.length_append, List.length_cons, List.length_nil]; omega, fun _ _ => by simp⟩)
    cases al with
    | true =>
      by_cases hxr : x = r
      · rw [if_pos rfl, dT hxr]
        exact make
      · rw [if_pos rfl, dF hxr]
        refine ⟨by decide, fun r2 _ _ => ?_⟩
        by_cases h0 : r2 = 0
        · rw [dT h0]; exact make
        · rw [dF h0]; exact keep fun _ z => hxr z.symm
    | false =>
      rw [if_neg (by decide)]
      refine ⟨by decide, fun r2 _ _ => ?_⟩
      by_cases h0 : r2 = 0
      · rw [dT h0]; exact make
      · rw [dF h0]; exact keep fun z => nomatch z
  · obtain ⟨i1, _, _, i4⟩ := hst
    exact h st i1 fun q => i4 q (by rw [rng_len]; omega)
theorem sc__law_rule : FnScope ["pool", "sizes", "name", "due", "first", "last", "kind", "days", "unless", "k"] ["pool", "sizes", "name"] (defScope s__law_rule) := ⟨rfl, rfl, rfl, by decide +kernel, rfl, by decide +kernel, by decide +kernel⟩
theorem ok__law_rule (B : Bd P w K mg base) : FnG P w K mg base "_law_rule" 3 ["pool", "sizes", "name"] (SpP (K := K) (fsC (rL SS.rI) (fs1 rS)) (rT (fsC rS (fsC (rL (rT (fsC SS.rI (fs1 (rL SS.rI))))) (fsC SS.rI (fsC SS.rI (fsC (rO SS.rI) (fsC (rO SS.rI) (fs1 (rL (rL (rT (fsC SS.rI (fs1 (rL SS.rI)))))))))))))) (fun (a : (List Int) × Str) => (fun P => a.1 ∈ SZ ∧ NameOk a.2 ∧ ∀ r, RuleOk a.1 r → r.1 = a.2 → P r : W (Str × (List (Int × (List Int))) × Int × Int × (Option Int) × (Option Int) × (List (List (Int × (List Int)))))))) := by
  obtain ⟨fd, D⟩ := B.says.def_ 50 (d := d__law_rule) rfl
  refine ⟨_, fd, B.tx.glo__law_rule, D.kp, D.bindsN (fun _ _ _ _ _ _ us hl => match us, hl with | [_, _, _], _ => rfl), fnok_ofP (post := fun p g (_ : Unit) => ([.pool p g, .off, .off, .off, .off, .off, .off, .off, .off, .off] : List (En K))) D sc__law_rule rfl (by decide) (fsE_C fsE_1) (fun p g a => [.pool p g, .fr (rL SS.rI) a.1, .fr rS a.2, .off, .off, .off, .off, .off, .off, .off]) (fun _ _ _ => rfl) (fun p g a cdv A outer s H E hr => (b_asg (i := 3) sc__law_rule.nd rfl (by first | exact Or.inl rfl | exact Or.inr rfl) (pr_draw (ok__law_below B) (hr.mono (by decide)) (pv 0) rfl (pa_oneX pr_int)) (fun x102 => (b_if (fun s104 : Int => [.pool p g, .fr (rL SS.rI) a.1, .fr rS a.2, .fr SS.rI s104, .off, .off, .off, .off, .off, .off]) (pt_cmpX (op_eqP hr.units) (r2_eq eqI) (nomark _) (pr_draw (ok__law_below B) (hr.mono (by decide)) (pv 0) rfl (pa_oneX pr_int)) pr_int) (b_asg (i := 3) sc__law_rule.nd rfl (by first | exact Or.inl rfl | exact Or.inr rfl) (pr_op op_mul r2_mul (pr_op op_sub r2_sub pr_int (pr_op op_mul r2_mul pr_int (pr_draw (ok__law_below B) (hr.mono (by decide)) (pv 0) rfl (pa_oneX pr_int)))) (pr_op op_sub r2_sub (pr_op op_pow r2_pow pr_int pr_int) (pr_draw (ok__law_below B) (hr.mono (by decide)) (pv 0) rfl (pa_oneX pr_int)))) (fun x103 => (b_nil (t := x103) (.same (.same (.same (.same (.same (.same (.same (.same (.same (.same .nil))))))))))))) (b_nil (t := x102) (.same (.same (.same (.same (.same (.same (.same (.same (.same (.same .nil))))))))))) (fun s104 => (b_asg (i := 4) sc__law_rule.nd rfl (by first | exact Or.inl rfl | exact Or.inr rfl) (pr_draw (ok__law_below B) (hr.mono (by decide)) (pv 0) rfl (pa_oneX pr_int)) (fun x105 => (b_asg (i := 5) sc__law_rule.nd rfl (by first | exact Or.inl rfl | exact Or.inr rfl) (pr_op op_add r2_add (pr_name (pv 4) rfl) (pr_draw (ok__law_below B) (hr.mono (by decide)) (pv 0) rfl (pa_oneX pr_int))) (fun x106 => (b_asg (i := 6) sc__law_rule.nd rfl (by first | exact Or.inl rfl | exact Or.inr rfl) (pr_draw (ok__law_below B) (hr.mono (by decide)) (pv 0) rfl (pa_oneX pr_int)) (fun x107 => (b_asg (i := 7) sc__law_rule.nd rfl (by first | exact Or.inl rfl | exact Or.inr rfl) (pr_ix ix_list r2_ixL (pr_frz (pr_lst (R := (rT (fsC (rO SS.rI) (fs1 (rO SS.rI))))) (pa_consR (pr_tup (pa_consX (pr_some (pr_name (pv 4) rfl)) (pa_oneX (pr_some (pr_name (pv 5) rfl))))) (pa_consR (pr_tup (pa_consX (pr_some (pr_name (pv 4) rfl)) (pa_oneX (pr_some (pr_name (pv 5) rfl))))) (pa_consR (pr_tup (pa_consX (pr_some (pr_name (pv 4) rfl)) (pa_oneX (pr_non (R := SS.rI))))) (pa_consR (pr_tup (pa_consX (pr_non (R := SS.rI)) (pa_oneX (pr_some (pr_name (pv 5) rfl))))) (pa_consR (pr_tup (pa_consX (pr_non (R := SS.rI)) (pa_oneX (pr_non (R := SS.rI))))) (pa_consR (pr_tup (pa_consX (pr_non (R := SS.rI)) (pa_oneX (pr_non (R := SS.rI))))) pa_nilR)))))))) (pr_name (pv 6) rfl)) (fun x108 => (b_lcT (i := 8) (own := [("k", 9)]) sc__law_rule.nd rfl rfl rfl (by decide +kernel) (blkOk_by (own := [("k", 9)]) (N := ["pool", "sizes", "name", "due", "first", "last", "kind", "days", "unless", "k"]) (sc := defScope s__law_rule) (by decide +kernel)) (pi_rng1X B.tx.free_range (pa_oneX (pr_draw (ok__law_below B) (hr.mono (by decide)) (pv 0) rfl (pa_oneX pr_int)))) (fun _ _ _ _ _ => (pg_nameX (pg_name (i := 9) sc__law_rule.nd rfl (by first | exact Or.inl rfl | exact Or.inr rfl)))) (fun x109 _ _ _ _ _ => pts_nilX) (fun x109 _ _ _ _ _ => (pr_draw (ok__law_couples B) (hr.mono (by decide)) (pv 0) rfl (pa_consX (pr_name (pv 1) rfl) (pa_oneX pr_bl)))) (fun q110 q110l => (b_frz 8 rfl (b_ret (pr_tup (pa_consX (pr_name (pv 2) rfl) (pa_consX (pr_draw (ok__law_couples B) (hr.mono (by decide)) (pv 0) rfl (pa_consX (pr_name (pv 1) rfl) (pa_oneX pr_bl))) (pa_consX (pr_name (pv 3) rfl) (pa_consX (pr_op op_sub r2_sub (pr_draw (ok__law_below B) (hr.mono (by decide)) (pv 0) rfl (pa_oneX pr_int)) pr_int) (pa_consX (pr_ix ix_tup (r2_ixF (j := 0) fsAt_0) (pr_name (pv 7) rfl) pr_int) (pa_consX (pr_ix ix_tup (r2_ixF (j := 1) (fsAt_s fsAt_1)) (pr_name (pv 7) rfl) pr_int) (pa_oneX (pr_name (pv 8) rfl)))))))))))))))))))))) (by intro _ _ h; exact h))))) (fun p g a Q h => ?_)⟩
  obtain ⟨hz, hn, h⟩ := h
  obtain ⟨s, nm⟩ := a
  dsimp only at hz hn h
  refine ⟨by decide, fun r g1 g2 => ⟨by decide, fun r1 g3 g4 => ?_⟩⟩
  by_cases h0 : r1 = 0
  · dsimp only
    rw [dT h0, if_pos rfl]
    refine ⟨by decide, fun b b1 b2 => ⟨cmulL (by decide) (by decide), cpow_9, by decide, fun r2 b3 b4 => ⟨cmulL (by omega) (by omega), ?_⟩⟩⟩
    have e9 : (10 : Int) ^ Int.toNat 9 = 1000000000 := by decide
    have hbig : Big ((1 - 2 * b) * (10 ^ Int.toNat 9 - r2)) := by
      rw [e9]
      rcases (show b = 0 ∨ b = 1 by omega) with z | z <;> subst z <;> exact ⟨by omega, by omega⟩
    generalize (1 - 2 * b) * (10 ^ Int.toNat 9 - r2) = due at hbig
    dsimp only [onx]
    refine ⟨by decide, fun f f1 f2 => ⟨by decide, fun l l1 l2 => ⟨by decide, fun k k1 k2 => ?_⟩⟩⟩
    obtain ⟨y, ey, y1, y2, y3⟩ := ends_pick f l k f1 f2 l1 l2 k1 k2
    refine ⟨y, ey, by decide, fun u u1 u2 => ⟨⟨by omega, by omega⟩, ?_⟩⟩
    refine lcW_all1 (fun _ c => c ≠ [] ∧ okN s (-1) c = true) _ _ (fun x _ C c => ⟨hz, fun z z1 z2 => c z ⟨z2 rfl, z1⟩⟩) (fun ys hys p => ⟨hz, fun c hc _ => ⟨by decide, fun rk rk1 rk2 => ⟨rfl, rfl, ?_⟩⟩⟩)
    have hyl := paired_len hys
    rw [rng_len] at hyl
    exact h _ ⟨hn, hc, hbig, ⟨by dsimp only; omega, by dsimp only; omega⟩, y1, y2, y3, by dsimp only; omega, fun w hw => by
      obtain ⟨j, hj⟩ := List.getElem?_of_mem hw
      obtain ⟨_, _, q⟩ := paired_get hys hj
      exact q⟩ rfl
  · dsimp only
    rw [dF h0, if_neg (by decide)]
    have hbig : Big r := ⟨by omega, by omega⟩
    dsimp only [onx]
    refine ⟨by decide, fun f f1 f2 => ⟨by decide, fun l l1 l2 => ⟨by decide, fun k k1 k2 => ?_⟩⟩⟩
    obtain ⟨y, ey, y1, y2, y3⟩ := ends_pick f l k f1 f2 l1 l2 k1 k2
    refine ⟨y, ey, by decide, fun u u1 u2 => ⟨⟨by omega, by omega⟩, ?_⟩⟩
    refine lcW_all1 (fun _ c => c ≠ [] ∧ okN s (-1) c = true) _ _ (fun x _ C c => ⟨hz, fun z z1 z2 => c z ⟨z2 rfl, z1⟩⟩) (fun ys hys p => ⟨hz, fun c hc _ => ⟨by decide, fun rk rk1 rk2 => ⟨rfl, rfl, ?_⟩⟩⟩)
    have hyl := paired_len hys
    rw [rng_len] at hyl
    exact h _ ⟨hn, hc, hbig, ⟨by dsimp only; omega, by dsimp only; omega⟩, y1, y2, y3, by dsimp only; omega, fun w hw => by
      obtain ⟨j, hj⟩ := List.getElem?_of_mem hw
      obtain ⟨_, _, q⟩ := paired_get hys hj
      exact q⟩ rfl
theorem sc__law_copied_rule : FnScope ["rule", "unless", "one", "i", "values"] ["rule"] (defScope s__law_copied_rule) := ⟨rfl, rfl, rfl, by decide +kernel, rfl, by decide +kernel, by decide +kernel⟩
theorem ok__law_copied_rule (B : Bd P w K mg base) : FnG P w K mg base "_law_copied_rule" 1 ["rule"] (SpF (K := K) (fs1 (rT (fsC rS (fsC (rL (rT (fsC SS.rI (fs1 (rL SS.rI))))) (fsC SS.rI (fsC SS.rI (fsC (rO SS.rI) (fsC (rO SS.rI) (fs1 (rL (rL (rT (fsC SS.rI (fs1 (rL SS.rI))))))))))))))) (rT (fsC rS (fsC (rL (rT (fsC SS.rI (fs1 (rL SS.rI))))) (fsC SS.rI (fsC SS.rI (fsC (rO SS.rI) (fsC (rO SS.rI) (fs1 (rL (rL (rT (fsC SS.rI (fs1 (rL SS.rI)))))))))))))) (fun (a : (Str × (List (Int × (List Int))) × Int × Int × (Option Int) × (Option Int) × (List (List (Int × (List Int)))))) => (fun P => (∃ s, RuleOk s a) ∧ P a : W (Str × (List (Int × (List Int))) × Int × Int × (Option Int) × (Option Int) × (List (List (Int × (List Int)))))))) := by
  obtain ⟨fd, D⟩ := B.says.def_ 51 (d := d__law_copied_rule) rfl
  refine ⟨_, fd, B.tx.glo__law_copied_rule, D.kp, D.bindsN (fun _ _ _ _ _ _ us hl => match us, hl with | [_], _ => rfl), fnok_of (post := fun _ : Unit => ([.off, .off, .off, .off, .off] : List (En K))) D sc__law_copied_rule rfl (by decide) fsE_1 (fun a => [.fr (rT (fsC rS (fsC (rL (rT (fsC SS.rI (fs1 (rL SS.rI))))) (fsC SS.rI (fsC SS.rI (fsC (rO SS.rI) (fsC (rO SS.rI) (fs1 (rL (rL (rT (fsC SS.rI (fs1 (rL SS.rI)))))))))))))) a, .off, .off, .off, .off]) (fun _ => rfl) (fun a cdv A outer s H E hr => (b_asgL (i := 1) sc__law_copied_rule.nd rfl (by first | exact Or.inl rfl | exact Or.inr rfl) (pr_lst (R := (rL (rT (fsC SS.rI (fs1 (rL SS.rI)))))) pa_nilR) (fun q111 q111l => (b_for (fun s112 : (List (List (Int × (List Int)))) => [.fr (rT (fsC rS (fsC (rL (rT (fsC SS.rI (fs1 (rL SS.rI))))) (fsC SS.rI (fsC SS.rI (fsC (rO SS.rI) (fsC (rO SS.rI) (fs1 (rL (rL (rT (fsC SS.rI (fs1 (rL SS.rI)))))))))))))) a, .own q111 (rL (rT (fsC SS.rI (fs1 (rL SS.rI))))) s112, .off, .off, .off]) q111l (pi_listX (pr_ix ix_tup (r2_ixF (j := 6) (fsAt_s (fsAt_s (fsAt_s (fsAt_s (fsAt_s (fsAt_s fsAt_1))))))) (pr_name (pv 0) rfl) pr_int)) (.same (.same (.same (.same (.same .nil))))) (fun s112 => (pg_nameX (pg_name (i := 2) sc__law_copied_rule.nd rfl (by first | exact Or.inl rfl | exact Or.inr rfl)))) (fun q113 q113x => (b_app (pv 1) rfl (pr_frz (pr_lc (own := [("i", 3), ("values", 4)]) sc__law_copied_rule.nd (blkOk_by (own := [("i", 3), ("values", 4)]) (N := ["rule", "unless", "one", "i", "values"]) (sc := defScope s__law_copied_rule) (by decide +kernel)) (pi_listX (pr_name (pv 2) rfl)) (fun _ _ _ _ _ => (pg_tupX (pgs_consX (pg_name (i := 3) sc__law_copied_rule.nd rfl (by first | exact Or.inl rfl | exact Or.inr rfl)) (fun _ => (pgs_oneX (pg_name (i := 4) sc__law_copied_rule.nd rfl (by first | exact Or.inl rfl | exact Or.inr rfl))))))) (fun x114 _ _ _ _ _ => pts_nilX) (fun x114 _ _ _ _ _ => (pr_tup (pa_consX (pr_name (pv 3) rfl) (pa_oneX (pr_frz (pr_ctyL call_list_of rcl_list B.tx.free_list (by decide +kernel) (pa_oneX (pr_name (pv 4) rfl)))))))))) (fun x115 => (b_nil (t := (q113 ++ [x115])) (.same (.same (.off (.same (.same .nil)) rfl))))))) (fun s112 => (b_frz 1 rfl (b_ret (pr_tup (pa_consX (pr_ix ix_tup (r2_ixF (j := 0) fsAt_0) (pr_name (pv 0) rfl) pr_int) (pa_consX (pr_frz (pr_lc (own := [("i", 3), ("values", 4)]) sc__law_copied_rule.nd (blkOk_by (own := [("i", 3), ("values", 4)]) (N := ["rule", "unless", "one", "i", "values"]) (sc := defScope s__law_copied_rule) (by decide +kernel)) (pi_listX (pr_ix ix_tup (r2_ixF (j := 1) (fsAt_s fsAt_0)) (pr_name (pv 0) rfl) pr_int)) (fun _ _ _ _ _ => (pg_tupX (pgs_consX (pg_name (i := 3) sc__law_copied_rule.nd rfl (by first | exact Or.inl rfl | exact Or.inr rfl)) (fun _ => (pgs_oneX (pg_name (i := 4) sc__law_copied_rule.nd rfl (by first | exact Or.inl rfl | exact Or.inr rfl))))))) (fun x116 _ _ _ _ _ => pts_nilX) (fun x116 _ _ _ _ _ => (pr_tup (pa_consX (pr_name (pv 3) rfl) (pa_oneX (pr_frz (pr_ctyL call_list_of rcl_list B.tx.free_list (by decide +kernel) (pa_oneX (pr_name (pv 4) rfl)))))))))) (pa_consX (pr_ix ix_tup (r2_ixF (j := 2) (fsAt_s (fsAt_s fsAt_0))) (pr_name (pv 0) rfl) pr_int) (pa_consX (pr_ix ix_tup (r2_ixF (j := 3) (fsAt_s (fsAt_s (fsAt_s fsAt_0)))) (pr_name (pv 0) rfl) pr_int) (pa_consX (pr_ix ix_tup (r2_ixF (j := 4) (fsAt_s (fsAt_s (fsAt_s (fsAt_s fsAt_0))))) (pr_name (pv 0) rfl) pr_int) (pa_consX (pr_ix ix_tup (r2_ixF (j := 5) (fsAt_s (fsAt_s (fsAt_s (fsAt_s (fsAt_s fsAt_0)))))) (pr_name (pv 0) rfl) pr_int) (pa_oneX (pr_name (pv 1) rfl)))))))))))))))) (fun a Q h => ?_)⟩
  obtain ⟨⟨s, hk⟩, h⟩ := h
  refine fun p => ⟨rfl, ?_⟩
  refine forW_inv (fun pre _ st => st = pre) rfl (fun pre x suf st C e hi h1 _ _ _ => ?_) (fun st hst => ?_)
  · subst hi
    refine lcW_map1 (fun p => p) _ (fun p _ C c => c) ⟨fun _ => ?_, h1 _ ?_⟩
    · have := hk.few
      rw [e] at this
      simp at this
      exact smallS (by omega)
    · rw [List.map_id']
  · subst hst
    refine ⟨rfl, rfl, lcW_map1 (fun p => p) _ (fun p _ C c => c) ⟨rfl, rfl, rfl, rfl, ?_⟩⟩
    rw [List.map_id']
    exact h
theorem sc__law_met : FnScope ["form", "couples", "i", "values"] ["form", "couples"] (defScope s__law_met) := ⟨rfl, rfl, rfl, by decide +kernel, rfl, by decide +kernel, by decide +kernel⟩
theorem ok__law_met (B : Bd P w K mg base) : FnG P w K mg base "_law_met" 1 ["form", "couples"] (SpF (K := K) (fsC (SS.rU SS.rI) (fs1 (rL (rT (fsC SS.rI (fs1 (rL SS.rI))))))) rB (fun (a : (List Int) × (List (Int × (List Int)))) => (fun P => InR a.1.length a.2 ∧ P (met a.1 a.2) : W Bool))) := by
  obtain ⟨fd, D⟩ := B.says.def_ 52 (d := d__law_met) rfl
  refine ⟨_, fd, B.tx.glo__law_met, D.kp, D.bindsN (fun _ _ _ _ _ _ us hl => match us, hl with | [_, _], _ => rfl), fnok_of (post := fun _ : Unit => ([.off, .off, .off, .off] : List (En K))) D sc__law_met rfl (by decide) (fsE_C fsE_1) (fun a => [.fr (SS.rU SS.rI) a.1, .fr (rL (rT (fsC SS.rI (fs1 (rL SS.rI))))) a.2, .off, .off]) (fun _ => rfl) (fun a cdv A outer s H E hr => (b_ret (pr_cb (cr_all rfl) rc_all B.tx.free_all (by decide +kernel) (pa_oneX (pr_frz (pr_lc (own := [("i", 2), ("values", 3)]) sc__law_met.nd (blkOk_by (own := [("i", 2), ("values", 3)]) (N := ["form", "couples", "i", "values"]) (sc := defScope s__law_met) (by decide +kernel)) (pi_listX (pr_name (pv 1) rfl)) (fun _ _ _ _ _ => (pg_tupX (pgs_consX (pg_name (i := 2) sc__law_met.nd rfl (by first | exact Or.inl rfl | exact Or.inr rfl)) (fun _ => (pgs_oneX (pg_name (i := 3) sc__law_met.nd rfl (by first | exact Or.inl rfl | exact Or.inr rfl))))))) (fun x117 _ _ _ _ _ => pts_nilX) (fun x117 _ _ _ _ _ => (pr_cmp op_in_seq (r2_inL flat_I) (by rfl) (pr_ix ix_tup r2_ixU (pr_name (pv 0) rfl) (pr_name (pv 2) rfl)) (pr_name (pv 3) rfl))))))))) (fun a Q h => ?_)⟩
  obtain ⟨hi, h⟩ := h
  refine lcW_map1 (fun p => decide (a.1.getD p.1.toNat 0 ∈ p.2)) _ (fun p hp C c => ⟨_, atI_of 0 (hi p hp).1 (hi p hp).2, c⟩) ?_
  show Q _
  have : (a.2.map fun p => decide (a.1.getD p.1.toNat 0 ∈ p.2)).all id = met a.1 a.2 := by
    rw [List.all_map]; rfl
  rw [this]
  exact h
theorem sc__law_speaks : FnScope ["rule", "form", "day", "one"] ["rule", "form", "day"] (defScope s__law_speaks) := ⟨rfl, rfl, rfl, by decide +kernel, rfl, by decide +kernel, by decide +kernel⟩
theorem ok__law_speaks (B : Bd P w K mg base) : FnG P w K mg base "_law_speaks" 2 ["rule", "form", "day"] (SpF (K := K) (fsC (rT (fsC rS (fsC (rL (rT (fsC SS.rI (fs1 (rL SS.rI))))) (fsC SS.rI (fsC SS.rI (fsC (rO SS.rI) (fsC (rO SS.rI) (fs1 (rL (rL (rT (fsC SS.rI (fs1 (rL SS.rI)))))))))))))) (fsC (SS.rU SS.rI) (fs1 SS.rI))) rB (fun (a : (Str × (List (Int × (List Int))) × Int × Int × (Option Int) × (Option Int) × (List (List (Int × (List Int))))) × (List Int) × Int) => (fun P => RuleIn a.2.1.length a.1 ∧ P (spk a.1 a.2.1 a.2.2) : W Bool))) := by
  obtain ⟨fd, D⟩ := B.says.def_ 53 (d := d__law_speaks) rfl
  refine ⟨_, fd, B.tx.glo__law_speaks, D.kp, D.bindsN (fun _ _ _ _ _ _ us hl => match us, hl with | [_, _, _], _ => rfl), fnok_of (post := fun _ : Unit => ([.off, .off, .off, .off] : List (En K))) D sc__law_speaks rfl (by decide) (fsE_C (fsE_C fsE_1)) (fun a => [.fr (rT (fsC rS (fsC (rL (rT (fsC SS.rI (fs1 (rL SS.rI))))) (fsC SS.rI (fsC SS.rI (fsC (rO SS.rI) (fsC (rO SS.rI) (fs1 (rL (rL (rT (fsC SS.rI (fs1 (rL SS.rI)))))))))))))) a.1, .fr (SS.rU SS.rI) a.2.1, .fr SS.rI a.2.2, .off]) (fun _ => rfl) (fun a cdv A outer s H E hr => (b_ifr (PW.pt (pw_andX (pt_cmpX op_notN (r2_notN nn_I) (nomark _) (pr_ix ix_tup (r2_ixF (j := 4) (fsAt_s (fsAt_s (fsAt_s (fsAt_s fsAt_0))))) (pr_name (pv 0) rfl) pr_int) pr_nonU) (pw_and1X (pt_cmpX op_lt r2_lt (nomark _) (pr_name (pv 2) rfl) (pr_get (pr_ix ix_tup (r2_ixF (j := 4) (fsAt_s (fsAt_s (fsAt_s (fsAt_s fsAt_0))))) (pr_name (pv 0) rfl) pr_int)))))) (b_ret pr_bl) (b_ifr (PW.pt (pw_andX (pt_cmpX op_notN (r2_notN nn_I) (nomark _) (pr_ix ix_tup (r2_ixF (j := 5) (fsAt_s (fsAt_s (fsAt_s (fsAt_s (fsAt_s fsAt_0)))))) (pr_name (pv 0) rfl) pr_int) pr_nonU) (pw_and1X (pt_cmpX op_gt r2_gt (nomark _) (pr_name (pv 2) rfl) (pr_get (pr_ix ix_tup (r2_ixF (j := 5) (fsAt_s (fsAt_s (fsAt_s (fsAt_s (fsAt_s fsAt_0)))))) (pr_name (pv 0) rfl) pr_int)))))) (b_ret pr_bl) (b_ret (pr_andV (pr_call (ok__law_met B) (hr.mono (by decide)) (pa_consX (pr_name (pv 1) rfl) (pa_oneX (pr_ix ix_tup (r2_ixF (j := 1) (fsAt_s fsAt_0)) (pr_name (pv 0) rfl) pr_int)))) (pr_oneV (pr_notV (pr_cb (cr_any rfl) rc_any B.tx.free_any (by decide +kernel) (pa_oneX (pr_frz (pr_lc (own := [("one", 3)]) sc__law_speaks.nd (blkOk_by (own := [("one", 3)]) (N := ["rule", "form", "day", "one"]) (sc := defScope s__law_speaks) (by decide +kernel)) (pi_listX (pr_ix ix_tup (r2_ixF (j := 6) (fsAt_s (fsAt_s (fsAt_s (fsAt_s (fsAt_s (fsAt_s fsAt_1))))))) (pr_name (pv 0) rfl) pr_int)) (fun _ _ _ _ _ => (pg_nameX (pg_name (i := 3) sc__law_speaks.nd rfl (by first | exact Or.inl rfl | exact Or.inr rfl)))) (fun x118 _ _ _ _ _ => pts_nilX) (fun x118 _ _ _ _ _ => (pr_call (ok__law_met B) (hr.mono (by decide)) (pa_consX (pr_name (pv 1) rfl) (pa_oneX (pr_name (pv 3) rfl)))))))))))))))) (fun a Q h => ?_)⟩
  obtain ⟨⟨hi, hu⟩, h⟩ := h
  have sp : spk a.1 a.2.1 a.2.2 = ((match a.1.2.2.2.2.1 with | none => true | some x => decide (x ≤ a.2.2)) && (match a.1.2.2.2.2.2.1 with | none => true | some b => decide (a.2.2 ≤ b)) && met a.2.1 a.1.2.1 && !(a.1.2.2.2.2.2.2.any fun u => met a.2.1 u)) := rfl
  have rest : (∀ b : Bool, b = met a.2.1 a.1.2.1 → spk a.1 a.2.1 a.2.2 = (b && !(a.1.2.2.2.2.2.2.any fun u => met a.2.1 u))) →
    InR a.2.1.length a.1.2.1 ∧ if met a.2.1 a.1.2.1 = true then (6 : Int) = ((6 : Nat) : Int) ∧ lcW a.1.2.2.2.2.2.2 (fun _ P => P true) (fun x P => InR a.2.1.length x ∧ P (met a.2.1 x)) (fun x => Q (!x.any id)) else Q false := fun e1 => by
    refine ⟨hi, ?_⟩
    have e1' := e1 _ rfl
    cases em : met a.2.1 a.1.2.1 with
    | false => rw [em, Bool.false_and] at e1'; rw [e1'] at h; exact h
    | true =>
      refine ⟨rfl, lcW_map1 (fun u => met a.2.1 u) _ (fun u hu' C c => ⟨hu u hu', c⟩) ?_⟩
      rw [em, Bool.true_and] at e1'
      rw [List.any_map]
      rw [e1'] at h
      exact h
  refine ⟨rfl, ?_⟩
  dsimp only
  cases e1 : a.1.2.2.2.2.1 with
  | none =>
    refine ⟨rfl, ?_⟩
    cases e2 : a.1.2.2.2.2.2.1 with
    | none =>
      rw [e1, e2] at sp
      exact ⟨rfl, rest (fun b hb => by rw [sp, ← hb]; simp)⟩
    | some y =>
      refine ⟨rfl, y, rfl, ?_⟩
      rw [e1, e2] at sp
      dsimp only at sp
      by_cases hy : y < a.2.2
      · rw [dT hy]
        rw [dF (show ¬ a.2.2 ≤ y by omega)] at sp
        rw [sp] at h
        exact h
      · rw [dF hy]
        rw [dT (show a.2.2 ≤ y by omega)] at sp
        exact ⟨rfl, rest (fun b hb => by rw [sp, ← hb]; simp)⟩
  | some x =>
    refine ⟨rfl, x, rfl, ?_⟩
    by_cases hx : a.2.2 < x
    · rw [dT hx]
      rw [e1] at sp
      dsimp only at sp
      rw [dF (show ¬ x ≤ a.2.2 by omega)] at sp
      rw [sp] at h
      exact h
    · rw [dF hx]
      refine ⟨rfl, ?_⟩
      cases e2 : a.1.2.2.2.2.2.1 with
      | none =>
        rw [e1, e2] at sp
        dsimp only at sp
        rw [dT (show x ≤ a.2.2 by omega)] at sp
        exact ⟨rfl, rest (fun b hb => by rw [sp, ← hb]; simp)⟩
      | some y =>
        refine ⟨rfl, y, rfl, ?_⟩
        rw [e1, e2] at sp
        dsimp only at sp
        by_cases hy : y < a.2.2
        · rw [dT hy]
          rw [dF (show ¬ a.2.2 ≤ y by omega), Bool.and_false] at sp
          rw [sp] at h
          exact h
        · rw [dF hy]
          rw [dT (show a.2.2 ≤ y by omega), dT (show x ≤ a.2.2 by omega)] at sp
          exact ⟨rfl, rest (fun b hb => by rw [sp, ← hb]; simp)⟩
theorem sc__law_decides : FnScope ["rules", "form", "day", "ready", "k"] ["rules", "form", "day"] (defScope s__law_decides) := ⟨rfl, rfl, rfl, by decide +kernel, rfl, by decide +kernel, by decide +kernel⟩
theorem ok__law_decides (B : Bd P w K mg base) : FnG P w K mg base "_law_decides" 3 ["rules", "form", "day"] (SpF (K := K) (fsC (rL (rT (fsC rS (fsC (rL (rT (fsC SS.rI (fs1 (rL SS.rI))))) (fsC SS.rI (fsC SS.rI (fsC (rO SS.rI) (fsC (rO SS.rI) (fs1 (rL (rL (rT (fsC SS.rI (fs1 (rL SS.rI))))))))))))))) (fsC (SS.rU SS.rI) (fs1 SS.rI))) (rO SS.rI) (fun (a : (List (Str × (List (Int × (List Int))) × Int × Int × (Option Int) × (Option Int) × (List (List (Int × (List Int)))))) × (List Int) × Int) => (fun P => ∃ s, a.1.length ≤ 60 ∧ a.2.1.length = s.length ∧ (∀ r ∈ a.1, RuleOk s r) ∧ (dcd a.1 a.2.1 a.2.2 = none → P none) ∧ ∀ (k : Nat) r, a.1[k]? = some r → dcd a.1 a.2.1 a.2.2 = some r → P (some k) : W (Option Int)))) := by
  obtain ⟨fd, D⟩ := B.says.def_ 54 (d := d__law_decides) rfl
  refine ⟨_, fd, B.tx.glo__law_decides, D.kp, D.bindsN (fun _ _ _ _ _ _ us hl => match us, hl with | [_, _, _], _ => rfl), fnok_of (post := fun _ : Unit => ([.off, .off, .off, .off, .off] : List (En K))) D sc__law_decides rfl (by decide) (fsE_C (fsE_C fsE_1)) (fun a => [.fr (rL (rT (fsC rS (fsC (rL (rT (fsC SS.rI (fs1 (rL SS.rI))))) (fsC SS.rI (fsC SS.rI (fsC (rO SS.rI) (fsC (rO SS.rI) (fs1 (rL (rL (rT (fsC SS.rI (fs1 (rL SS.rI))))))))))))))) a.1, .fr (SS.rU SS.rI) a.2.1, .fr SS.rI a.2.2, .off, .off]) (fun _ => rfl) (fun a cdv A outer s H E hr => (b_lcT (i := 3) (own := [("k", 4)]) sc__law_decides.nd rfl rfl rfl (by decide +kernel) (blkOk_by (own := [("k", 4)]) (N := ["rules", "form", "day", "ready", "k"]) (sc := defScope s__law_decides) (by decide +kernel)) (pi_rng1X B.tx.free_range (pa_oneX (pr_cb call_len_seq rc_len B.tx.free_len (by decide +kernel) (pa_oneX (pr_name (pv 0) rfl))))) (fun _ _ _ _ _ => (pg_nameX (pg_name (i := 4) sc__law_decides.nd rfl (by first | exact Or.inl rfl | exact Or.inr rfl)))) (fun x119 _ _ _ _ _ => (pts_oneX (pt_valX (pr_call (ok__law_speaks B) (hr.mono (by decide)) (pa_consX (pr_ix ix_list r2_ixL (pr_name (pv 0) rfl) (pr_name (pv 4) rfl)) (pa_consX (pr_name (pv 1) rfl) (pa_oneX (pr_name (pv 2) rfl)))))))) (fun x119 _ _ _ _ _ => (pr_tup (pa_consX (pr_ix ix_tup (r2_ixF (j := 3) (fsAt_s (fsAt_s (fsAt_s fsAt_0)))) (pr_ix ix_list r2_ixL (pr_name (pv 0) rfl) (pr_name (pv 4) rfl)) pr_int) (pa_consX (pr_if (pt_cmpX op_isN (r2_isN nn_I) (nomark _) (pr_ix ix_tup (r2_ixF (j := 4) (fsAt_s (fsAt_s (fsAt_s (fsAt_s fsAt_0))))) (pr_ix ix_list r2_ixL (pr_name (pv 0) rfl) (pr_name (pv 4) rfl)) pr_int) pr_nonU) (pr_un un_neg r1_neg (pr_op op_pow r2_pow pr_int pr_int)) (pr_get (pr_ix ix_tup (r2_ixF (j := 4) (fsAt_s (fsAt_s (fsAt_s (fsAt_s fsAt_0))))) (pr_ix ix_list r2_ixL (pr_name (pv 0) rfl) (pr_name (pv 4) rfl)) pr_int))) (pa_oneX (pr_name (pv 4) rfl)))))) (fun q120 q120l => (b_frz 3 rfl (b_ret (pr_if (pt_cmpX (op_neP hr.units) (r2_ne (eqL (eqT (eqfC eqI (eqfC eqI (eqf1 eqI)))))) (nomark _) (pr_name (pv 3) rfl) (pr_frz (pr_lst (R := (rT (fsC SS.rI (fsC SS.rI (fs1 SS.rI))))) pa_nilR))) (pr_some (pr_ix ix_tup (r2_ixF (j := 2) (fsAt_s (fsAt_s fsAt_1))) (pr_cb (cr_maxT3 hr.units rfl) rc_maxT3 B.tx.free_max (by decide +kernel) (pa_oneX (pr_name (pv 3) rfl))) pr_int)) (pr_non (R := SS.rI)))))))) (fun a Q h => ?_)⟩
  obtain ⟨s, hfew, hl, hk, hn, hs⟩ := h
  obtain ⟨rs, f, day⟩ := a
  dsimp only at hfew hl hk hn hs
  refine fun _ => ?_
  refine ⟨⟨by show (rs.length : Int) < _; omega, by show _ < (rs.length : Int); omega⟩, ?_⟩
  have get : ∀ x ∈ rng 0 ((rs.length : Int)).toNat, atI rs x = some (rs.getD x.toNat dfl) ∧ RuleOk s (rs.getD x.toNat dfl) ∧ rs[x.toNat]? = some (rs.getD x.toNat dfl) ∧ x = ((x.toNat : Nat) : Int) := fun x hx => by
    obtain ⟨x1, x2⟩ := rng_in hx
    have hlt : x.toNat < rs.length := by omega
    have e3 : rs[x.toNat]? = some (rs.getD x.toNat dfl) := by rw [List.getElem?_eq_getElem hlt]; simp [hlt]
    exact ⟨atI_of dfl x1 (by omega), hk _ (List.mem_of_getElem? e3), e3, by omega⟩
  refine lcW_map (fun x => spk (rs.getD x.toNat dfl) f day) (fun x => key (rs.getD x.toNat dfl) x.toNat) _ (fun x hx C c => ?_) (fun x hx _ C c => ?_) (fun p => ?_)
  · obtain ⟨g1, g2, _⟩ := get x hx
    refine ⟨_, g1, ?_, c⟩
    have := g2.inn
    rw [← hl] at this
    exact this
  · obtain ⟨g1, g2, g3, g4⟩ := get x hx
    refine ⟨_, g1, rfl, _, g1, rfl, ?_⟩
    unfold key at c
    rw [← g4] at c
    dsimp only
    cases er : (rs.getD x.toNat dfl).2.2.2.2.1 with
    | none => rw [er] at c; exact ⟨cpow_9, c⟩
    | some y => rw [er] at c; exact ⟨_, g1, rfl, y, er, c⟩
  · generalize ey : List.map (fun x => key (rs.getD x.toNat dfl) x.toNat) (List.filter (fun x => spk (rs.getD x.toNat dfl) f day) (rng 0 ((rs.length : Int)).toNat)) = ys
    have mem : ∀ t : T3, t ∈ ys ↔ ∃ (k : Nat) (r : Rule), rs[k]? = some r ∧ spk r f day = true ∧ t = key r k := fun t => by
      rw [← ey, List.mem_map]
      constructor
      · rintro ⟨x, hx, et⟩
        obtain ⟨hx1, hx2⟩ := List.mem_filter.mp hx
        obtain ⟨_, _, g3, _⟩ := get x hx1
        exact ⟨x.toNat, _, g3, hx2, et.symm⟩
      · rintro ⟨k, r, h1, h2, h3⟩
        have hlt := (List.getElem?_eq_some_iff.mp h1).1
        have eg : rs.getD k dfl = r := by rw [List.getD_eq_getElem?_getD, h1]; rfl
        refine ⟨(k : Int), List.mem_filter.mpr ⟨?_, by show spk (rs.getD k dfl) f day = true; rw [eg]; exact h2⟩, by show key (rs.getD k dfl) k = t; rw [eg, h3]⟩
        unfold rng
        exact List.mem_map.mpr ⟨k, List.mem_range.mpr (by omega), by simp⟩
    dsimp only
    by_cases hy : ys = []
    · rw [dT hy]
      refine hn ?_
      rcases dcd_top f day rs hk with ⟨e1, _⟩ | ⟨k, r, e1, e2, e3, _⟩
      · exact e1
      · have := (mem (key r k)).mpr ⟨k, r, e2, e3, rfl⟩
        rw [hy] at this
        cases this
    · rw [dF hy]
      refine ⟨hy, fun t ht hmax => ⟨rfl, ?_⟩⟩
      obtain ⟨k, r, k1, k2, k3⟩ := (mem t).mp ht
      subst k3
      refine hs k r k1 ?_
      rcases dcd_top f day rs hk with ⟨_, e1⟩ | ⟨k', r', e1, e2, e3, e4⟩
      · rw [e1 r (List.mem_of_getElem? k1)] at k2; cases k2
      · by_cases hkk : k = k'
        · subst hkk
          rw [k1] at e2
          cases e2
          exact e1
        · exact absurd (e4 k r k1 k2 hkk) (hmax _ ((mem _).mpr ⟨k', r', e2, e3, rfl⟩))
theorem sc__law_day_dues : FnScope ["forms", "default", "rules", "day", "dues", "form", "at"] ["forms", "default", "rules", "day"] (defScope s__law_day_dues) := ⟨rfl, rfl, rfl, by decide +kernel, rfl, by decide +kernel, by decide +kernel⟩
theorem ok__law_day_dues (B : Bd P w K mg base) : FnG P w K mg base "_law_day_dues" 4 ["forms", "default", "rules", "day"] (SpF (K := K) (fsC (rL (SS.rU SS.rI)) (fsC SS.rI (fsC (rL (rT (fsC rS (fsC (rL (rT (fsC SS.rI (fs1 (rL SS.rI))))) (fsC SS.rI (fsC SS.rI (fsC (rO SS.rI) (fsC (rO SS.rI) (fs1 (rL (rL (rT (fsC SS.rI (fs1 (rL SS.rI))))))))))))))) (fs1 SS.rI)))) (rL SS.rI) (fun (a : (List (List Int)) × Int × (List (Str × (List (Int × (List Int))) × Int × Int × (Option Int) × (Option Int) × (List (List (Int × (List Int)))))) × Int) => (fun P => ∃ s ∈ SZ, a.1 = forms s ∧ a.2.2.1.length ≤ 60 ∧ (∀ r ∈ a.2.2.1, RuleOk s r) ∧ P (a.1.map (dueOf a.2.2.1 a.2.1 a.2.2.2)) : W (List Int)))) := by
  obtain ⟨fd, D⟩ := B.says.def_ 55 (d := d__law_day_dues) rfl
  refine ⟨_, fd, B.tx.glo__law_day_dues, D.kp, D.bindsN (fun _ _ _ _ _ _ us hl => match us, hl with | [_, _, _, _], _ => rfl), fnok_of (post := fun _ : Unit => ([.off, .off, .off, .off, .off, .off, .off] : List (En K))) D sc__law_day_dues rfl (by decide) (fsE_C (fsE_C (fsE_C fsE_1))) (fun a => [.fr (rL (SS.rU SS.rI)) a.1, .fr SS.rI a.2.1, .fr (rL (rT (fsC rS (fsC (rL (rT (fsC SS.rI (fs1 (rL SS.rI))))) (fsC SS.rI (fsC SS.rI (fsC (rO SS.rI) (fsC (rO SS.rI) (fs1 (rL (rL (rT (fsC SS.rI (fs1 (rL SS.rI))))))))))))))) a.2.2.1, .fr SS.rI a.2.2.2, .off, .off, .off]) (fun _ => rfl) (fun a cdv A outer s H E hr => (b_asgL (i := 4) sc__law_day_dues.nd rfl (by first | exact Or.inl rfl | exact Or.inr rfl) (pr_lst (R := SS.rI) pa_nilR) (fun q121 q121l => (b_for (fun s122 : (List Int) => [.fr (rL (SS.rU SS.rI)) a.1, .fr SS.rI a.2.1, .fr (rL (rT (fsC rS (fsC (rL (rT (fsC SS.rI (fs1 (rL SS.rI))))) (fsC SS.rI (fsC SS.rI (fsC (rO SS.rI) (fsC (rO SS.rI) (fs1 (rL (rL (rT (fsC SS.rI (fs1 (rL SS.rI))))))))))))))) a.2.2.1, .fr SS.rI a.2.2.2, .own q121 SS.rI s122, .off, .off]) q121l (pi_listX (pr_name (pv 0) rfl)) (.same (.same (.same (.same (.same (.same (.same .nil))))))) (fun s122 => (pg_nameX (pg_name (i := 5) sc__law_day_dues.nd rfl (by first | exact Or.inl rfl | exact Or.inr rfl)))) (fun q123 q123x => (b_asg (i := 6) sc__law_day_dues.nd rfl (by first | exact Or.inl rfl | exact Or.inr rfl) (pr_call (ok__law_decides B) (hr.mono (by decide)) (pa_consX (pr_name (pv 2) rfl) (pa_consX (pr_name (pv 5) rfl) (pa_oneX (pr_name (pv 3) rfl))))) (fun x124 => (b_app (pv 4) rfl (pr_if (pt_cmpX op_isN (r2_isN nn_I) (nomark _) (pr_name (pv 6) rfl) pr_nonU) (pr_name (pv 1) rfl) (pr_ix ix_tup (r2_ixF (j := 2) (fsAt_s (fsAt_s fsAt_0))) (pr_ix ix_list r2_ixL (pr_name (pv 2) rfl) (pr_get (pr_name (pv 6) rfl))) pr_int)) (fun x125 => (b_nil (t := (q123 ++ [x125])) (.same (.same (.same (.same (.same (.off (.off .nil rfl) rfl)))))))))))) (fun s122 => (b_frz 4 rfl (b_ret (pr_name (pv 4) rfl)))))))) (fun a Q h => ?_)⟩
  obtain ⟨s, hz, e, hrl, hk, h⟩ := h
  obtain ⟨fs, df, rs, day⟩ := a
  dsimp only at e hrl hk h
  subst e
  have hfew := forms_few s hz
  refine fun p => forW_inv (fun pre _ st => st = pre.map (dueOf rs df day)) rfl (fun pre x suf st C e hi h1 _ _ _ => ?_) (fun st hst => by subst hst; exact h)
  have e' : forms s = pre ++ x :: suf := e
  have hx : x ∈ forms s := by rw [e']; simp
  have hlen : pre.length < 81 := by rw [e'] at hfew; simp at hfew; omega
  have hsz : st.length ≤ sizeLine → st.length < sizeLine := fun _ => smallS (by rw [hi, List.length_map]; omega)
  have h2 := h1 (st ++ [dueOf rs df day x]) (by rw [hi]; simp)
  unfold dueOf at h2
  refine ⟨s, hrl, forms_len s hz x hx, hk, fun ed => ?_, fun k r ek ed => ?_⟩
  · rw [ed] at h2
    exact ⟨hsz, h2⟩
  · rw [ed] at h2
    exact ⟨k, rfl, r, atI_nat ek, rfl, hsz, h2⟩
theorem sc__law_just : FnScope ["told", "due", "k"] ["told", "due"] (defScope s__law_just) := ⟨rfl, rfl, rfl, by decide +kernel, rfl, by decide +kernel, by decide +kernel⟩
theorem rec__law_just (B : Bd P w K mg base) : ∀ n : Nat, FnG P w K mg base "_law_just" (n + 1) ["told", "due"] (SpF (K := K) (fsC rD (fs1 rD)) rB (fun (a : PyData × PyData) => (fun P => (a.1 = a.2 ∧ Fit (n) a.1) ∧ P true : W Bool)))
  | 0 => by
    obtain ⟨fd, D⟩ := B.says.def_ 44 (d := d__law_just) rfl
    exact ⟨_, fd, B.tx.glo__law_just, D.kp, D.bindsN (fun _ _ _ _ _ _ us hl => match us, hl with | [_, _], _ => rfl), D.ok sc__law_just (fun vs H Q E ⟨G, a, Pp, s, h, hp, _⟩ => (show False from hp.1.2).elim) fun cdv A outer s H vs Q E hr ⟨G, a, Pp, sG, h, hp, c⟩ => (show False from hp.1.2).elim⟩
  | n + 1 => by
    have ih := rec__law_just B n
    obtain ⟨fd, D⟩ := B.says.def_ 44 (d := d__law_just) rfl
    refine ⟨_, fd, B.tx.glo__law_just, D.kp, D.bindsN (fun _ _ _ _ _ _ us hl => match us, hl with | [_, _], _ => rfl), fnok_of (post := fun _ : Unit => ([.off, .off, .off] : List (En K))) D sc__law_just rfl (by decide) (fsE_C fsE_1) (fun a => [.fr rD a.1, .fr rD a.2, .off]) (fun _ => rfl) (fun a cdv A outer s H E hr => (b_ifr (pt_valX (pr_isiLT B.tx.free_isinstance B.tx.free_list B.tx.free_tuple (pr_name (pv 1) rfl))) (b_ifr (PW.pt (pw_orX (pt_cmpX (op_neP hr.units) (r2_ne eqB) (nomark _) (pr_isiD kit_L B.tx.free_isinstance B.tx.free_list (pr_name (pv 0) rfl) (by decide +kernel)) (pr_isiD kit_L B.tx.free_isinstance B.tx.free_list (pr_name (pv 1) rfl) (by decide +kernel))) (pw_or1X (pt_cmpX (op_neP hr.units) (r2_ne eqB) (nomark _) (pr_isiD kit_T B.tx.free_isinstance B.tx.free_tuple (pr_name (pv 0) rfl) (by decide +kernel)) (pr_isiD kit_T B.tx.free_isinstance B.tx.free_tuple (pr_name (pv 1) rfl) (by decide +kernel)))))) (b_ret pr_bl) (b_ret (pr_andV (pr_cmp (op_eqP hr.units) (r2_eq eqI) (nomark _) (pr_cb call_len_seq rc_lenD B.tx.free_len (by decide +kernel) (pa_oneX (pr_name (pv 0) rfl))) (pr_cb call_len_seq rc_lenD B.tx.free_len (by decide +kernel) (pa_oneX (pr_name (pv 1) rfl)))) (pr_oneV (pr_cb (cr_all rfl) rc_all B.tx.free_all (by decide +kernel) (pa_oneX (pr_frz (pr_lc (own := [("k", 2)]) sc__law_just.nd (blkOk_by (own := [("k", 2)]) (N := ["told", "due", "k"]) (sc := defScope s__law_just) (by decide +kernel)) (pi_rng1X B.tx.free_range (pa_oneX (pr_cb call_len_seq rc_lenD B.tx.free_len (by decide +kernel) (pa_oneX (pr_name (pv 1) rfl))))) (fun _ _ _ _ _ => (pg_nameX (pg_name (i := 2) sc__law_just.nd rfl (by first | exact Or.inl rfl | exact Or.inr rfl)))) (fun x126 _ _ _ _ _ => pts_nilX) (fun x126 _ _ _ _ _ => (pr_call ih (hr.mono (by omega)) (pa_consX (pr_ix (IxR.or ix_list ix_tup) r2_ixD (pr_name (pv 0) rfl) (pr_name (pv 2) rfl)) (pa_oneX (pr_ix (IxR.or ix_list ix_tup) r2_ixD (pr_name (pv 1) rfl) (pr_name (pv 2) rfl)))))))))))))) (b_ifr (PW.pt (pw_orX (pt_cmpX op_isN r2_isND (nomark _) (pr_name (pv 1) rfl) pr_nonU) (pw_or1X (pt_valX (pr_isiD kit_Bl B.tx.free_isinstance B.tx.free_bool (pr_name (pv 1) rfl) (by decide +kernel)))))) (b_ret (pr_if (pt_cmpX op_isN r2_isND (nomark _) (pr_name (pv 1) rfl) pr_nonU) (pr_cmp op_isN r2_isND (nomark _) (pr_name (pv 0) rfl) pr_nonU) (pr_andV (pr_isiD kit_Bl B.tx.free_isinstance B.tx.free_bool (pr_name (pv 0) rfl) (by decide +kernel)) (pr_oneV (pr_cmp (op_eqP hr.units) r2_eqD (nomark _) (pr_name (pv 0) rfl) (pr_name (pv 1) rfl)))))) (b_ifr (pt_valX (pr_isiD kit_In B.tx.free_isinstance B.tx.free_int (pr_name (pv 1) rfl) (by decide +kernel))) (b_ret (pr_andV (pr_isiD kit_In B.tx.free_isinstance B.tx.free_int (pr_name (pv 0) rfl) (by decide +kernel)) (pr_andV (pr_notV (pr_isiD kit_Bl B.tx.free_isinstance B.tx.free_bool (pr_name (pv 0) rfl) (by decide +kernel))) (pr_oneV (pr_cmp (op_eqP hr.units) r2_eqD (nomark _) (pr_name (pv 0) rfl) (pr_name (pv 1) rfl)))))) (b_ret (pr_andV (pr_isiD kit_St B.tx.free_isinstance B.tx.free_str (pr_name (pv 0) rfl) (by decide +kernel)) (pr_oneV (pr_cmp (op_eqP hr.units) r2_eqD (nomark _) (pr_name (pv 0) rfl) (pr_name (pv 1) rfl))))))))) (fun a Q h => ?_)⟩
    obtain ⟨⟨e, hf⟩, h⟩ := h
    obtain ⟨d, d'⟩ := a
    dsimp only at e hf
    subst e
    cases d with
    | none => exact h
    | bool b =>
      have e : PyData.eqv (.bool b) (.bool b) = true := by simp [PyData.eqv]
      exact ⟨⟨rfl, rfl, Nat.zero_le _⟩, (show Q (PyData.eqv (.bool b) (.bool b)) by rw [e]; exact h)⟩
    | int x =>
      have e : PyData.eqv (.int x) (.int x) = true := by simp [PyData.eqv]
      exact ⟨⟨rfl, rfl, Nat.zero_le _⟩, (show Q (PyData.eqv (.int x) (.int x)) by rw [e]; exact h)⟩
    | str x =>
      have e : PyData.eqv (.str x) (.str x) = true := by simp [PyData.eqv]
      exact ⟨⟨rfl, rfl, Nat.zero_le _⟩, (show Q (PyData.eqv (.str x) (.str x)) by rw [e]; exact h)⟩
    | list ds => exact just_row (.inl rfl) hf.1 hf.2 h
    | tuple ds => exact just_row (.inr rfl) hf.1 hf.2 h
    | dict ds => exact hf.elim
theorem ok__law_just (B : Bd P w K mg base) : FnG P w K mg base "_law_just" (9) ["told", "due"] (SpF (K := K) (fsC rD (fs1 rD)) rB (fun (a : PyData × PyData) => (fun P => (a.1 = a.2 ∧ Fit (8) a.1) ∧ P true : W Bool))) := rec__law_just B 8
theorem sc__law_days_right : FnScope ["book", "sizes", "forms", "default", "rules", "day", "told", "form", "at", "due"] ["book", "sizes", "forms", "default", "rules", "day"] (defScope s__law_days_right) := ⟨rfl, rfl, rfl, by decide +kernel, rfl, by decide +kernel, by decide +kernel⟩
theorem ok__law_days_right (B : Bd P w K mg base) : FnG P w K mg base "_law_days_right" 10 ["book", "sizes", "forms", "default", "rules", "day"] (SpF (K := K) (fsC (r_Rulebook K) (fsC (rL SS.rI) (fsC (rL (SS.rU SS.rI)) (fsC SS.rI (fsC (rL (rT (fsC rS (fsC (rL (rT (fsC SS.rI (fs1 (rL SS.rI))))) (fsC SS.rI (fsC SS.rI (fsC (rO SS.rI) (fsC (rO SS.rI) (fs1 (rL (rL (rT (fsC SS.rI (fs1 (rL SS.rI))))))))))))))) (fs1 SS.rI)))))) rB (fun (a : T_Rulebook × (List Int) × (List (List Int)) × Int × (List (Str × (List (Int × (List Int))) × Int × Int × (Option Int) × (Option Int) × (List (List (Int × (List Int)))))) × Int) => (fun P => ∃ s, a.1.1 = spc s ∧ BookOk s a.1.2.1 a.1.2.2 ∧ a.2.1 = s ∧ a.2.2.1 = forms s ∧ a.2.2.2.1 = a.1.2.1 ∧ a.2.2.2.2.1 = a.1.2.2 ∧ DayOk a.2.2.2.2.2 ∧ P true : W Bool))) := by
  obtain ⟨fd, D⟩ := B.says.def_ 56 (d := d__law_days_right) rfl
  refine ⟨_, fd, B.tx.glo__law_days_right, D.kp, D.bindsN (fun _ _ _ _ _ _ us hl => match us, hl with | [_, _, _, _, _, _], _ => rfl), fnok_of (post := fun _ : Unit => ([.off, .off, .off, .off, .off, .off, .off, .off, .off, .off] : List (En K))) D sc__law_days_right rfl (by decide) (fsE_C (fsE_C (fsE_C (fsE_C (fsE_C fsE_1))))) (fun a => [.fr (r_Rulebook K) a.1, .fr (rL SS.rI) a.2.1, .fr (rL (SS.rU SS.rI)) a.2.2.1, .fr SS.rI a.2.2.2.1, .fr (rL (rT (fsC rS (fsC (rL (rT (fsC SS.rI (fs1 (rL SS.rI))))) (fsC SS.rI (fsC SS.rI (fsC (rO SS.rI) (fsC (rO SS.rI) (fs1 (rL (rL (rT (fsC SS.rI (fs1 (rL SS.rI))))))))))))))) a.2.2.2.2.1, .fr SS.rI a.2.2.2.2.2, .off, .off, .off, .off]) (fun _ => rfl) (fun a cdv A outer s H E hr => (b_asg (i := 6) sc__law_days_right.nd rfl (by first | exact Or.inl rfl | exact Or.inr rfl) (pr_meth (ks := ["kept_space", "kept_default", "kept_rules"]) (ok_Rulebook_on_day B) (hr.mono (by decide)) (pr_name (pv 0) rfl) (fun _ => rfl) (by decide +kernel) (pa_oneX (pr_name (pv 5) rfl))) (fun x127 => (b_ifr (PW.pt (pw_orX (pt_notX (pt_valX (pr_call (ok__law_just B) (hr.mono (by decide)) (pa_consX (pr_to (fun x => ((eqL eqI) : Eqp (rL SS.rI)).enc x) (pr_meth0 (ks := ["kept_space", "kept_dues"]) (ok_Book_dues B) (hr.mono (by decide)) (pr_name (pv 6) rfl) (fun _ => rfl) (by decide +kernel)) (fun G v x r => ((eqL eqI) : Eqp (rL SS.rI)).dp G v x r)) (pa_oneX (pr_to (fun x => ((eqL eqI) : Eqp (rL SS.rI)).enc x) (pr_call (ok__law_day_dues B) (hr.mono (by decide)) (pa_consX (pr_name (pv 2) rfl) (pa_consX (pr_name (pv 3) rfl) (pa_consX (pr_name (pv 4) rfl) (pa_oneX (pr_name (pv 5) rfl)))))) (fun G v x r => ((eqL eqI) : Eqp (rL SS.rI)).dp G v x r))))))) (pw_or1X (pt_notX (pt_valX (pr_call (ok__law_just B) (hr.mono (by decide)) (pa_consX (pr_to (fun x => ((eqL eqI) : Eqp (rL SS.rI)).enc x) (pr_meth0 (ks := ["kept_sizes", "kept_forms", "kept_steps"]) (ok_Space_sizes B) (hr.mono (by decide)) (pr_meth0 (ks := ["kept_space", "kept_dues"]) (ok_Book_space B) (hr.mono (by decide)) (pr_name (pv 6) rfl) (fun _ => rfl) (by decide +kernel)) (fun _ => rfl) (by decide +kernel)) (fun G v x r => ((eqL eqI) : Eqp (rL SS.rI)).dp G v x r)) (pa_oneX (pr_to (fun x => ((eqL eqI) : Eqp (rL SS.rI)).enc x) (pr_name (pv 1) rfl) (fun G v x r => ((eqL eqI) : Eqp (rL SS.rI)).dp G v x r)))))))))) (b_ret pr_bl) (b_for (fun s128 : Unit => [.fr (r_Rulebook K) a.1, .fr (rL SS.rI) a.2.1, .fr (rL (SS.rU SS.rI)) a.2.2.1, .fr SS.rI a.2.2.2.1, .fr (rL (rT (fsC rS (fsC (rL (rT (fsC SS.rI (fs1 (rL SS.rI))))) (fsC SS.rI (fsC SS.rI (fsC (rO SS.rI) (fsC (rO SS.rI) (fs1 (rL (rL (rT (fsC SS.rI (fs1 (rL SS.rI))))))))))))))) a.2.2.2.2.1, .fr SS.rI a.2.2.2.2.2, .fr (r_Book K) x127, .off, .off, .off]) () (pi_listX (pr_name (pv 2) rfl)) (.same (.same (.same (.same (.same (.same (.same (.same (.same (.same .nil)))))))))) (fun s128 => (pg_nameX (pg_name (i := 7) sc__law_days_right.nd rfl (by first | exact Or.inl rfl | exact Or.inr rfl)))) (fun q129 q129x => (b_asg (i := 8) sc__law_days_right.nd rfl (by first | exact Or.inl rfl | exact Or.inr rfl) (pr_call (ok__law_decides B) (hr.mono (by decide)) (pa_consX (pr_name (pv 4) rfl) (pa_consX (pr_name (pv 7) rfl) (pa_oneX (pr_name (pv 5) rfl))))) (fun x130 => (b_asg (i := 9) sc__law_days_right.nd rfl (by first | exact Or.inl rfl | exact Or.inr rfl) (pr_if (pt_cmpX op_isN (r2_isN nn_I) (nomark _) (pr_name (pv 8) rfl) pr_nonU) (pr_non (R := rS)) (pr_some (pr_ix ix_tup (r2_ixF (j := 0) fsAt_0) (pr_ix ix_list r2_ixL (pr_name (pv 4) rfl) (pr_get (pr_name (pv 8) rfl))) pr_int))) (fun x131 => (b_ifr (PW.pt (pw_orX (pt_notX (pt_valX (pr_call (ok__law_just B) (hr.mono (by decide)) (pa_consX (pr_to (fun x => ((eqO eqS enn_S) : Eqp (rO rS)).enc x) (pr_meth (ks := ["kept_space", "kept_default", "kept_rules"]) (ok_Rulebook_deciding B) (hr.mono (by decide)) (pr_name (pv 0) rfl) (fun _ => rfl) (by decide +kernel) (pa_consX (pr_name (pv 7) rfl) (pa_oneX (pr_name (pv 5) rfl)))) (fun G v x r => ((eqO eqS enn_S) : Eqp (rO rS)).dp G v x r)) (pa_oneX (pr_to (fun x => ((eqO eqS enn_S) : Eqp (rO rS)).enc x) (pr_name (pv 9) rfl) (fun G v x r => ((eqO eqS enn_S) : Eqp (rO rS)).dp G v x r))))))) (pw_or1X (pt_notX (pt_valX (pr_call (ok__law_just B) (hr.mono (by decide)) (pa_consX (pr_to (fun x => (eqI : Eqp SS.rI).enc x) (pr_meth (ks := ["kept_space", "kept_dues"]) (ok_Book_due B) (hr.mono (by decide)) (pr_name (pv 6) rfl) (fun _ => rfl) (by decide +kernel) (pa_oneX (pr_name (pv 7) rfl))) (fun G v x r => (eqI : Eqp SS.rI).dp G v x r)) (pa_oneX (pr_if (pt_cmpX op_isN (r2_isN nn_I) (nomark _) (pr_name (pv 8) rfl) pr_nonU) (pr_to (fun x => (eqI : Eqp SS.rI).enc x) (pr_name (pv 3) rfl) (fun G v x r => (eqI : Eqp SS.rI).dp G v x r)) (pr_to (fun x => (eqI : Eqp SS.rI).enc x) (pr_ix ix_tup (r2_ixF (j := 2) (fsAt_s (fsAt_s fsAt_0))) (pr_ix ix_list r2_ixL (pr_name (pv 4) rfl) (pr_get (pr_name (pv 8) rfl))) pr_int) (fun G v x r => (eqI : Eqp SS.rI).dp G v x r))))))))))) (b_ret pr_bl) (b_nil (t := ()) (.same (.same (.same (.same (.same (.same (.same (.off (.off (.off .nil rfl) rfl) rfl))))))))))))))) (fun s128 => (b_ret pr_bl))))))) (fun a Q h => ?_)⟩
  obtain ⟨s, e1, hb, e2, e3, e4, e5, hd, h⟩ := h
  obtain ⟨⟨sp, df, rs⟩, sz, fs, df', rs', day⟩ := a
  dsimp only at e1 hb e2 e3 e4 e5 hd ⊢
  subst e1 e2 e3 e4 e5
  simp only [Bool.not_true, Bool.false_eq_true, ↓reduceIte]
  have hfew := forms_few sz hb.sz
  have hsz := sz_small sz hb.sz
  refine ⟨sz, rfl, hb, hd, sz, hb.sz, rfl, hb.few, hb.ok, ⟨rfl, fit_L (by rw [List.length_map]; omega) (fun _ _ => fit_I)⟩, ⟨rfl, fit_L (show sz.length ≤ 1000 by omega) (fun _ _ => fit_I)⟩, ?_⟩
  refine forW_all (fun x hx C c => ?_) h
  have due : ((forms sz).map (dueOf rs' df' day)).getD (num sz x).toNat 0 = dueOf rs' df' day x := by
    have := (num_at sz hb.sz x hx).2
    rw [List.getD_eq_getElem?_getD, List.getElem?_map, this]; rfl
  have inn : ∀ r ∈ rs', RuleIn sz.length r := fun r hr => (hb.ok r hr).inn
  refine ⟨sz, hb.few, forms_len sz hb.sz x hx, hb.ok, fun ed => ?_, fun k r ek ed => ?_⟩
  · rw [if_pos (by simp)]
    refine ⟨sz, hb.sz, rfl, hx, inn, hd, ⟨by rw [ed]; rfl, by rw [ed]; trivial⟩, sz, hb.sz, rfl, hx, by rw [List.length_map], ?_⟩
    rw [if_pos (by simp)]
    refine ⟨⟨?_, fit_I⟩, c⟩
    rw [due]
    unfold dueOf
    rw [ed]
  · rw [if_neg (by simp)]
    refine ⟨k, rfl, r, atI_nat ek, rfl, sz, hb.sz, rfl, hx, inn, hd, ⟨by rw [ed]; rfl, by rw [ed]; trivial⟩, sz, hb.sz, rfl, hx, by rw [List.length_map], ?_⟩
    rw [if_neg (by simp)]
    refine ⟨k, rfl, r, atI_nat ek, rfl, ⟨?_, fit_I⟩, c⟩
    rw [due]
    unfold dueOf
    rw [ed]
theorem sc__law_begin : FnScope ["script", "great", "small", "cell"] ["script"] (defScope s__law_begin) := ⟨rfl, rfl, rfl, by decide +kernel, rfl, by decide +kernel, by decide +kernel⟩
theorem ok__law_begin (B : Bd P w K mg base) : FnG P w K mg base "_law_begin" 1 ["script"] (SpB K 63) := by
  obtain ⟨fd, D⟩ := B.says.def_ 45 (d := d__law_begin) rfl
  refine ⟨_, fd, B.tx.glo__law_begin, D.kp, D.bindsN (fun _ _ _ _ _ _ us hl => match us, hl with | [_], _ => rfl), fnok_ofB (most := 63) (post := fun _ : Unit => ([.off, .off, .off, .off] : List (En K))) D sc__law_begin rfl (by decide) (fun H a => [.fr (rW H (rL SS.rI)) a, .off, .off, .off]) (fun _ _ => rfl) (fun a cdv A outer s H E hr => (b_asgL (i := 1) sc__law_begin.nd rfl (by first | exact Or.inl rfl | exact Or.inr rfl) (pr_lst (R := SS.rI) pa_nilR) (fun q132 q132l => (b_asgL (i := 2) sc__law_begin.nd rfl (by first | exact Or.inl rfl | exact Or.inr rfl) (pr_lst (R := SS.rI) pa_nilR) (fun q133 q133l => (b_for (fun s134 : (List Int) × (List Int) => [.fr (rW H (rL SS.rI)) a, .own q132 SS.rI s134.1, .own q133 SS.rI s134.2, .off]) (q132l, q133l) (pi_listX (pr_frz (pr_slc (pr_to (fun x => x) (pr_name (pv 0) rfl) (fun _ _ _ h => h.1))))) (.same (.same (.same (.same .nil)))) (fun s134 => (pg_nameX (pg_name (i := 3) sc__law_begin.nd rfl (by first | exact Or.inl rfl | exact Or.inr rfl)))) (fun q135 q135x => (b_if (fun s138 : (List Int) × (List Int) => [.fr (rW H (rL SS.rI)) a, .own q132 SS.rI s138.1, .own q133 SS.rI s138.2, .fr SS.rI q135x]) (pt_cmpX op_ge r2_ge (nomark _) (pr_cb call_abs rc_abs B.tx.free_abs (by decide +kernel) (pa_oneX (pr_cty call_int1 rc_int B.tx.free_int (by decide +kernel) (pa_oneX (pr_name (pv 3) rfl))))) (pr_op op_pow r2_pow pr_int pr_int)) (b_app (pv 1) rfl (pr_cb call_abs rc_abs B.tx.free_abs (by decide +kernel) (pa_oneX (pr_cty call_int1 rc_int B.tx.free_int (by decide +kernel) (pa_oneX (pr_name (pv 3) rfl))))) (fun x136 => (b_nil (t := ((q135.1 ++ [x136]), q135.2)) (.same (.same (.same (.same .nil))))))) (b_app (pv 2) rfl (pr_op op_modN r2_mod (pr_cty call_int1 rc_int B.tx.free_int (by decide +kernel) (pa_oneX (pr_name (pv 3) rfl))) pr_int) (fun x137 => (b_nil (t := (q135.1, (q135.2 ++ [x137]))) (.same (.same (.same (.same .nil))))))) (fun s138 => (b_nil (t := (s138.1, s138.2)) (.same (.same (.same (.off .nil rfl)))))) (by intro _ _ h; exact h))) (fun s134 => (b_retPl (iw := 0) (ig := 1) (is := 2) rfl rfl rfl rfl (pe_lst (pa_cons (pv 1) (pa_cons (pe_op op_cat (pv 2) (pe_lst (pa_cons pe_int pa_nil))) (pa_cons pe_int (pa_cons pe_int pa_nil))))))))))))) (fun H a Q h => ?_)⟩
  obtain ⟨hl, h⟩ := h
  refine fun _ _ => forW_inv (fun pre _ st => st.1.length ≤ pre.length ∧ st.2.length ≤ pre.length) ⟨Nat.le_refl _, Nat.le_refl _⟩ (fun pre x suf st C e hi h1 _ _ _ => ?_) (fun st hst => ?_)
  · obtain ⟨i1, i2⟩ := hi
    have hlen : pre.length < 63 := by
      have := congrArg List.length e
      rw [List.length_take, List.length_append, List.length_cons] at this
      have e63 : Int.toNat 63 = 63 := rfl
      omega
    refine ⟨cpow_18, ?_⟩
    dsimp only
    by_cases hc : (10 : Int) ^ Int.toNat 18 ≤ if x < 0 then -x else x
    · rw [dT hc]
      exact ⟨fun _ => smallS (by omega), h1 (_, _) ⟨by simp only [List.length_append, List.length_cons, List.length_nil]; omega, by simp only [List.length_append, List.length_cons, List.length_nil]; omega⟩⟩
    · rw [dF hc]
      exact ⟨by decide, fun _ => smallS (by omega), h1 (_, _) ⟨by simp only [List.length_append, List.length_cons, List.length_nil]; omega, by simp only [List.length_append, List.length_cons, List.length_nil]; omega⟩⟩
  · rw [List.length_take] at hst
    have e63 : Int.toNat 63 = 63 := rfl
    exact ⟨⟨by omega, by omega⟩, h⟩

abbrev rCp (K : PySem.W.Frag) : Rp K (Int × List Int) := rT (fsC SS.rI (fs1 (rL SS.rI)))
abbrev rNd (K : PySem.W.Frag) : Rp K Needs := rL (rCp K)
abbrev fRu (K : PySem.W.Frag) : Fs K Rule := fsC rS (fsC (rNd K) (fsC SS.rI (fsC SS.rI (fsC (rO SS.rI) (fsC (rO SS.rI) (fs1 (rL (rNd K))))))))
abbrev rRu (K : PySem.W.Frag) : Rp K Rule := rT (fRu K)
abbrev fRx (K : PySem.W.Frag) : Fs K Rule := fsC rS (fsC (rLx (rCp K)) (fsC SS.rI (fsC SS.rI (fsC (rO SS.rI) (fsC (rO SS.rI) (fs1 (rLx (rNd K))))))))
abbrev rRx (K : PySem.W.Frag) : Rp K Rule := rT (fRx K)
theorem okx_copied_needs (B : Bd P w K mg base) : FnG P w K mg base "copied_needs" 1 ["needs"] (SpX (K := K) (fs1 (rNd K)) (rNd K) (fun (a : Needs) => (fun P => P a : W Needs))) := by
  obtain ⟨fd, D⟩ := B.says.def_ 29 (d := d_copied_needs) rfl
  refine ⟨_, fd, B.tx.glo_copied_needs, D.kp, D.bindsN (fun _ _ _ _ _ _ us hl => match us, hl with | [_], _ => rfl), fnok_ofX (post := fun _ : Unit => ([.off, .off, .off] : List (En K))) D sc_copied_needs rfl (by decide) (fun BB a => [.fr (rWB BB (rNd K)) a, .off, .off]) (fun _ _ => rfl) (fun BB a cdv A outer s H E hr =>
    (b_ret (pr_frzB (i := 0) rfl (pr_lc (own := [("i", 1), ("values", 2)]) sc_copied_needs.nd (blkOk_by (own := [("i", 1), ("values", 2)]) (N := ["needs", "i", "values"]) (sc := defScope s_copied_needs) (by decide +kernel)) (pi_listX (pr_unW (pr_name (pv 0) rfl))) (fun _ _ _ _ _ => (pg_tupX (pgs_consX (pg_name (i := 1) sc_copied_needs.nd rfl (by first | exact Or.inl rfl | exact Or.inr rfl)) (fun _ => (pgs_oneX (pg_name (i := 2) sc_copied_needs.nd rfl (by first | exact Or.inl rfl | exact Or.inr rfl))))))) (fun x39 _ _ _ _ _ => pts_nilX) (fun x39 _ _ _ _ _ => (pr_tupB (i := 0) rfl (pa_consX (pr_name (pv 1) rfl) (pa_oneX (pr_frzB (i := 0) rfl (tel_to (R' := rOn BB SS.rI) (pr_ctyL call_list_of rcl_list B.tx.free_list (by decide +kernel) (pa_oneX (pr_name (pv 2) rfl))) (fun _ _ _ h => h)))))))))))
    (fun a Q h => ?_)⟩
  refine lcW_map1 (fun p => p) _ (fun p _ C c => c) ?_
  show Q _
  rw [List.map_id']
  exact h
theorem okx_copied_rule (B : Bd P w K mg base) : FnG P w K mg base "copied_rule" 2 ["rule"] (SpX (K := K) (fs1 (rRu K)) (rRu K) (fun (a : Rule) => (fun P => P a : W Rule))) := by
  obtain ⟨fd, D⟩ := B.says.def_ 30 (d := d_copied_rule) rfl
  refine ⟨_, fd, B.tx.glo_copied_rule, D.kp, D.bindsN (fun _ _ _ _ _ _ us hl => match us, hl with | [_], _ => rfl), fnok_ofX (post := fun _ : Unit => ([.off, .off, .off, .off, .off, .off, .off, .off, .off] : List (En K))) D sc_copied_rule rfl (by decide) (fun BB a => [.fr (rWB BB (rRu K)) a, .off, .off, .off, .off, .off, .off, .off, .off]) (fun _ _ => rfl) (fun BB a cdv A outer s H E hr =>
    (b_asgT (pr_unW (pr_name (pv 0) rfl)) (pg_tupX (pgs_consX (pg_name (i := 1) sc_copied_rule.nd rfl (by first | exact Or.inl rfl | exact Or.inr rfl)) (fun _ => (pgs_consX (pg_name (i := 2) sc_copied_rule.nd rfl (by first | exact Or.inl rfl | exact Or.inr rfl)) (fun _ => (pgs_consX (pg_name (i := 3) sc_copied_rule.nd rfl (by first | exact Or.inl rfl | exact Or.inr rfl)) (fun _ => (pgs_consX (pg_name (i := 4) sc_copied_rule.nd rfl (by first | exact Or.inl rfl | exact Or.inr rfl)) (fun _ => (pgs_consX (pg_name (i := 5) sc_copied_rule.nd rfl (by first | exact Or.inl rfl | exact Or.inr rfl)) (fun _ => (pgs_consX (pg_name (i := 6) sc_copied_rule.nd rfl (by first | exact Or.inl rfl | exact Or.inr rfl)) (fun _ => (pgs_oneX (pg_name (i := 7) sc_copied_rule.nd rfl (by first | exact Or.inl rfl | exact Or.inr rfl)))))))))))))))) (fun x40 => (b_ret (pr_tupB (i := 0) rfl (pa_consX (pr_name (pv 1) rfl) (pa_consX (pr_callX (i := 0) (okx_copied_needs B) rfl (hr.mono (by decide)) (pa_oneX (pr_name (pv 2) rfl))) (pa_consX (pr_name (pv 3) rfl) (pa_consX (pr_name (pv 4) rfl) (pa_consX (pr_name (pv 5) rfl) (pa_consX (pr_name (pv 6) rfl) (pa_oneX (pr_frzB (i := 0) rfl (pr_lc (own := [("one", 8)]) sc_copied_rule.nd (blkOk_by (own := [("one", 8)]) (N := ["rule", "name", "needs", "due", "rank", "first", "last", "unless", "one"]) (sc := defScope s_copied_rule) (by decide +kernel)) (pi_listX (pr_name (pv 7) rfl)) (fun _ _ _ _ _ => (pg_nameX (pg_name (i := 8) sc_copied_rule.nd rfl (by first | exact Or.inl rfl | exact Or.inr rfl)))) (fun x41 _ _ _ _ _ => pts_nilX) (fun x41 _ _ _ _ _ => (pr_callX (i := 0) (okx_copied_needs B) rfl (hr.mono (by decide)) (pa_oneX (pr_name (pv 8) rfl))))))))))))))))))
    (fun a Q h => ?_)⟩
  refine lcW_map1 (fun p => p) _ (fun p _ C c => c) ?_
  show Q _
  rw [List.map_id']
  exact h
theorem okx__law_copied_rule (B : Bd P w K mg base) : FnG P w K mg base "_law_copied_rule" 1 ["rule"] (SpX (K := K) (fs1 (rRu K)) (rRx K) (fun (a : Rule) => (fun P => (∃ s, RuleOk s a) ∧ P a : W Rule))) := by
  obtain ⟨fd, D⟩ := B.says.def_ 51 (d := d__law_copied_rule) rfl
  refine ⟨_, fd, B.tx.glo__law_copied_rule, D.kp, D.bindsN (fun _ _ _ _ _ _ us hl => match us, hl with | [_], _ => rfl), fnok_ofX (post := fun _ : Unit => ([.off, .off, .off, .off, .off] : List (En K))) D sc__law_copied_rule rfl (by decide) (fun BB a => [.fr (rWB BB (rRu K)) a, .off, .off, .off, .off]) (fun _ _ => rfl) (fun BB a cdv A outer s H E hr =>
    (b_asgL (i := 1) sc__law_copied_rule.nd rfl (by first | exact Or.inl rfl | exact Or.inr rfl) (pr_lst (R := rOn BB (rNd K)) pa_nilR) (fun q111 q111l => (b_for (fun s112 : (List Needs) => [.fr (rWB BB (rRu K)) a, .own q111 (rOn BB (rNd K)) s112, .off, .off, .off]) q111l (pi_listX (pr_ix ix_tup (r2_ixF (j := 6) (fsAt_s (fsAt_s (fsAt_s (fsAt_s (fsAt_s (fsAt_s fsAt_1))))))) (pr_unW (pr_name (pv 0) rfl)) pr_int)) (.same (.same (.same (.same (.same .nil))))) (fun s112 => (pg_nameX (pg_name (i := 2) sc__law_copied_rule.nd rfl (by first | exact Or.inl rfl | exact Or.inr rfl)))) (fun q113 q113x => (b_app (pv 1) rfl (pr_frzB (i := 0) rfl (pr_lc (own := [("i", 3), ("values", 4)]) sc__law_copied_rule.nd (blkOk_by (own := [("i", 3), ("values", 4)]) (N := ["rule", "unless", "one", "i", "values"]) (sc := defScope s__law_copied_rule) (by decide +kernel)) (pi_listX (pr_name (pv 2) rfl)) (fun _ _ _ _ _ => (pg_tupX (pgs_consX (pg_name (i := 3) sc__law_copied_rule.nd rfl (by first | exact Or.inl rfl | exact Or.inr rfl)) (fun _ => (pgs_oneX (pg_name (i := 4) sc__law_copied_rule.nd rfl (by first | exact Or.inl rfl | exact Or.inr rfl))))))) (fun x114 _ _ _ _ _ => pts_nilX) (fun x114 _ _ _ _ _ => (pr_tupB (i := 0) rfl (pa_consX (pr_name (pv 3) rfl) (pa_oneX (pr_frzB (i := 0) rfl (tel_to (R' := rOn BB SS.rI) (pr_ctyL call_list_of rcl_list B.tx.free_list (by decide +kernel) (pa_oneX (pr_name (pv 4) rfl))) (fun _ _ _ h => h))))))))) (fun x115 => (b_nil (t := (q113 ++ [x115])) (.same (.same (.off (.same (.same .nil)) rfl))))))) (fun s112 => (b_frzBX (iw := 0) rfl 1 rfl (b_ret (pr_tupB (i := 0) rfl (pa_consX (pr_ix ix_tup (r2_ixF (j := 0) fsAt_0) (pr_unW (pr_name (pv 0) rfl)) pr_int) (pa_consX (pr_frzBX (i := 0) rfl (pr_lc (own := [("i", 3), ("values", 4)]) sc__law_copied_rule.nd (blkOk_by (own := [("i", 3), ("values", 4)]) (N := ["rule", "unless", "one", "i", "values"]) (sc := defScope s__law_copied_rule) (by decide +kernel)) (pi_listX (pr_ix ix_tup (r2_ixF (j := 1) (fsAt_s fsAt_0)) (pr_unW (pr_name (pv 0) rfl)) pr_int)) (fun _ _ _ _ _ => (pg_tupX (pgs_consX (pg_name (i := 3) sc__law_copied_rule.nd rfl (by first | exact Or.inl rfl | exact Or.inr rfl)) (fun _ => (pgs_oneX (pg_name (i := 4) sc__law_copied_rule.nd rfl (by first | exact Or.inl rfl | exact Or.inr rfl))))))) (fun x116 _ _ _ _ _ => pts_nilX) (fun x116 _ _ _ _ _ => (pr_tupB (F := fsC SS.rI (fs1 (rL SS.rI))) (i := 0) rfl (pa_consX (pr_name (pv 3) rfl) (pa_oneX (pr_frzB (i := 0) rfl (tel_to (R' := rOn BB SS.rI) (pr_ctyL call_list_of rcl_list B.tx.free_list (by decide +kernel) (pa_oneX (pr_name (pv 4) rfl))) (fun _ _ _ h => h))))))))) (pa_consX (pr_ix ix_tup (r2_ixF (j := 2) (fsAt_s (fsAt_s fsAt_0))) (pr_unW (pr_name (pv 0) rfl)) pr_int) (pa_consX (pr_ix ix_tup (r2_ixF (j := 3) (fsAt_s (fsAt_s (fsAt_s fsAt_0)))) (pr_unW (pr_name (pv 0) rfl)) pr_int) (pa_consX (pr_ix ix_tup (r2_ixF (j := 4) (fsAt_s (fsAt_s (fsAt_s (fsAt_s fsAt_0))))) (pr_unW (pr_name (pv 0) rfl)) pr_int) (pa_consX (pr_ix ix_tup (r2_ixF (j := 5) (fsAt_s (fsAt_s (fsAt_s (fsAt_s (fsAt_s fsAt_0)))))) (pr_unW (pr_name (pv 0) rfl)) pr_int) (pa_oneX (pr_name (pv 1) rfl)))))))))))))))) (fun a Q h => ?_)⟩
  obtain ⟨⟨s, hk⟩, h⟩ := h
  refine fun p => ⟨rfl, ?_⟩
  refine forW_inv (fun pre _ st => st = pre) rfl (fun pre x suf st C e hi h1 _ _ _ => ?_) (fun st hst => ?_)
  · subst hi
    refine lcW_map1 (fun p => p) _ (fun p _ C c => c) ⟨fun _ => ?_, h1 _ ?_⟩
    · have := hk.few
      rw [e] at this
      simp at this
      exact smallS (by omega)
    · rw [List.map_id']
  · subst hst
    refine ⟨rfl, rfl, lcW_map1 (fun p => p) _ (fun p _ C c => c) ⟨rfl, rfl, rfl, rfl, ?_⟩⟩
    rw [List.map_id']
    exact h
theorem okx_Rulebook___init__ (B : Bd P w K mg base) : FnC P w K mg base "Rulebook" (He.ga K "Rulebook") 5 ["self", "space", "default", "rules"] (SpIX (K := K) (He.ga K "Rulebook") (fun BB => fsC (rOn BB (r_Space K)) (fsC SS.rI (fs1 (rWB BB (rL (rRu K)))))) (r_Rulebook K) (fun (a : T_Space × Int × (List Rule)) => (fun P => ∃ s, a.1 = spc s ∧ BookOk s a.2.1 a.2.2 ∧ P a : W T_Rulebook))) := by
  obtain ⟨fd, D⟩ := B.says.def_ 36 (d := d_Rulebook___init__) rfl
  refine ⟨_, fd, B.tx.glo_Rulebook, B.tx.mkr_Rulebook, D.bindsN (fun _ _ _ _ _ _ us hl => match us, hl with | [_, _, _, _], _ => rfl), fnok_ofIX (C := He.ga K "Rulebook") (FI := F_Rulebook K) (FB := fun BB (b : T_Rulebook) => ([("kept_space", Rp.mp (rOn BB (r_Space K)) b.1), ("kept_default", Rp.mp (K := K) SS.rI b.2.1), ("kept_rules", Rp.mp (rOn BB (rL (rRu K))) b.2.2)] : List (Str × Mp))) D sc_Rulebook___init__ (fun _ => rfl) (by decide) (fun _ => fsE_C (fsE_C fsE_1)) (fun _ _ _ _ _ h => h) (fun BB i a => [.obj i (He.ga K "Rulebook") [], .fr (rOn BB (r_Space K)) a.1, .fr SS.rI a.2.1, .fr (rWB BB (rL (rRu K))) a.2.2, .off, .off]) (fun _ _ _ => rfl) (fun BB i b => [.obj i (He.ga K "Rulebook") ([("kept_space", Rp.mp (rOn BB (r_Space K)) b.1), ("kept_default", Rp.mp (K := K) SS.rI b.2.1), ("kept_rules", Rp.mp (rOn BB (rL (rRu K))) b.2.2)] : List (Str × Mp)), .off, .off, .off, .off, .off]) (fun _ _ _ => rfl)
    (fun BB b G vs h => match vs, h with | _, .cons h1 (.cons h2 (.cons h3 .nil)) => .cons ⟨h1.1, h1.2⟩ (.cons ⟨h2.1, h2.2⟩ (.cons ⟨h3.1, h3.2⟩ .nil)))
    (fun BB i a cdv A outer s H E hr => (b_expr (pr_call (ok_bound_rules B) (hr.mono (by decide)) (pa_consX (pr_frz (pr_lst (R := SS.rI) (pa_consR (pr_name (pv 2) rfl) pa_nilR))) (pa_consX (pr_cb call_len_seq rc_len B.tx.free_len (by decide +kernel) (pa_oneX (pr_unW (pr_name (pv 3) rfl)))) (pa_oneX (pr_unW (pr_name (pv 3) rfl)))))) (b_asgL (i := 4) sc_Rulebook___init__.nd rfl (by first | exact Or.inl rfl | exact Or.inr rfl) (pr_lst (R := rS) pa_nilR) (fun q60 q60l => (b_for (fun s61 : (List Str) => [.obj i (He.ga K "Rulebook") [], .fr (rOn BB (r_Space K)) a.1, .fr SS.rI a.2.1, .fr (rWB BB (rL (rRu K))) a.2.2, .own q60 rS s61, .off]) q60l (pi_listX (pr_unW (pr_name (pv 3) rfl))) (.same (.same (.same (.same (.same (.same .nil)))))) (fun s61 => (pg_nameX (pg_name (i := 5) sc_Rulebook___init__.nd rfl (by first | exact Or.inl rfl | exact Or.inr rfl)))) (fun q62 q62x => (b_expr (pr_thaw (i := 4) rfl (fun _ _ _ _ h => h) (pr_call (ok_need_rule B) (hr.mono (by decide)) (pa_consX (pr_unO (pr_name (pv 1) rfl)) (pa_consX (pr_name (pv 5) rfl) (pa_oneX (pr_name (pv 4) rfl)))))) (b_app (pv 4) rfl (pr_ix ix_tup (r2_ixF (j := 0) fsAt_0) (pr_name (pv 5) rfl) pr_int) (fun x63 => (b_nil (t := (q62 ++ [x63])) (.same (.same (.same (.same (.same (.off .nil rfl))))))))))) (fun s61 => (b_fld (ks := []) (pv 0) rfl B.tx.cls_Rulebook B.tx.noat_Rulebook_kept_space (pr_name (pv 1) rfl) rfl (by decide +kernel) (fun x64 => (b_fld (ks := ["kept_space"]) (pv 0) rfl B.tx.cls_Rulebook B.tx.noat_Rulebook_kept_default (pr_name (pv 2) rfl) rfl (by decide +kernel) (fun x65 => (b_fld (ks := ["kept_space", "kept_default"]) (pv 0) rfl B.tx.cls_Rulebook B.tx.noat_Rulebook_kept_rules (pr_frzB (i := 3) rfl (pr_lc (own := [("rule", 5)]) sc_Rulebook___init__.nd (blkOk_by (own := [("rule", 5)]) (N := ["self", "space", "default", "rules", "names", "rule"]) (sc := defScope s_Rulebook___init__) (by decide +kernel)) (pi_listX (pr_unW (pr_name (pv 3) rfl))) (fun _ _ _ _ _ => (pg_nameX (pg_name (i := 5) sc_Rulebook___init__.nd rfl (by first | exact Or.inl rfl | exact Or.inr rfl)))) (fun x66 _ _ _ _ _ => pts_nilX) (fun x66 _ _ _ _ _ => (pr_callX (i := 3) (okx_copied_rule B) rfl (hr.mono (by decide)) (pa_oneX (pr_name (pv 5) rfl)))))) rfl (by decide +kernel) (fun x67 => (b_nil (t := (x64, x65, x67)) (.same (.off (.off (.off (.off (.same .nil) rfl) rfl) rfl) rfl))))))))))))))) (fun i a Q h => ?_)⟩
  obtain ⟨s, e, hb, h⟩ := h
  refine fun _ => ⟨fun d hd => by rw [List.mem_singleton.mp hd]; exact hb.df, by have := hb.few; show (a.2.2.length : Int) ≤ 60; omega, ⟨s, hb.ok⟩, fun p => ?_⟩
  refine forW_inv (fun pre _ st => st = pre.map (·.1)) rfl (fun pre x suf st C e' hi h1 _ _ _ => ?_) (fun st hst => ?_)
  · subst hi
    have hnd := hb.nd
    rw [e'] at hnd
    refine ⟨⟨s, hb.sz, e, hb.ok x (by rw [e']; simp)⟩, nodup_mid hnd, rfl, fun _ => ?_, h1 _ (by simp)⟩
    have h60 := hb.few
    rw [e'] at h60
    simp at h60
    refine smallS ?_
    rw [List.length_map]; omega
  · refine lcW_map1 (fun p => p) _ (fun p _ C c => c) ?_
    rw [List.map_id']
    exact h
theorem fit_needs {s : List Int} {nd : Needs} (hs : s ∈ SZ) (h : okN s (-1) nd = true) (n : Nat) : Fit (n + 4) ((eqL (eqT (eqfC eqI (eqf1 (eqL eqI)))) : Eqp (rNd K)).enc nd) :=
  fit_L (by have := (needs_small hs h).1; omega) (fun p hp => fit_T (fit_of (fit_C fit_I (fit_1 (fit_L (by have := (needs_small hs h).2 p hp; omega) (fun _ _ => fit_I)))) (by decide)))
theorem fit_rules {s : List Int} {df : Int} {rs : List Rule} (hb : BookOk s df rs) : Fit 8 (((eqL (eqT (eqfC eqS (eqfC (eqL (eqT (eqfC eqI (eqf1 (eqL eqI))))) (eqfC eqI (eqfC eqI (eqfC (eqO eqI enn_I) (eqfC (eqO eqI enn_I) (eqf1 (eqL (eqL (eqT (eqfC eqI (eqf1 (eqL eqI))))))))))))))) : Eqp (rL (rRu K))).enc rs) :=
  fit_L (by have := hb.few; omega) (fun x hx => fit_T (fit_of (fit_C fit_S (fit_C (fit_needs hb.sz (hb.ok x hx).needs 2) (fit_C fit_I (fit_C fit_I (fit_C (fit_O fun _ _ => fit_I) (fit_C (fit_O fun _ _ => fit_I) (fit_1 (fit_L (by have := (hb.ok x hx).few; omega) (fun u hu => fit_needs hb.sz ((hb.ok x hx).unl u hu).2 1))))))))) (by decide)))
theorem hxu_rule : ∀ (G : Hp) (v : V) (x : Rule), (rRx K).ok G v x → (rRu K).ok G v x := by
  rintro G v x ⟨a, vs, e, hT, v0, r0, e0, q0, v1, r1, e1, q1, v2, r2, e2, q2, v3, r3, e3, q3, v4, r4, e4, q4, v5, r5, e5, q5, v6, e6, q6⟩
  exact ⟨a, vs, e, hT, v0, r0, e0, q0, v1, r1, e1, rLx_ok q1, v2, r2, e2, q2, v3, r3, e3, q3, v4, r4, e4, q4, v5, r5, e5, q5, v6, e6, rLx_ok q6⟩
theorem hx_rule {s : List Int} {df : Int} {rs : List Rule} (hC : BookOk s df rs) : ∀ (G : Hp) (v : V) (x : Rule), x ∈ rs → (rRx K).ok G v x → ∃ (a : Addr) (ws : List V) (n u : Addr) (l1 l2 : List V), v = .ref a ∧ SqT K G a ws ∧ ws[1]? = some (.ref n) ∧ ws[6]? = some (.ref u) ∧ G n = some (.lst l1) ∧ l1.length ≤ 1000 ∧ G u = some (.lst l2) ∧ l2.length ≤ 1000 := by
  rintro G v x hm ⟨a, vs, e, hT, v0, r0, e0, q0, v1, r1, e1, q1, v2, r2, e2, q2, v3, r3, e3, q3, v4, r4, e4, q4, v5, r5, e5, q5, v6, e6, q6⟩
  obtain ⟨n, l1, en, gn, pn, _⟩ := q1
  obtain ⟨u, l2, eu, gu, pu, _⟩ := q6
  have ok := hC.ok x hm
  have b1 := okN_len ok.needs (by omega)
  have b2 := (sz_small s hC.sz).2
  have b3 := ok.few
  have c1 := paired_len pn
  have c2 := paired_len pu
  have b1' : x.2.1.length ≤ 4 := by
    rcases b1 with z | z
    · omega
    · rw [z]; exact Nat.zero_le _
  refine ⟨a, vs, n, u, l1, l2, e, hT, ?_, ?_, gn, by rw [c1]; omega, gu, by rw [c2]; show x.2.2.2.2.2.2.length ≤ 1000; omega⟩
  · rw [e0, e1, en]; rfl
  · rw [e0, e1, e2, e3, e4, e5, e6, eu]; rfl

theorem sc_law : FnScope ["script", "pool", "made", "k", "turn", "sizes", "rules", "default", "handed", "book", "rule", "forms", "at", "old", "days", "day", "end"] ["script"] (defScope s_law) := ⟨rfl, rfl, rfl, by decide +kernel, rfl, by decide +kernel, by decide +kernel⟩
theorem okf_law (B : Bd P w K mg base) {fd : FuncData} (D : FunD K d_law.name d_law.qual d_law.params d_law.body d_law.scope (He.DefD.dvs K d_law) (He.DefD.kws K d_law) (He.fAd K d_law.at_) fd) : FnOk P w K mg base CX0 11 (He.fAd K d_law.at_) fd ["script"] (SpF (K := K) (fs1 (rL SS.rI)) rB (fun (a : (List Int)) => (fun P => a.length ≤ 63 ∧ P true : W Bool))) := by
  refine fnok_of (post := fun _ : Unit => ([.off, .off, .off, .off, .off, .off, .off, .off, .off, .off, .off, .off, .off, .off, .off, .off, .off] : List (En K))) D sc_law rfl (by decide) fsE_1 (fun a => [.fr (rL SS.rI) a, .off, .off, .off, .off, .off, .off, .off, .off, .off, .off, .off, .off, .off, .off, .off, .off]) (fun _ => rfl) (fun a cdv A outer s H E hr => (b_begin (i := 1) (ok__law_begin B) (hr.mono (by decide)) sc_law.nd rfl (by first | exact Or.inl rfl | exact Or.inr rfl) (pa_oneX (pr_name (pv 0) rfl)) (fun p g => (b_asgL (i := 2) sc_law.nd rfl (by first | exact Or.inl rfl | exact Or.inr rfl) (pr_lst (R := (rT (fsC (r_Rulebook K) (fsC (rL SS.rI) (fsC (rL (SS.rU SS.rI)) (fsC SS.rI (fs1 (rL (rT (fsC rS (fsC (rL (rT (fsC SS.rI (fs1 (rL SS.rI))))) (fsC SS.rI (fsC SS.rI (fsC (rO SS.rI) (fsC (rO SS.rI) (fs1 (rL (rL (rT (fsC SS.rI (fs1 (rL SS.rI)))))))))))))))))))))) pa_nilR) (fun q139 q139l => (b_for (fun s140 : (List (T_Rulebook × (List Int) × (List (List Int)) × Int × (List (Str × (List (Int × (List Int))) × Int × Int × (Option Int) × (Option Int) × (List (List (Int × (List Int)))))))) => [.fr (rL SS.rI) a, .pool p g, .own q139 (rT (fsC (r_Rulebook K) (fsC (rL SS.rI) (fsC (rL (SS.rU SS.rI)) (fsC SS.rI (fs1 (rL (rT (fsC rS (fsC (rL (rT (fsC SS.rI (fs1 (rL SS.rI))))) (fsC SS.rI (fsC SS.rI (fsC (rO SS.rI) (fsC (rO SS.rI) (fs1 (rL (rL (rT (fsC SS.rI (fs1 (rL SS.rI))))))))))))))))))))) s140, .off, .off, .off, .off, .off, .off, .off, .off, .off, .off, .off, .off, .off, .off]) q139l (pi_rng1X B.tx.free_range (pa_oneX pr_int)) (.same (.same (.same (.same (.same (.same (.same (.same (.same (.same (.same (.same (.same (.same (.same (.same (.same .nil))))))))))))))))) (fun s140 => (pg_nameX (pg_name (i := 3) sc_law.nd rfl (by first | exact Or.inl rfl | exact Or.inr rfl)))) (fun q141 q141x => (b_asg (i := 5) sc_law.nd rfl (by first | exact Or.inl rfl | exact Or.inr rfl) (pr_draw (ok__law_sizes B) (hr.mono (by decide)) (pv 1) rfl pa_nilX) (fun x142 => (b_lcT (i := 6) (own := [("at", 12)]) sc_law.nd rfl rfl rfl (by decide +kernel) (blkOk_by (own := [("at", 12)]) (N := ["script", "pool", "made", "k", "turn", "sizes", "rules", "default", "handed", "book", "rule", "forms", "at", "old", "days", "day", "end"]) (sc := defScope s_law) (by decide +kernel)) (pi_rng1X B.tx.free_range (pa_oneX (pr_draw (ok__law_below B) (hr.mono (by decide)) (pv 1) rfl (pa_oneX pr_int)))) (fun _ _ _ _ _ => (pg_nameX (pg_name (i := 12) sc_law.nd rfl (by first | exact Or.inl rfl | exact Or.inr rfl)))) (fun x143 _ _ _ _ _ => pts_nilX) (fun x143 _ _ _ _ _ => (pr_draw (ok__law_rule B) (hr.mono (by decide)) (pv 1) rfl (pa_consX (pr_name (pv 5) rfl) (pa_oneX (pr_op op_add_str r2_addS pr_str (pr_cty call_str_int rc_strI B.tx.free_str (by decide +kernel) (pa_oneX (pr_name (pv 12) rfl)))))))) (fun q144 q144l => (b_if (fun s148 : (List (Str × (List (Int × (List Int))) × Int × Int × (Option Int) × (Option Int) × (List (List (Int × (List Int)))))) => [.fr (rL SS.rI) a, .pool p g, .own q139 (rT (fsC (r_Rulebook K) (fsC (rL SS.rI) (fsC (rL (SS.rU SS.rI)) (fsC SS.rI (fs1 (rL (rT (fsC rS (fsC (rL (rT (fsC SS.rI (fs1 (rL SS.rI))))) (fsC SS.rI (fsC SS.rI (fsC (rO SS.rI) (fsC (rO SS.rI) (fs1 (rL (rL (rT (fsC SS.rI (fs1 (rL SS.rI))))))))))))))))))))) q141, .fr SS.rI q141x, .off, .fr (rL SS.rI) x142, .own q144 (rT (fsC rS (fsC (rL (rT (fsC SS.rI (fs1 (rL SS.rI))))) (fsC SS.rI (fsC SS.rI (fsC (rO SS.rI) (fsC (rO SS.rI) (fs1 (rL (rL (rT (fsC SS.rI (fs1 (rL SS.rI)))))))))))))) s148, .off, .off, .off, .off, .off, .off, .off, .off, .off, .off]) (PW.pt (pw_andX (pt_thaw (i := 6) rfl (pt_cmpX (op_neP hr.units) (r2_ne (eqL (eqT (eqfC eqS (eqfC (eqL (eqT (eqfC eqI (eqf1 (eqL eqI))))) (eqfC eqI (eqfC eqI (eqfC (eqO eqI enn_I) (eqfC (eqO eqI enn_I) (eqf1 (eqL (eqL (eqT (eqfC eqI (eqf1 (eqL eqI)))))))))))))))) (nomark _) (pr_name (pv 6) rfl) (pr_frz (pr_lst (R := (rT (fsC rS (fsC (rL (rT (fsC SS.rI (fs1 (rL SS.rI))))) (fsC SS.rI (fsC SS.rI (fsC (rO SS.rI) (fsC (rO SS.rI) (fs1 (rL (rL (rT (fsC SS.rI (fs1 (rL SS.rI))))))))))))))) pa_nilR)))) (pw_and1X (pt_cmpX (op_eqP hr.units) (r2_eq eqI) (nomark _) (pr_draw (ok__law_below B) (hr.mono (by decide)) (pv 1) rfl (pa_oneX pr_int)) pr_int)))) (b_asg (i := 12) sc_law.nd rfl (by first | exact Or.inl rfl | exact Or.inr rfl) (pr_draw (ok__law_below B) (hr.mono (by decide)) (pv 1) rfl (pa_oneX (pr_thaw (i := 6) rfl (fun _ _ _ _ h => h) (pr_cb call_len_seq rc_len B.tx.free_len (by decide +kernel) (pa_oneX (pr_name (pv 6) rfl)))))) (fun x145 => (b_asg (i := 13) sc_law.nd rfl (by first | exact Or.inl rfl | exact Or.inr rfl) (pr_ownix (pv 6) rfl (pr_name (pv 12) rfl)) (fun x146 => (b_seti (pv 6) rfl (pr_tup (pa_consX (pr_ix ix_tup (r2_ixF (j := 0) fsAt_0) (pr_name (pv 13) rfl) pr_int) (pa_consX (pr_ix ix_tup (r2_ixF (j := 1) (fsAt_s fsAt_0)) (pr_name (pv 13) rfl) pr_int) (pa_consX (pr_ix ix_tup (r2_ixF (j := 2) (fsAt_s (fsAt_s fsAt_0))) (pr_name (pv 13) rfl) pr_int) (pa_consX (pr_op op_mul r2_mul (pr_op op_pow r2_pow pr_int pr_int) (pr_op op_sub r2_sub pr_int (pr_op op_mul r2_mul pr_int (pr_draw (ok__law_below B) (hr.mono (by decide)) (pv 1) rfl (pa_oneX pr_int))))) (pa_consX (pr_ix ix_tup (r2_ixF (j := 4) (fsAt_s (fsAt_s (fsAt_s (fsAt_s fsAt_0))))) (pr_name (pv 13) rfl) pr_int) (pa_consX (pr_ix ix_tup (r2_ixF (j := 5) (fsAt_s (fsAt_s (fsAt_s (fsAt_s (fsAt_s fsAt_0)))))) (pr_name (pv 13) rfl) pr_int) (pa_oneX (pr_ix ix_tup (r2_ixF (j := 6) (fsAt_s (fsAt_s (fsAt_s (fsAt_s (fsAt_s (fsAt_s fsAt_1))))))) (pr_name (pv 13) rfl) pr_int))))))))) (pr_name (pv 12) rfl) (fun q147 q147l => (b_nil (t := (q144l.set q147 q147l)) (.same (.same (.same (.same (.same (.same (.same (.same (.same (.same (.same (.same (.off (.off (.same (.same (.same .nil))) rfl) rfl)))))))))))))))))))) (b_nil (t := q144l) (.same (.same (.same (.same (.same (.same (.same (.same (.same (.same (.same (.same (.same (.same (.same (.same (.same .nil)))))))))))))))))) (fun s148 => (b_asg (i := 7) sc_law.nd rfl (by first | exact Or.inl rfl | exact Or.inr rfl) (pr_op op_sub r2_sub (pr_draw (ok__law_below B) (hr.mono (by decide)) (pv 1) rfl (pa_oneX pr_int)) pr_int) (fun x149 => (b_frz 6 rfl ((b_cond (C := BookOk x142 x149 s148) (fun hC => b_alias (Ru := rRu K) (Rx := rRx K) (Rs := rL SS.rI) (Rbk := r_Rulebook K) (rs := s148) (sz := x142) (d := x149) (bk := (spc x142, x149, s148)) (iH := 8) (iR := 10) (iB := 9) (iRs := 6) (iS := 5) (iD := 7) rfl rfl rfl (by have := hC.few; omega) (hx_rule hC) hxu_rule (by decide) (by decide) (by decide) (by decide) (by decide) (by decide) (by decide) (by decide) (by decide) (by show 8 < 17; decide) (by show 9 < 17; decide) (by show 10 < 17; decide) rfl rfl rfl lays_couple lays_list (fun B0 sts u hu => pss_imp (b_lcK (ρ := (List.replicate 17 (.off : En K)).set 6 (.fr (rWB B0 (rL (rRu K))) s148)) (Rb := rOn B0 (rRx K)) (i := 8) (own := [("rule", 10)]) sc_law.nd rfl rfl rfl (by decide +kernel) (blkOk_by (own := [("rule", 10)]) (N := ["script", "pool", "made", "k", "turn", "sizes", "rules", "default", "handed", "book", "rule", "forms", "at", "old", "days", "day", "end"]) (sc := defScope s_law) (by decide +kernel)) (pi_listX (pr_unW (pr_name (pv 6) rfl))) (fun _ _ _ _ _ => (pg_nameX (pg_name (i := 10) sc_law.nd rfl (by first | exact Or.inl rfl | exact Or.inr rfl)))) (fun x _ _ _ _ _ => pts_nilX) (fun x _ _ _ _ _ => (pr_callX (i := 6) (okx__law_copied_rule B) rfl (hr.mono (by decide)) (pa_oneX (pr_name (pv 10) rfl)))) hu) (fun D σ H ⟨G, s, ev, c⟩ => ⟨G, (· = s148), s, ev, lcW_map1 (fun p => p) _ (fun x hx C c => ⟨⟨_, hC.ok x hx⟩, c⟩) (List.map_id' _), fun G2 H2 q vs xs st e2 px n1 n2 hq pr hz => c G2 H2 q vs (by rw [padr_of (pls_setoff (pls_rep _) rfl)] at st; exact st) n1 n2 hq (by rw [← px]; exact pr) hz⟩)) (ps_set sc_law.nd rfl (by first | exact Or.inl rfl | exact Or.inr rfl) (pe_fam fun B1 => pe_imp (pr_makeX (ρ := (((List.replicate 17 (.off : En K)).set 5 (.fr (rOn B1 (rL SS.rI)) x142)).set 7 (.fr SS.rI x149)).set 8 (.fr (rWB B1 (rL (rRu K))) s148)) (B := B1) (okx_Rulebook___init__ B) (i := 8) rfl (hr.mono (by decide)) (pa_consX (pr_makeOn (B := B1) (ok_Space___init__ B) (i := 8) rfl (hr.mono (by decide)) (pa_oneX (pr_name (pv 5) rfl))) (pa_consX (pr_name (pv 7) rfl) (pa_oneX (pr_name (pv 8) rfl))))) (fun σ H Q ⟨G, P, s, ev, pp, c⟩ => ⟨G, P, s, ev, ⟨hC.sz, _, rfl, hC, pp⟩, c⟩))) (ps_if (pt_imp (pt_cmpX (ρ := ((List.replicate 17 (.off : En K)).set 6 (.fr (rL (rRu K)) s148)).set 8 (.fr (rL (rRu K)) s148)) (op_neP hr.units) (r2_ne (eqL (eqT (eqfC eqS (eqfC (eqL (eqT (eqfC eqI (eqf1 (eqL eqI))))) (eqfC eqI (eqfC eqI (eqfC (eqO eqI enn_I) (eqfC (eqO eqI enn_I) (eqf1 (eqL (eqL (eqT (eqfC eqI (eqf1 (eqL eqI)))))))))))))))) (nomark _) (pr_name (pv 8) rfl) (pr_name (pv 6) rfl)) (fun σ H Q ⟨G, P, s, ev, pp, c⟩ => ⟨G, P, s, ev, (by dsimp only; rw [decide_eq_true rfl]; exact pp), c⟩)) (pss_one (ps_ret pe_bl)) pss_nil) (ps_for PassesOwn.never rfl (pi_list (pv 8)) (pg_name (i := 10) sc_law.nd rfl (by first | exact Or.inl rfl | exact Or.inr rfl)) (pss_cons (ps_expr (pe_bm PySem.F.plainAttrs_list PySem.F.slot_list_append PySem.F.type_list_append mt_append (pe_ix ix_tup (pv 10) pe_int (fun _ _ => rfl)) (pa_cons (pe_tup (pa_cons pe_int (pa_cons (pe_lst (pa_cons pe_int pa_nil)) pa_nil))) pa_nil))) (pss_one (ps_expr (pe_bm PySem.F.plainAttrs_list PySem.F.slot_list_append PySem.F.type_list_append mt_append (pe_ix ix_tup (pv 10) pe_int (fun _ _ => rfl)) (pa_cons (pe_lst (pa_cons (pe_tup (pa_cons pe_int (pa_cons (pe_lst (pa_cons pe_int pa_nil)) pa_nil))) pa_nil)) pa_nil)))))) (ps_expr (pe_bm PySem.F.plainAttrs_list PySem.F.slot_list_append PySem.F.type_list_append mt_append (pv 8) (pa_cons pe_int pa_nil))) (b_app (pv 2) rfl (pr_tup (pa_consX (pr_name (pv 9) rfl) (pa_consX (pr_name (pv 5) rfl) (pa_consX (pr_call (ok__law_forms B) (hr.mono (by decide)) (pa_oneX (pr_name (pv 5) rfl))) (pa_consX (pr_name (pv 7) rfl) (pa_oneX (pr_name (pv 6) rfl))))))) (fun x150 => (b_nil (t := (q141 ++ [x150])) (.same (.same (.same (.off (.same (.off (.off (.off (.same (.off (.same (.same (.same (.same (.same (.same (.same .nil))))))) rfl)) rfl) rfl) rfl)) rfl)))))))))))))) (by intro _ _ h; exact h))))))) (fun s140 => (b_frz 2 rfl (b_for (fun s151 : Unit => [.fr (rL SS.rI) a, .pool p g, .fr (rL (rT (fsC (r_Rulebook K) (fsC (rL SS.rI) (fsC (rL (SS.rU SS.rI)) (fsC SS.rI (fs1 (rL (rT (fsC rS (fsC (rL (rT (fsC SS.rI (fs1 (rL SS.rI))))) (fsC SS.rI (fsC SS.rI (fsC (rO SS.rI) (fsC (rO SS.rI) (fs1 (rL (rL (rT (fsC SS.rI (fs1 (rL SS.rI)))))))))))))))))))))) s140, .off, .off, .off, .off, .off, .off, .off, .off, .off, .off, .off, .off, .off, .off]) () (pi_rng1X B.tx.free_range (pa_oneX pr_int)) (.same (.same (.same (.same (.same (.same (.same (.same (.same (.same (.same (.same (.same (.same (.same (.same (.same .nil))))))))))))))))) (fun s151 => (pg_nameX (pg_name (i := 4) sc_law.nd rfl (by first | exact Or.inl rfl | exact Or.inr rfl)))) (fun q152 q152x => (b_for (fun s153 : Unit => [.fr (rL SS.rI) a, .pool p g, .fr (rL (rT (fsC (r_Rulebook K) (fsC (rL SS.rI) (fsC (rL (SS.rU SS.rI)) (fsC SS.rI (fs1 (rL (rT (fsC rS (fsC (rL (rT (fsC SS.rI (fs1 (rL SS.rI))))) (fsC SS.rI (fsC SS.rI (fsC (rO SS.rI) (fsC (rO SS.rI) (fs1 (rL (rL (rT (fsC SS.rI (fs1 (rL SS.rI)))))))))))))))))))))) s140, .off, .fr SS.rI q152x, .off, .off, .off, .off, .off, .off, .off, .off, .off, .off, .off, .off]) () (pi_listX (pr_name (pv 2) rfl)) (.same (.same (.same (.same (.same (.same (.same (.same (.same (.same (.same (.same (.same (.same (.same (.same (.same .nil))))))))))))))))) (fun s153 => (pg_tupX (pgs_consX (pg_name (i := 9) sc_law.nd rfl (by first | exact Or.inl rfl | exact Or.inr rfl)) (fun _ => (pgs_consX (pg_name (i := 5) sc_law.nd rfl (by first | exact Or.inl rfl | exact Or.inr rfl)) (fun _ => (pgs_consX (pg_name (i := 11) sc_law.nd rfl (by first | exact Or.inl rfl | exact Or.inr rfl)) (fun _ => (pgs_consX (pg_name (i := 7) sc_law.nd rfl (by first | exact Or.inl rfl | exact Or.inr rfl)) (fun _ => (pgs_oneX (pg_name (i := 6) sc_law.nd rfl (by first | exact Or.inl rfl | exact Or.inr rfl))))))))))))) (fun q154 q154x => (b_asgL (i := 14) sc_law.nd rfl (by first | exact Or.inl rfl | exact Or.inr rfl) (pr_lst (R := SS.rI) (pa_consR pr_int (pa_consR (pr_op op_pow r2_pow pr_int pr_int) (pa_consR (pr_un un_neg r1_neg (pr_op op_pow r2_pow pr_int pr_int)) pa_nilR)))) (fun q155 q155l => (b_for (fun s156 : (List Int) => [.fr (rL SS.rI) a, .pool p g, .fr (rL (rT (fsC (r_Rulebook K) (fsC (rL SS.rI) (fsC (rL (SS.rU SS.rI)) (fsC SS.rI (fs1 (rL (rT (fsC rS (fsC (rL (rT (fsC SS.rI (fs1 (rL SS.rI))))) (fsC SS.rI (fsC SS.rI (fsC (rO SS.rI) (fsC (rO SS.rI) (fs1 (rL (rL (rT (fsC SS.rI (fs1 (rL SS.rI)))))))))))))))))))))) s140, .off, .fr SS.rI q152x, .fr (rL SS.rI) q154x.2.1, .fr (rL (rT (fsC rS (fsC (rL (rT (fsC SS.rI (fs1 (rL SS.rI))))) (fsC SS.rI (fsC SS.rI (fsC (rO SS.rI) (fsC (rO SS.rI) (fs1 (rL (rL (rT (fsC SS.rI (fs1 (rL SS.rI))))))))))))))) q154x.2.2.2.2, .fr SS.rI q154x.2.2.2.1, .off, .fr (r_Rulebook K) q154x.1, .off, .fr (rL (SS.rU SS.rI)) q154x.2.2.1, .off, .off, .own q155 SS.rI s156, .off, .off]) q155l (pi_listX (pr_name (pv 6) rfl)) (.same (.same (.same (.same (.same (.same (.same (.same (.same (.same (.same (.same (.same (.same (.same (.same (.same .nil))))))))))))))))) (fun s156 => (pg_nameX (pg_name (i := 10) sc_law.nd rfl (by first | exact Or.inl rfl | exact Or.inr rfl)))) (fun q157 q157x => (b_for (fun s158 : (List Int) => [.fr (rL SS.rI) a, .pool p g, .fr (rL (rT (fsC (r_Rulebook K) (fsC (rL SS.rI) (fsC (rL (SS.rU SS.rI)) (fsC SS.rI (fs1 (rL (rT (fsC rS (fsC (rL (rT (fsC SS.rI (fs1 (rL SS.rI))))) (fsC SS.rI (fsC SS.rI (fsC (rO SS.rI) (fsC (rO SS.rI) (fs1 (rL (rL (rT (fsC SS.rI (fs1 (rL SS.rI)))))))))))))))))))))) s140, .off, .fr SS.rI q152x, .fr (rL SS.rI) q154x.2.1, .fr (rL (rT (fsC rS (fsC (rL (rT (fsC SS.rI (fs1 (rL SS.rI))))) (fsC SS.rI (fsC SS.rI (fsC (rO SS.rI) (fsC (rO SS.rI) (fs1 (rL (rL (rT (fsC SS.rI (fs1 (rL SS.rI))))))))))))))) q154x.2.2.2.2, .fr SS.rI q154x.2.2.2.1, .off, .fr (r_Rulebook K) q154x.1, .fr (rT (fsC rS (fsC (rL (rT (fsC SS.rI (fs1 (rL SS.rI))))) (fsC SS.rI (fsC SS.rI (fsC (rO SS.rI) (fsC (rO SS.rI) (fs1 (rL (rL (rT (fsC SS.rI (fs1 (rL SS.rI)))))))))))))) q157x, .fr (rL (SS.rU SS.rI)) q154x.2.2.1, .off, .off, .own q155 SS.rI s158, .off, .off]) q157 (pi_tupX (pr_tupU (R := (rO SS.rI)) (pa_consR (pr_ix ix_tup (r2_ixF (j := 4) (fsAt_s (fsAt_s (fsAt_s (fsAt_s fsAt_0))))) (pr_name (pv 10) rfl) pr_int) (pa_consR (pr_ix ix_tup (r2_ixF (j := 5) (fsAt_s (fsAt_s (fsAt_s (fsAt_s (fsAt_s fsAt_0)))))) (pr_name (pv 10) rfl) pr_int) pa_nilR)))) (.same (.same (.same (.same (.same (.same (.same (.same (.same (.same (.same (.same (.same (.same (.same (.same (.same .nil))))))))))))))))) (fun s158 => (pg_nameX (pg_name (i := 16) sc_law.nd rfl (by first | exact Or.inl rfl | exact Or.inr rfl)))) (fun q159 q159x => (b_if (fun s161 : (List Int) => [.fr (rL SS.rI) a, .pool p g, .fr (rL (rT (fsC (r_Rulebook K) (fsC (rL SS.rI) (fsC (rL (SS.rU SS.rI)) (fsC SS.rI (fs1 (rL (rT (fsC rS (fsC (rL (rT (fsC SS.rI (fs1 (rL SS.rI))))) (fsC SS.rI (fsC SS.rI (fsC (rO SS.rI) (fsC (rO SS.rI) (fs1 (rL (rL (rT (fsC SS.rI (fs1 (rL SS.rI)))))))))))))))))))))) s140, .off, .fr SS.rI q152x, .fr (rL SS.rI) q154x.2.1, .fr (rL (rT (fsC rS (fsC (rL (rT (fsC SS.rI (fs1 (rL SS.rI))))) (fsC SS.rI (fsC SS.rI (fsC (rO SS.rI) (fsC (rO SS.rI) (fs1 (rL (rL (rT (fsC SS.rI (fs1 (rL SS.rI))))))))))))))) q154x.2.2.2.2, .fr SS.rI q154x.2.2.2.1, .off, .fr (r_Rulebook K) q154x.1, .fr (rT (fsC rS (fsC (rL (rT (fsC SS.rI (fs1 (rL SS.rI))))) (fsC SS.rI (fsC SS.rI (fsC (rO SS.rI) (fsC (rO SS.rI) (fs1 (rL (rL (rT (fsC SS.rI (fs1 (rL SS.rI)))))))))))))) q157x, .fr (rL (SS.rU SS.rI)) q154x.2.2.1, .off, .off, .own q155 SS.rI s161, .off, .fr (rO SS.rI) q159x]) (pt_cmpX op_notN (r2_notN nn_I) (nomark _) (pr_name (pv 16) rfl) pr_nonU) (b_ext (pv 14) rfl (pr_lst (R := SS.rI) (pa_consR (pr_op op_sub r2_sub (pr_get (pr_name (pv 16) rfl)) pr_int) (pa_consR (pr_get (pr_name (pv 16) rfl)) (pa_consR (pr_op op_add r2_add (pr_get (pr_name (pv 16) rfl)) pr_int) pa_nilR)))) (fun x160 => (b_nil (t := (q159 ++ x160)) (.same (.same (.same (.same (.same (.same (.same (.same (.same (.same (.same (.same (.same (.same (.same (.same (.same .nil)))))))))))))))))))) (b_nil (t := q159) (.same (.same (.same (.same (.same (.same (.same (.same (.same (.same (.same (.same (.same (.same (.same (.same (.same .nil)))))))))))))))))) (fun s161 => (b_nil (t := s161) (.same (.same (.same (.same (.same (.same (.same (.same (.same (.same (.same (.same (.same (.same (.same (.same (.off .nil rfl))))))))))))))))))) (by intro _ _ h; exact h))) (fun s158 => (b_nil (t := s158) (.same (.same (.same (.same (.same (.same (.same (.same (.same (.same (.off (.same (.same (.same (.same (.same (.same .nil)))))) rfl))))))))))))))) (fun s156 => (b_frz 14 rfl (b_asg (i := 15) sc_law.nd rfl (by first | exact Or.inl rfl | exact Or.inr rfl) (pr_ix ix_list r2_ixL (pr_name (pv 14) rfl) (pr_draw (ok__law_below B) (hr.mono (by decide)) (pv 1) rfl (pa_oneX (pr_cb call_len_seq rc_len B.tx.free_len (by decide +kernel) (pa_oneX (pr_name (pv 14) rfl)))))) (fun x162 => (b_ifr (pt_notX (pt_valX (pr_call (ok__law_days_right B) (hr.mono (by decide)) (pa_consX (pr_name (pv 9) rfl) (pa_consX (pr_name (pv 5) rfl) (pa_consX (pr_name (pv 11) rfl) (pa_consX (pr_name (pv 7) rfl) (pa_consX (pr_name (pv 6) rfl) (pa_oneX (pr_name (pv 15) rfl)))))))))) (b_ret pr_bl) (b_nil (t := ()) (.same (.same (.same (.same (.same (.off (.off (.off (.same (.off (.same (.off (.same (.same (.off (.off (.same .nil) rfl) rfl))) rfl)) rfl)) rfl) rfl) rfl)))))))))))))))) (fun s153 => (b_nil (t := ()) (.same (.same (.same (.same (.off (.same (.same (.same (.same (.same (.same (.same (.same (.same (.same (.same (.same .nil)))))))))))) rfl))))))))) (fun s151 => (b_for (fun s163 : Unit => [.fr (rL SS.rI) a, .pool p g, .fr (rL (rT (fsC (r_Rulebook K) (fsC (rL SS.rI) (fsC (rL (SS.rU SS.rI)) (fsC SS.rI (fs1 (rL (rT (fsC rS (fsC (rL (rT (fsC SS.rI (fs1 (rL SS.rI))))) (fsC SS.rI (fsC SS.rI (fsC (rO SS.rI) (fsC (rO SS.rI) (fs1 (rL (rL (rT (fsC SS.rI (fs1 (rL SS.rI)))))))))))))))))))))) s140, .off, .off, .off, .off, .off, .off, .off, .off, .off, .off, .off, .off, .off, .off]) () (pi_listX (pr_name (pv 2) rfl)) (.same (.same (.same (.same (.same (.same (.same (.same (.same (.same (.same (.same (.same (.same (.same (.same (.same .nil))))))))))))))))) (fun s163 => (pg_tupX (pgs_consX (pg_name (i := 9) sc_law.nd rfl (by first | exact Or.inl rfl | exact Or.inr rfl)) (fun _ => (pgs_consX (pg_name (i := 5) sc_law.nd rfl (by first | exact Or.inl rfl | exact Or.inr rfl)) (fun _ => (pgs_consX (pg_name (i := 11) sc_law.nd rfl (by first | exact Or.inl rfl | exact Or.inr rfl)) (fun _ => (pgs_consX (pg_name (i := 7) sc_law.nd rfl (by first | exact Or.inl rfl | exact Or.inr rfl)) (fun _ => (pgs_oneX (pg_name (i := 6) sc_law.nd rfl (by first | exact Or.inl rfl | exact Or.inr rfl))))))))))))) (fun q164 q164x => (b_ifr (PW.pt (pw_orX (pt_notX (pt_valX (pr_call (ok__law_just B) (hr.mono (by decide)) (pa_consX (pr_to (fun x => ((eqL (eqT (eqfC eqS (eqfC (eqL (eqT (eqfC eqI (eqf1 (eqL eqI))))) (eqfC eqI (eqfC eqI (eqfC (eqO eqI enn_I) (eqfC (eqO eqI enn_I) (eqf1 (eqL (eqL (eqT (eqfC eqI (eqf1 (eqL eqI))))))))))))))) : Eqp (rL (rT (fsC rS (fsC (rL (rT (fsC SS.rI (fs1 (rL SS.rI))))) (fsC SS.rI (fsC SS.rI (fsC (rO SS.rI) (fsC (rO SS.rI) (fs1 (rL (rL (rT (fsC SS.rI (fs1 (rL SS.rI)))))))))))))))).enc x) (pr_meth0 (ks := ["kept_space", "kept_default", "kept_rules"]) (ok_Rulebook_rules B) (hr.mono (by decide)) (pr_name (pv 9) rfl) (fun _ => rfl) (by decide +kernel)) (fun G v x r => ((eqL (eqT (eqfC eqS (eqfC (eqL (eqT (eqfC eqI (eqf1 (eqL eqI))))) (eqfC eqI (eqfC eqI (eqfC (eqO eqI enn_I) (eqfC (eqO eqI enn_I) (eqf1 (eqL (eqL (eqT (eqfC eqI (eqf1 (eqL eqI))))))))))))))) : Eqp (rL (rT (fsC rS (fsC (rL (rT (fsC SS.rI (fs1 (rL SS.rI))))) (fsC SS.rI (fsC SS.rI (fsC (rO SS.rI) (fsC (rO SS.rI) (fs1 (rL (rL (rT (fsC SS.rI (fs1 (rL SS.rI)))))))))))))))).dp G v x r)) (pa_oneX (pr_to (fun x => ((eqL (eqT (eqfC eqS (eqfC (eqL (eqT (eqfC eqI (eqf1 (eqL eqI))))) (eqfC eqI (eqfC eqI (eqfC (eqO eqI enn_I) (eqfC (eqO eqI enn_I) (eqf1 (eqL (eqL (eqT (eqfC eqI (eqf1 (eqL eqI))))))))))))))) : Eqp (rL (rT (fsC rS (fsC (rL (rT (fsC SS.rI (fs1 (rL SS.rI))))) (fsC SS.rI (fsC SS.rI (fsC (rO SS.rI) (fsC (rO SS.rI) (fs1 (rL (rL (rT (fsC SS.rI (fs1 (rL SS.rI)))))))))))))))).enc x) (pr_name (pv 6) rfl) (fun G v x r => ((eqL (eqT (eqfC eqS (eqfC (eqL (eqT (eqfC eqI (eqf1 (eqL eqI))))) (eqfC eqI (eqfC eqI (eqfC (eqO eqI enn_I) (eqfC (eqO eqI enn_I) (eqf1 (eqL (eqL (eqT (eqfC eqI (eqf1 (eqL eqI))))))))))))))) : Eqp (rL (rT (fsC rS (fsC (rL (rT (fsC SS.rI (fs1 (rL SS.rI))))) (fsC SS.rI (fsC SS.rI (fsC (rO SS.rI) (fsC (rO SS.rI) (fs1 (rL (rL (rT (fsC SS.rI (fs1 (rL SS.rI)))))))))))))))).dp G v x r))))))) (pw_or1X (pt_notX (pt_valX (pr_call (ok__law_just B) (hr.mono (by decide)) (pa_consX (pr_to (fun x => ((eqL eqS) : Eqp (rL rS)).enc x) (pr_meth0 (ks := ["kept_space", "kept_default", "kept_rules"]) (ok_Rulebook_names B) (hr.mono (by decide)) (pr_name (pv 9) rfl) (fun _ => rfl) (by decide +kernel)) (fun G v x r => ((eqL eqS) : Eqp (rL rS)).dp G v x r)) (pa_oneX (pr_to (fun x => ((eqL eqS) : Eqp (rL rS)).enc x) (pr_frz (pr_lc (own := [("rule", 10)]) sc_law.nd (blkOk_by (own := [("rule", 10)]) (N := ["script", "pool", "made", "k", "turn", "sizes", "rules", "default", "handed", "book", "rule", "forms", "at", "old", "days", "day", "end"]) (sc := defScope s_law) (by decide +kernel)) (pi_listX (pr_name (pv 6) rfl)) (fun _ _ _ _ _ => (pg_nameX (pg_name (i := 10) sc_law.nd rfl (by first | exact Or.inl rfl | exact Or.inr rfl)))) (fun x165 _ _ _ _ _ => pts_nilX) (fun x165 _ _ _ _ _ => (pr_ix ix_tup (r2_ixF (j := 0) fsAt_0) (pr_name (pv 10) rfl) pr_int)))) (fun G v x r => ((eqL eqS) : Eqp (rL rS)).dp G v x r)))))))))) (b_ret pr_bl) (b_ifr (PW.pt (pw_orX (pt_notX (pt_valX (pr_call (ok__law_just B) (hr.mono (by decide)) (pa_consX (pr_to (fun x => (eqI : Eqp SS.rI).enc x) (pr_meth0 (ks := ["kept_space", "kept_default", "kept_rules"]) (ok_Rulebook_default B) (hr.mono (by decide)) (pr_name (pv 9) rfl) (fun _ => rfl) (by decide +kernel)) (fun G v x r => (eqI : Eqp SS.rI).dp G v x r)) (pa_oneX (pr_to (fun x => (eqI : Eqp SS.rI).enc x) (pr_name (pv 7) rfl) (fun G v x r => (eqI : Eqp SS.rI).dp G v x r))))))) (pw_or1X (pt_notX (pt_valX (pr_call (ok__law_just B) (hr.mono (by decide)) (pa_consX (pr_to (fun x => ((eqL eqI) : Eqp (rL SS.rI)).enc x) (pr_meth0 (ks := ["kept_sizes", "kept_forms", "kept_steps"]) (ok_Space_sizes B) (hr.mono (by decide)) (pr_meth0 (ks := ["kept_space", "kept_default", "kept_rules"]) (ok_Rulebook_space B) (hr.mono (by decide)) (pr_name (pv 9) rfl) (fun _ => rfl) (by decide +kernel)) (fun _ => rfl) (by decide +kernel)) (fun G v x r => ((eqL eqI) : Eqp (rL SS.rI)).dp G v x r)) (pa_oneX (pr_to (fun x => ((eqL eqI) : Eqp (rL SS.rI)).enc x) (pr_name (pv 5) rfl) (fun G v x r => ((eqL eqI) : Eqp (rL SS.rI)).dp G v x r)))))))))) (b_ret pr_bl) (b_nil (t := ()) (.same (.same (.same (.same (.same (.off (.off (.off (.same (.off (.same (.off (.same (.same (.same (.same (.same .nil))))) rfl)) rfl)) rfl) rfl) rfl)))))))))) (fun s163 => (b_ret pr_bl))))))))))))) (fun a Q h => ?_)
  obtain ⟨hl, h⟩ := h
  refine ⟨hl, fun p g pm => ⟨⟨by decide, by decide⟩, ?_⟩⟩
  refine forW_inv (fun pre _ (st : List MM.Made) => (∀ q ∈ st, MadeOk q) ∧ st.length ≤ pre.length) ⟨(fun q hq => nomatch hq), Nat.le_refl _⟩ (fun pre k suf st C e hi h1 _ _ _ => ?_) (fun st hst => ?_)
  · obtain ⟨_, hk2, _⟩ := rng_mem e
    have e2 : Int.toNat 2 = 2 := rfl
    obtain ⟨i1, i2⟩ := hi
    refine fun s hz => ⟨⟨by decide, by decide⟩, fun r r1 r2 => ⟨⟨by omega, by omega⟩, ?_⟩⟩
    have tail : ∀ rs : List Rule, (∀ x ∈ rs, RuleOk s x) → (rs.map (·.1)).Nodup → rs.length ≤ 9 → ((0 : Int) < 7 ∧ (7 : Int) < 1000000) ∧ ∀ u : Int, 0 ≤ u → u < 7 → BookOk s (u - 3) rs ∧ s ∈ SZ ∧ (st.length ≤ sizeLine → st.length < sizeLine) ∧ C (.nx (st ++ [((spc s, u - 3, rs), s, forms s, u - 3, rs)])) := fun rs q1 q2 q3 =>
      ⟨⟨by decide, by decide⟩, fun u u1 u2 => ⟨⟨hz, ⟨by omega, by omega⟩, by omega, q1, q2⟩, hz, fun _ => smallS (by omega), h1 _ ⟨fun q hq => by
        rcases List.mem_append.mp hq with hq | hq
        · exact i1 q hq
        · rw [List.mem_singleton.mp hq]
          exact ⟨rfl, ⟨hz, ⟨by show -1000000000 ≤ u - 3; omega, by show u - 3 ≤ 1000000000; omega⟩, by show rs.length ≤ 60; omega, q1, q2⟩, rfl, rfl, rfl, q3⟩, by simp only [List.length_append, List.length_cons, List.length_nil]; omega⟩⟩⟩
    refine lcW_all1 (fun k x => RuleOk s x ∧ x.1 = nm k) _ _ (fun k hk C c => ?_) (fun ys hys pa => ?_)
    · obtain ⟨k1, k2⟩ := rng_in hk
      obtain ⟨n1, n2, n3⟩ := nm_ok k1 (by omega)
      exact ⟨n1, n2, hz, n3, fun x hx ex => c x ⟨hx, ex⟩⟩
    · have yl := paired_len hys
      rw [rng_len] at yl
      have y1 : ∀ x ∈ ys, RuleOk s x := fun x hx => by
        obtain ⟨k, _, q⟩ := paired_all hys x hx
        exact q.1
      have y2 : (ys.map (·.1)).Nodup := by
        rw [paired_map (f := nm) (g := fun x : Rule => x.1) (paired_mono2 (fun k x q => q.2) hys)]
        exact nm_nodup _ (by omega)
      dsimp only
      by_cases hy : ys = []
      · rw [dT' hy]; exact tail ys y1 y2 (by omega)
      · rw [dF' hy]
        refine ⟨⟨by decide, by decide⟩, fun r' q1 q2 => ?_⟩
        by_cases h0 : r' = 0
        · rw [dT h0]
          have hp : 0 < ys.length := List.length_pos_iff.mpr hy
          refine fun _ => ⟨⟨by omega, by omega⟩, fun w w1 w2 => ?_⟩
          have hlt : w.toNat < ys.length := by omega
          have gx : ys[w.toNat]? = some (ys.getD w.toNat dfl) := by rw [List.getElem?_eq_getElem hlt]; simp [hlt]
          refine ⟨_, atI_of dfl w1 w2, rfl, rfl, rfl, cpow_9, ⟨by decide, by decide⟩, fun b b1 b2 => ⟨cmulL (by decide) (by decide), cmulL (by decide) (by decide), rfl, rfl, rfl, w.toNat, ixN_of w1 w2, ?_⟩⟩
          refine tail _ (fun x hx => ?_) (by
            have e := set_names (y := ((ys.getD w.toNat dfl).1, (ys.getD w.toNat dfl).2.1, (ys.getD w.toNat dfl).2.2.1, 10 ^ Int.toNat 9 * (1 - 2 * b), (ys.getD w.toNat dfl).2.2.2.2.1, (ys.getD w.toNat dfl).2.2.2.2.2.1, (ys.getD w.toNat dfl).2.2.2.2.2.2)) gx rfl
            rw [e]; exact y2) (by rw [List.length_set]; omega)
          rcases List.mem_or_eq_of_mem_set hx with hx | hx
          · exact y1 x hx
          · rw [hx]; exact rank_ok (y1 _ (List.mem_of_getElem? gx)) b b1 b2
        · rw [dF h0]; exact tail ys y1 y2 (by omega)
  · obtain ⟨hm, hlen⟩ := hst
    rw [rng_len] at hlen
    have e6 : (10 : Int) ^ Int.toNat 6 = 1000000 := by decide
    refine ⟨⟨by decide, by decide⟩, forW_all (fun t _ C1 c1 => ?_) ?_⟩
    · refine forW_all (fun q hq C2 c2 => ?_) c1
      have mk := hm q hq
      refine ⟨cpow_6, cpow_6, fun pd => ?_⟩
      refine forW_inv (fun pre _ (ds : List Int) => (∀ x ∈ ds, DayOk x) ∧ ds.length ≤ 3 + 6 * pre.length ∧ 3 ≤ ds.length) ⟨fun x hx => ?_, by simp, by simp⟩ (fun pre x suf ds C e hi h1 _ _ h4 => ?_) (fun ds hds => ?_)
      · rw [e6] at hx
        simp only [List.mem_cons, List.not_mem_nil, or_false] at hx
        rcases hx with hx | hx | hx <;> rw [hx] <;> exact ⟨by decide, by decide⟩
      · obtain ⟨i1, i2, i3⟩ := hi
        have hx : x ∈ q.1.2.2 := by rw [← mk.rs, e]; simp
        have ok := mk.bk.ok x hx
        have hpl : pre.length < 9 := by
          have h9 := mk.few
          rw [← mk.rs, e] at h9
          simp only [List.length_append, List.length_cons] at h9
          omega
        refine ⟨rfl, rfl, ?_⟩
        refine forW_inv (fun pre' _ (ds' : List Int) => (∀ x ∈ ds', DayOk x) ∧ ds'.length ≤ 3 + 6 * pre.length + 3 * pre'.length ∧ 3 ≤ ds'.length) ⟨i1, by simpa using i2, i3⟩ (fun pre' o suf' ds' C' e' hi' h1' _ _ _ => ?_) (fun ds' hd' => h1 ds' ⟨hd'.1, by have := hd'.2.1; simp only [List.length_append, List.length_cons, List.length_nil] at this ⊢; omega, hd'.2.2⟩)
        obtain ⟨j1, j2, j3⟩ := hi'
        have ho : EndOk o := by
          have : o ∈ [x.2.2.2.2.1, x.2.2.2.2.2.1] := by rw [e']; simp
          simp only [List.mem_cons, List.not_mem_nil, or_false] at this
          rcases this with z | z
          · rw [z]; exact ok.first
          · rw [z]; exact ok.last
        have hp' : pre'.length < 2 := by
          have := congrArg List.length e'
          simp only [List.length_append, List.length_cons, List.length_nil] at this
          omega
        cases o with
        | none => exact h1' ds' ⟨j1, by simp only [List.length_append, List.length_cons, List.length_nil]; omega, j3⟩
        | some v =>
          obtain ⟨v1, v2⟩ := ho v rfl
          refine ⟨v, rfl, v, rfl, v, rfl, small (by simp only [List.length_cons, List.length_nil]; omega), h1' _ ⟨fun y hy => ?_, by simp only [List.length_append, List.length_cons, List.length_nil]; omega, by simp only [List.length_append, List.length_cons, List.length_nil]; omega⟩⟩
          rcases List.mem_append.mp hy with hy | hy
          · exact j1 y hy
          · simp only [List.mem_cons, List.not_mem_nil, or_false] at hy
            unfold DayOk
            omega
      · obtain ⟨d1, d2, d3⟩ := hds
        have h9 := mk.few
        rw [← mk.rs] at h9
        refine fun _ => ⟨⟨by omega, by omega⟩, fun w w1 w2 => ⟨_, atI_of 0 w1 w2, q.2.1, mk.sp, mk.bk, rfl, mk.fm, mk.df, mk.rs, d1 _ ?_, c2⟩⟩
        have hlt : w.toNat < ds.length := by omega
        rw [List.getD_eq_getElem?_getD, List.getElem?_eq_getElem hlt]
        exact List.getElem_mem hlt
    · refine forW_all (fun q hq C c => ?_) h
      have mk := hm q hq
      have hsz := sz_small _ mk.bk.sz
      have h9 := mk.few
      dsimp only
      simp only [Bool.not_true, Bool.false_eq_true, ↓reduceIte]
      refine ⟨⟨by rw [mk.rs], fit_rules mk.bk⟩, lcW_map1 (fun x : Rule => x.1) _ (fun x _ C c => ⟨rfl, c⟩) ⟨⟨by rw [mk.rs], fit_L (by rw [List.length_map]; omega) (fun _ _ => fit_S)⟩, ⟨by rw [mk.df], fit_I⟩, ⟨by rw [mk.sp]; rfl, ?_⟩, c⟩⟩
      rw [mk.sp]
      exact fit_L (show q.2.1.length ≤ 1000 by omega) (fun _ _ => fit_I)
abbrev spLaw (K : PySem.W.Frag) : Sp := (SpF (K := K) (fs1 (rL SS.rI)) rB (fun (a : (List Int)) => (fun P => a.length ≤ 63 ∧ P true : W Bool)))
theorem facts {h : Heap} {f : Addr} (X : K.In h) (G : h.Ns mainGlobals mg) (hfa : mg ("law" : Str) = some (.ref f)) (c : He.SaysD fa fn K) :
    ∃ fd : FuncData, (∀ (s : Shared) (v : Value), BindsTo s fd ⟨[v], []⟩ [("script", v)]) ∧ ∀ base : Heap, K.In base → base.Ns mainGlobals mg → FnOk P w K mg base CX0 11 f fd ["script"] (spLaw K) := by
  obtain ⟨fd, D⟩ := c.def_ 57 (d := d_law) rfl
  have tx := tx_of X G c
  have e := hfa.symm.trans tx.glo_law
  cases e
  have b := FunD.bindsA (ps := ["script"]) D fun _ _ _ _ _ _ us hl => match us, hl with | [_], _ => rfl
  exact ⟨fd, fun s v => b s [v] rfl, fun base _ _ => okf_law ⟨c, tx⟩ D⟩
theorem kept (H : Hp) (a : Addr) (ns : List Int) (hl : ns.length ≤ 63) (hS : SqL K H a (ns.map V.int)) : spLaw K [.ref a] H (fun v _ => v = .bl true) fun _ _ _ => False :=
  ⟨H, ns, (fun b => b = true), Same.refl H, ⟨.ref a, rfl, a, _, rfl, hS, ints_pair ns, by have := szl; rw [List.length_map]; omega⟩, ⟨hl, rfl⟩, fun G' H' v b _ eb rb => by
    have e : v = V.bl b := rb
    rw [e, eb]⟩
end
end KK

set_option maxHeartbeats 0
open PySem PySem.W PySem.Calls PyProof.Rows
theorem PySem.Challenge.cw_stillsealed_k01_the_due_of_each_form_on_holds : PySem.Challenge.rw_stillsealed_k01_the_due_of_each_form_on.Holds := by
  w_on; o_law
  refine HandSHeadRun.head_any (r := OpenLaw.row PySem.Challenge.rw_stillsealed_k01_the_due_of_each_form_on) (q := view (OpenLaw.row PySem.Challenge.rw_stillsealed_k01_the_due_of_each_form_on).prog [49]) (H := KK.hk) (ob := KK.ob) (M := 6000) (loose := KK.loose) (d := HandSHeadRun.topDef (OpenLaw.row PySem.Challenge.rw_stillsealed_k01_the_due_of_each_form_on).prog 49) (kwd := []) KK.ob_eq
    (by kernel_rfl) (fun s => by kernel_rfl) KK.run (by kernel_rfl) (by kernel_rfl) (by kernel_rfl) (by rfl) (by first | assumption | decide +kernel) (by decide +kernel) ⟨rfl, rfl, rfl, rfl, rfl, by decide +kernel⟩ ?hw ?hc
  case hw => w_witness2
  case hc =>
    refine L2.walk_ofE (l := PySem.Challenge.rw_stillsealed_k01_the_due_of_each_form_on) (n := 63) (k := 11) (x := "script") (CX := L2.CX0) rfl (by decide) (by kernel_rfl) ⟨rfl, by decide, by decide⟩ ?F (fun _ _ _ _ z => z)
    intro w mg fa h Y G hmg0
    obtain ⟨K, KX, c⟩ := Y
    have hmg : mg ("law" : PySem.Str) = some (.ref fa) := by
      have e : (HandSHeadRun.topDef (OpenLaw.row PySem.Challenge.rw_stillsealed_k01_the_due_of_each_form_on).prog 49).name = ("law" : PySem.Str) := by kernel_rfl
      rw [← e]
      exact hmg0
    obtain ⟨fd, hb, hF⟩ := KK.facts (P := (PySem.Challenge.rw_stillsealed_k01_the_due_of_each_form_on).prog) (w := w) KX G hmg c
    exact ⟨K, fd, KK.spLaw K, KX, hb, fun H a ns hl _ hS => KK.kept H a ns hl hS, hF⟩
