import PyProof.Rows.All
import Wide.All
import OpenK.AllK
import Wide.FinOn
import HandS.ForMost
import HandS.Walk
import HandS.IsInst
import HandS.TupAny
import KE.GoesMore
import HandS.TupMul
import HandS.Style
import KE.KRevSl
import PySem.Challenge.RW_wordmoot_k72_whole_periods_and_border_ro
set_option Elab.async false
set_option linter.all false
set_option maxRecDepth 100000
set_option maxHeartbeats 4000000
set_option autoImplicit false
namespace M
open PySem PySem.Spec L2

/-! ## what is asked for -/
/-- x, where p holds; nothing else is told -/
noncomputable def gd {α : Type} (p : Prop) (x : α) : Option α := @ite _ p (Classical.propDecidable p) (some x) none
theorem gd_ok {α : Type} {p : Prop} {x : α} (h : p) : gd p x = some x := by unfold gd; rw [if_pos h]
theorem gd_some {α : Type} {p : Prop} {x y : α} (h : gd p x = some y) : p ∧ x = y := by
  unfold gd at h
  by_cases hp : p
  · rw [if_pos hp] at h; exact ⟨hp, Option.some.inj h⟩
  · rw [if_neg hp] at h; cases h

/-! ## the heap grows -/
structure Grow (F H F' H' : Hp) : Prop where
  ff : Same F F'
  hh : Same H H'
  fh : Same F' H'
  new : ∀ p, F p = none → H p ≠ none → F' p = none
theorem Grow.refl {F H : Hp} (h : Same F H) : Grow F H F H := ⟨Same.refl _, Same.refl _, h, fun _ e _ => e⟩
theorem same_ne {H H' : Hp} (s : Same H H') {p : Addr} (h : H p ≠ none) : H' p ≠ none := by
  cases e : H p with
  | none => exact absurd e h
  | some o => rw [s p o e]; exact fun z => by cases z
theorem Grow.trans {F H F1 H1 F2 H2 : Hp} (a : Grow F H F1 H1) (b : Grow F1 H1 F2 H2) : Grow F H F2 H2 :=
  ⟨a.ff.trans b.ff, a.hh.trans b.hh, b.fh, fun p h1 h2 => b.new p (a.new p h1 h2) (same_ne a.hh h2)⟩
theorem same_upd {H : Hp} {p : Addr} {o : HO} (h : H p = none) : Same H (upd H p o) := fun b u e => by
  rw [upd_ne (ne_of_none e h)]; exact e
theorem same_upd2 {F H : Hp} (s : Same F H) {p : Addr} {o : HO} : Same (upd F p o) (upd H p o) := fun b u e => by
  by_cases hb : b = p
  · subst hb; rw [upd_same] at e ⊢; exact e
  · rw [upd_ne hb] at e ⊢; exact s b u e
theorem same_updF {F H : Hp} (s : Same F H) {p : Addr} {o : HO} (h : F p = none) : Same F (upd H p o) := fun b u e => by
  rw [upd_ne (ne_of_none e h)]; exact s b u e
/-- a new object, known for good -/
theorem Grow.fz {F H : Hp} (s : Same F H) {p : Addr} {o : HO} (h : H p = none) : Grow F H (L2.upd F p o) (L2.upd H p o) :=
  ⟨same_upd (s.free h), same_upd h, same_upd2 s, fun q h1 h2 => by rw [upd_ne (fun z => by subst z; exact h2 h)]; exact h1⟩
/-- a new object, not (yet) known -/
theorem Grow.mt {F H : Hp} (s : Same F H) {p : Addr} {o : HO} (h : H p = none) : Grow F H F (L2.upd H p o) :=
  ⟨Same.refl _, same_upd h, same_updF s (s.free h), fun q h1 _ => h1⟩

/-! ## codes -/
structure Cod (K : PySem.W.Frag) (α : Type) where
  rep : Hp → V → α → Prop
  mono : ∀ {F F' : Hp} {v : V} {a : α}, Same F F' → rep F v a → rep F' v a
/-- codes of a row of values -/
structure Row (K : PySem.W.Frag) (α : Type) where
  rep : Hp → List V → α → Prop
  mono : ∀ {F F' : Hp} {v : List V} {a : α}, Same F F' → rep F v a → rep F' v a
theorem same_seqT {K : PySem.W.Frag} {H H' : Hp} {a : Addr} {xs : List V} (e : Same H H') (h : SqT K H a xs) : SqT K H' a xs := by
  rcases h with (h | ⟨o, h⟩) | h
  · exact .inl (.inl (e _ _ h))
  · exact .inl (.inr ⟨o, e _ _ h⟩)
  · exact .inr h
abbrev Reps {K : PySem.W.Frag} {α : Type} (c : Cod K α) (F : Hp) : List V → List α → Prop := Paired (fun v a => c.rep F v a)
section
variable {K : PySem.W.Frag} {α β : Type}
theorem Reps.mono {c : Cod K α} {F F' : Hp} (s : Same F F') : ∀ {vs : List V} {xs : List α}, Reps c F vs xs → Reps c F' vs xs
  | _, _, .nil => .nil
  | _, _, .cons r t => .cons (c.mono s r) (Reps.mono s t)
theorem Reps.length {c : Cod K α} {F : Hp} {vs : List V} {xs : List α} (r : Reps c F vs xs) : vs.length = xs.length := Paired.length r
theorem Reps.get {c : Cod K α} {F : Hp} : ∀ {vs : List V} {xs : List α} {i : Nat} {v : V}, Reps c F vs xs → vs[i]? = some v → ∃ a, xs[i]? = some a ∧ c.rep F v a
  | _, _, _, _, .nil, e => by simp at e
  | _, _, 0, _, .cons r _, e => by simp at e; subst e; exact ⟨_, rfl, r⟩
  | _, _, i + 1, v, .cons _ t, e => by
    obtain ⟨u, h1, h2⟩ := Reps.get (i := i) (v := v) t (by simpa using e)
    exact ⟨u, by simpa using h1, h2⟩
theorem Reps.get' {c : Cod K α} {F : Hp} : ∀ {vs : List V} {xs : List α} {i : Nat} {a : α}, Reps c F vs xs → xs[i]? = some a → ∃ v, vs[i]? = some v ∧ c.rep F v a
  | _, _, _, _, .nil, e => by simp at e
  | _, _, 0, _, .cons r _, e => by simp at e; subst e; exact ⟨_, rfl, r⟩
  | _, _, i + 1, a, .cons _ t, e => by
    obtain ⟨u, h1, h2⟩ := Reps.get' (i := i) (a := a) t (by simpa using e)
    exact ⟨u, by simpa using h1, h2⟩
theorem Reps.append {c : Cod K α} {F : Hp} : ∀ {vs ws : List V} {xs ys : List α}, Reps c F vs xs → Reps c F ws ys → Reps c F (vs ++ ws) (xs ++ ys)
  | _, _, _, _, .nil, s => s
  | _, _, _, _, .cons r t, s => .cons r (Reps.append t s)
theorem Reps.take {c : Cod K α} {F : Hp} : ∀ {vs : List V} {xs : List α} (n : Nat), Reps c F vs xs → Reps c F (vs.take n) (xs.take n)
  | _, _, 0, _ => .nil
  | _, _, _ + 1, .nil => .nil
  | _, _, n + 1, .cons r t => .cons r (Reps.take n t)
theorem Reps.drop {c : Cod K α} {F : Hp} : ∀ {vs : List V} {xs : List α} (n : Nat), Reps c F vs xs → Reps c F (vs.drop n) (xs.drop n)
  | _, _, 0, r => r
  | _, _, _ + 1, .nil => .nil
  | _, _, n + 1, .cons _ t => Reps.drop n t
theorem Reps.set {c : Cod K α} {F : Hp} {v : V} {a : α} (r : c.rep F v a) : ∀ {vs : List V} {xs : List α} (i : Nat), Reps c F vs xs → Reps c F (vs.set i v) (xs.set i a)
  | _, _, _, .nil => .nil
  | _, _, 0, .cons _ t => .cons r t
  | _, _, i + 1, .cons q t => .cons q (Reps.set r i t)
theorem Reps.dropLast {c : Cod K α} {F : Hp} {vs : List V} {xs : List α} (r : Reps c F vs xs) : Reps c F vs.dropLast xs.dropLast := by
  rw [List.dropLast_eq_take, List.dropLast_eq_take, r.length]
  exact r.take _
theorem Reps.reverse {c : Cod K α} {F : Hp} {vs : List V} {xs : List α} (r : Reps c F vs xs) : Reps c F vs.reverse xs.reverse := by
  induction r with
  | nil => exact .nil
  | cons h t ih =>
    rw [List.reverse_cons, List.reverse_cons]
    exact ih.append (.cons h .nil)
end
/-- .. a row no longer than a line -/
structure RepL {K : PySem.W.Frag} {α : Type} (c : Cod K α) (F : Hp) (vs : List V) (xs : List α) : Prop where
  r : Reps c F vs xs
  z : xs.length ≤ sizeLine
section
variable {K : PySem.W.Frag} {α : Type} {c : Cod K α} {F F' : Hp} {vs : List V} {xs : List α}
theorem RepL.mono (s : Same F F') (h : RepL c F vs xs) : RepL c F' vs xs := ⟨h.r.mono s, h.z⟩
theorem RepL.length (h : RepL c F vs xs) : vs.length = xs.length := h.r.length
theorem RepL.vz (h : RepL c F vs xs) : vs.length ≤ sizeLine := by rw [h.length]; exact h.z
end
def cInt {K : PySem.W.Frag} : Cod K Int := ⟨fun _ v a => v = .int a, fun _ h => h⟩
def cBool {K : PySem.W.Frag} : Cod K Bool := ⟨fun _ v a => v = .bl a, fun _ h => h⟩
/-- a text by its code points -/
def tx (l : List Nat) : Str := ⟨l.toArray⟩
/-- no longer than a line, its signs are signs -/
structure StrOk (a : List Nat) : Prop where
  len : a.length ≤ sizeLine
  cps : ∀ c ∈ a, c < 1114112
def cStr {K : PySem.W.Frag} : Cod K (List Nat) := ⟨fun _ v a => v = .str (tx a) ∧ StrOk a, fun _ h => h⟩
def cNon {K : PySem.W.Frag} : Cod K Unit := ⟨fun _ v _ => v = .non, fun _ h => h⟩
def cOpt {K : PySem.W.Frag} {α : Type} (c : Cod K α) : Cod K (Option α) :=
  ⟨fun F v o => match o with | none => v = .non | some a => v ≠ .non ∧ c.rep F v a, fun {F F' v o} s h => by
    cases o with
    | none => exact h
    | some a => exact ⟨h.1, c.mono s h.2⟩⟩
/-- a tuple of any length, all of one code -/
def cTup {K : PySem.W.Frag} {α : Type} (c : Cod K α) : Cod K (List α) :=
  ⟨fun F v xs => ∃ p vs, v = .ref p ∧ SqT K F p vs ∧ RepL c F vs xs, fun s ⟨p, vs, e, h, r⟩ => ⟨p, vs, e, same_seqT s h, r.mono s⟩⟩
/-- a list that is not changed any more -/
def cLst {K : PySem.W.Frag} {α : Type} (c : Cod K α) : Cod K (List α) :=
  ⟨fun F v xs => ∃ p vs, v = .ref p ∧ SqL K F p vs ∧ RepL c F vs xs, fun s ⟨p, vs, e, h, r⟩ => ⟨p, vs, e, s.seq h, r.mono s⟩⟩
/-- a tuple of written items -/
def rOne {K : PySem.W.Frag} {α : Type} (c : Cod K α) : Row K α := ⟨fun F vs a => ∃ v, vs = [v] ∧ c.rep F v a, fun s ⟨v, e, r⟩ => ⟨v, e, c.mono s r⟩⟩
def rCons {K : PySem.W.Frag} {α β : Type} (c : Cod K α) (r : Row K β) : Row K (α × β) :=
  ⟨fun F vs a => ∃ v ws, vs = v :: ws ∧ c.rep F v a.1 ∧ r.rep F ws a.2, fun s ⟨v, ws, e, h, t⟩ => ⟨v, ws, e, c.mono s h, r.mono s t⟩⟩
def cRow {K : PySem.W.Frag} {α : Type} (r : Row K α) : Cod K α :=
  ⟨fun F v a => ∃ p vs, v = .ref p ∧ SqT K F p vs ∧ r.rep F vs a, fun s ⟨p, vs, e, h, t⟩ => ⟨p, vs, e, same_seqT s h, r.mono s t⟩⟩

/-! ## what is known of the names -/
inductive SA (K : PySem.W.Frag) : Type 1
  | any
  | val {α : Type} (c : Cod K α) (a : α)
  /-- a list of this def's own that may still be changed -/
  | own {α : Type} (c : Cod K α) (xs : List α)
  /-- a dict of this def's own, its keys ints and texts -/
  | dic {κ α : Type} (kc : κ → Key) (c : Cod K α) (m : List (κ × α))
  /-- .. its keys tuples of ints and texts -/
  | dit {κ α : Type} (kc : κ → List Key) (c : Cod K α) (m : List (κ × α))
def SA.isOwn {K : PySem.W.Frag} : SA K → Bool
  | .any => false
  | .val _ _ => false
  | .own _ _ => true
  | .dic _ _ _ => true
  | .dit _ _ _ => true
abbrev DReps {K : PySem.W.Frag} {κ α ι : Type} (kc : κ → ι) (c : Cod K α) (F : Hp) : List (ι × V) → List (κ × α) → Prop := Paired (fun kv m => kv.1 = kc m.1 ∧ c.rep F kv.2 m.2)
theorem DReps.mono {K : PySem.W.Frag} {κ α ι : Type} {kc : κ → ι} {c : Cod K α} {F F' : Hp} (s : Same F F') : ∀ {vs : List (ι × V)} {xs : List (κ × α)}, DReps kc c F vs xs → DReps kc c F' vs xs
  | _, _, .nil => .nil
  | _, _, .cons r t => .cons ⟨r.1, c.mono s r.2⟩ (DReps.mono s t)
def SlotOk {K : PySem.W.Frag} (F H : Hp) : SA K → Option V → Prop
  | .any, _ => True
  | .val c a, s => ∃ v, s = some v ∧ c.rep F v a
  | .own c xs, s => ∃ p vs, s = some (.ref p) ∧ F p = none ∧ H p = some (.lst vs) ∧ RepL c F vs xs
  | .dic kc c m, s => ∃ p kvs, s = some (.ref p) ∧ F p = none ∧ H p = some (.dK kvs) ∧ DReps kc c F kvs m
  | .dit kc c m, s => ∃ p kvs, s = some (.ref p) ∧ F p = none ∧ H p = some (.dT kvs) ∧ DReps kc c F kvs m
theorem SlotOk.grow {K : PySem.W.Frag} {F H F' H' : Hp} {sa : SA K} {s : Option V} (g : Grow F H F' H') (h : SlotOk F H sa s) : SlotOk F' H' sa s := by
  cases sa with
  | any => trivial
  | val c a => obtain ⟨v, e, r⟩ := h; exact ⟨v, e, c.mono g.ff r⟩
  | own c xs => obtain ⟨p, vs, e, f, h, r⟩ := h; exact ⟨p, vs, e, g.new p f (by rw [h]; exact fun z => by cases z), g.hh _ _ h, r.mono g.ff⟩
  | dic kc c m => obtain ⟨p, vs, e, f, h, r⟩ := h; exact ⟨p, vs, e, g.new p f (by rw [h]; exact fun z => by cases z), g.hh _ _ h, r.mono g.ff⟩
  | dit kc c m => obtain ⟨p, vs, e, f, h, r⟩ := h; exact ⟨p, vs, e, g.new p f (by rw [h]; exact fun z => by cases z), g.hh _ _ h, r.mono g.ff⟩
/-- the address of what a slot owns -/
theorem SlotOk.owns {K : PySem.W.Frag} {F H : Hp} {sa : SA K} {s : Option V} (h : SlotOk F H sa s) (o : sa.isOwn = true) : ∃ p, s = some (.ref p) ∧ F p = none ∧ H p ≠ none := by
  cases sa with
  | any => cases o
  | val c a => cases o
  | own c xs => obtain ⟨p, vs, e, f, h, r⟩ := h; exact ⟨p, e, f, by rw [h]; exact fun z => by cases z⟩
  | dic kc c m => obtain ⟨p, vs, e, f, h, r⟩ := h; exact ⟨p, e, f, by rw [h]; exact fun z => by cases z⟩
  | dit kc c m => obtain ⟨p, vs, e, f, h, r⟩ := h; exact ⟨p, e, f, by rw [h]; exact fun z => by cases z⟩
abbrev Ga (K : PySem.W.Frag) := List (SA K)
structure EnvOk {K : PySem.W.Frag} (G : Ga K) (F H : Hp) (σ : St) : Prop where
  len : σ.length = G.length
  at_ : ∀ (i : Nat) (sa : SA K), G[i]? = some sa → ∃ s, σ[i]? = some s ∧ SlotOk F H sa s
  inj : ∀ (i j : Nat) (sa sb : SA K) (p : Addr), G[i]? = some sa → G[j]? = some sb → sa.isOwn = true → sb.isOwn = true → σ[i]? = some (some (.ref p)) → σ[j]? = some (some (.ref p)) → i = j
  fh : Same F H
section
variable {K : PySem.W.Frag} {G : Ga K} {F H F' H' : Hp} {σ : St}
theorem EnvOk.grow (e : EnvOk G F H σ) (g : Grow F H F' H') : EnvOk G F' H' σ :=
  ⟨e.len, fun i sa h => let ⟨s, h1, h2⟩ := e.at_ i sa h; ⟨s, h1, h2.grow g⟩, e.inj, g.fh⟩
theorem EnvOk.val (e : EnvOk G F H σ) {i : Nat} {α : Type} {c : Cod K α} {a : α} (h : G[i]? = some (.val c a)) : ∃ v, σ[i]? = some (some v) ∧ c.rep F v a := by
  obtain ⟨s, h1, v, rfl, h2⟩ := e.at_ i _ h
  exact ⟨v, h1, h2⟩
theorem EnvOk.own (e : EnvOk G F H σ) {i : Nat} {α : Type} {c : Cod K α} {xs : List α} (h : G[i]? = some (.own c xs)) : ∃ p vs, σ[i]? = some (some (.ref p)) ∧ F p = none ∧ H p = some (.lst vs) ∧ RepL c F vs xs := by
  obtain ⟨s, h1, p, vs, rfl, h2⟩ := e.at_ i _ h
  exact ⟨p, vs, h1, h2⟩
/-- forgetting -/
def forget (G : Ga K) (i : Nat) : Ga K := G.set i .any
theorem EnvOk.lt (e : EnvOk G F H σ) {i : Nat} {sa : SA K} (h : G[i]? = some sa) : i < σ.length := by
  rw [e.len]; exact (List.getElem?_eq_some_iff.mp h).1
/-- a slot is stored: a value that is known for good -/
theorem EnvOk.set (e : EnvOk G F H σ) {i : Nat} {α : Type} {c : Cod K α} {a : α} {v : V} (r : c.rep F v a) : EnvOk (G.set i (.val c a)) F H (σ.set i (some v)) := by
  refine ⟨by rw [List.length_set, List.length_set]; exact e.len, fun j sa h => ?_, fun j k sa sb p h1 h2 o1 o2 e1 e2 => ?_, e.fh⟩
  · by_cases hj : i = j
    · subst hj
      have hi : i < G.length := by
        have := (List.getElem?_eq_some_iff.mp h).1
        rwa [List.length_set] at this
      rw [List.getElem?_set_self hi] at h
      cases h
      exact ⟨_, List.getElem?_set_self (by rw [e.len]; exact hi), v, rfl, r⟩
    · rw [List.getElem?_set_ne hj] at h ⊢
      exact e.at_ j sa h
  · by_cases hj : i = j
    · subst hj
      rw [List.getElem?_set_self (by have := (List.getElem?_eq_some_iff.mp h1).1; rwa [List.length_set] at this)] at h1
      cases h1; cases o1
    · by_cases hk : i = k
      · subst hk
        rw [List.getElem?_set_self (by have := (List.getElem?_eq_some_iff.mp h2).1; rwa [List.length_set] at this)] at h2
        cases h2; cases o2
      · rw [List.getElem?_set_ne hj] at h1 e1
        rw [List.getElem?_set_ne hk] at h2 e2
        exact e.inj j k sa sb p h1 h2 o1 o2 e1 e2
/-- .. one that is owned from now on: no other slot owns it -/
theorem EnvOk.setO (e : EnvOk G F H σ) {i : Nat} {sa : SA K} {p : Addr} (r : SlotOk F H sa (some (.ref p))) (n : ∀ j, j ≠ i → ∀ sb, G[j]? = some sb → sb.isOwn = true → σ[j]? ≠ some (some (.ref p))) : EnvOk (G.set i sa) F H (σ.set i (some (.ref p))) := by
  refine ⟨by rw [List.length_set, List.length_set]; exact e.len, fun j sb h => ?_, fun j k sa' sb q h1 h2 o1 o2 e1 e2 => ?_, e.fh⟩
  · by_cases hj : i = j
    · subst hj
      have hi : i < G.length := by
        have := (List.getElem?_eq_some_iff.mp h).1
        rwa [List.length_set] at this
      rw [List.getElem?_set_self hi] at h
      cases h
      exact ⟨_, List.getElem?_set_self (by rw [e.len]; exact hi), r⟩
    · rw [List.getElem?_set_ne hj] at h ⊢
      exact e.at_ j sb h
  · have hlt : ∀ {m sc}, (G.set i sa)[m]? = some sc → m < σ.length := fun {m sc} h => by
      have := (List.getElem?_eq_some_iff.mp h).1
      rwa [List.length_set, ← e.len] at this
    by_cases hj : i = j
    · by_cases hk : i = k
      · exact hj.symm.trans hk
      · subst hj
        rw [List.getElem?_set_ne hk] at h2 e2
        rw [List.getElem?_set_self (hlt h1)] at e1
        cases e1
        exact absurd e2 (n k (fun z => hk z.symm) sb h2 o2)
    · by_cases hk : i = k
      · subst hk
        rw [List.getElem?_set_ne hj] at h1 e1
        rw [List.getElem?_set_self (hlt h2)] at e2
        cases e2
        exact absurd e1 (n j (fun z => hj z.symm) sa' h1 o1)
      · rw [List.getElem?_set_ne hj] at h1 e1
        rw [List.getElem?_set_ne hk] at h2 e2
        exact e.inj j k sa' sb q h1 h2 o1 o2 e1 e2
theorem EnvOk.setAny (e : EnvOk G F H σ) {i : Nat} {s : Option V} : EnvOk (G.set i .any) F H (σ.set i s) := by
  refine ⟨by rw [List.length_set, List.length_set]; exact e.len, fun j sa h => ?_, fun j k sa sb p h1 h2 o1 o2 e1 e2 => ?_, e.fh⟩
  · by_cases hj : i = j
    · subst hj
      have hi : i < G.length := by
        have := (List.getElem?_eq_some_iff.mp h).1
        rwa [List.length_set] at this
      rw [List.getElem?_set_self hi] at h
      cases h
      exact ⟨_, List.getElem?_set_self (by rw [e.len]; exact hi), trivial⟩
    · rw [List.getElem?_set_ne hj] at h ⊢
      exact e.at_ j sa h
  · by_cases hj : i = j
    · subst hj
      rw [List.getElem?_set_self (by have := (List.getElem?_eq_some_iff.mp h1).1; rwa [List.length_set] at this)] at h1
      cases h1; cases o1
    · by_cases hk : i = k
      · subst hk
        rw [List.getElem?_set_self (by have := (List.getElem?_eq_some_iff.mp h2).1; rwa [List.length_set] at this)] at h2
        cases h2; cases o2
      · rw [List.getElem?_set_ne hj] at h1 e1
        rw [List.getElem?_set_ne hk] at h2 e2
        exact e.inj j k sa sb p h1 h2 o1 o2 e1 e2
/-- less is known -/
def Le : SA K → SA K → Prop := fun a b => b = .any ∨ a = b
theorem EnvOk.weak {G' : Ga K} (e : EnvOk G F H σ) (hl : G'.length = G.length) (w : ∀ (i : Nat) (sa : SA K), G'[i]? = some sa → sa = .any ∨ G[i]? = some sa) : EnvOk G' F H σ := by
  have hat : ∀ {i : Nat} {sa : SA K}, G'[i]? = some sa → sa.isOwn = true → G[i]? = some sa := fun {i sa} h o => by
    rcases w i sa h with rfl | h'
    · cases o
    · exact h'
  refine ⟨by rw [hl]; exact e.len, fun i sa h => ?_, fun i j sa sb p h1 h2 o1 o2 e1 e2 => e.inj i j sa sb p (hat h1 o1) (hat h2 o2) o1 o2 e1 e2, e.fh⟩
  rcases w i sa h with rfl | h'
  · have hi : i < σ.length := by rw [e.len, ← hl]; exact (List.getElem?_eq_some_iff.mp h).1
    exact ⟨_, List.getElem?_eq_getElem hi, trivial⟩
  · exact e.at_ i sa h'
end
end M

namespace M
open PySem PySem.Spec L2

/-! ## readings that say just what is run -/
def tE (X : Cx) (e : Expr) : TE := fun σ H Q => ∀ (pins : List (Addr × Obj)) (s : Shared), Inv X pins σ H s → wpAny (model X.prog X.w) X.A (eval e X.env) (EP X pins σ Q) X.xe s
def tT (X : Cx) (e : Expr) : TT := fun σ H Q => ∀ (pins : List (Addr × Obj)) (s : Shared), Inv X pins σ H s → wpAny (model X.prog X.w) X.A (isTrue e X.env (eval e X.env)) (TP X pins σ Q) X.xe s
def tW (X : Cx) (e : Expr) : TT := fun σ H Q => ∀ (whole : Sem Value) (pins : List (Addr × Obj)) (s : Shared), Inv X pins σ H s → wpAny (model X.prog X.w) X.A (isTrue e X.env whole) (TP X pins σ Q) X.xe s
def tAr (X : Cx) (es : List Expr) : TA := fun σ H Q => ∀ (pos : Pos) (pins : List (Addr × Obj)) (s : Shared), Inv X pins σ H s → wpAny (model X.prog X.w) X.A (spliced (backTo pos (starEach es X.env))) (AP X pins σ Q) X.xe s
def tSt (X : Cx) (st : Stmt) : TS := fun D σ H => ∀ (pins : List (Addr × Obj)) (s : Shared), Inv X pins σ H s → wpAny (model X.prog X.w) X.A (exec st X.env) (SP X pins D) X.xe s
def tSs (X : Cx) (st : List Stmt) : TS := fun D σ H => ∀ (pins : List (Addr × Obj)) (s : Shared), Inv X pins σ H s → wpAny (model X.prog X.w) X.A (execs st X.env) (SP X pins D) X.xe s
def tI (X : Cx) (tg iter : Expr) : TI := fun σ H R => ∀ (pins : List (Addr × Obj)) (s : Shared), Inv X pins σ H s →
    wpAny (model X.prog X.w) X.A (eval iter X.env) (fun v s1 => wpAny (model X.prog X.w) X.A (pyIter v) (PIE X pins σ tg R) X.xe s1) X.xe s
section
variable {X : Cx} {e : Expr} {es : List Expr} {st : Stmt} {sts : List Stmt} {tg it : Expr}
theorem pe_self : PE X e (tE X e) := ⟨fun pins s _ _ _ I h => h pins s I⟩
theorem pt_self : PT X e (tT X e) := ⟨fun pins s _ _ _ I h => h pins s I⟩
theorem pw_self : PW X e (tW X e) := ⟨fun w pins s _ _ _ I h => h w pins s I⟩
theorem pa_self : PA X es (tAr X es) := ⟨fun pos pins s _ _ _ I h => h pos pins s I⟩
theorem ps_self : PS X st (tSt X st) := ⟨fun pins s _ _ _ I h => h pins s I⟩
theorem pss_self : PSs X sts (tSs X sts) := ⟨fun pins s _ _ _ I h => h pins s I⟩
theorem pi_self : PI X tg it (tI X tg it) := ⟨fun pins s _ _ _ I h => h pins s I⟩
theorem _root_.L2.PE.to {t : TE} (h : PE X e t) {σ : St} {H : Hp} {Q : VK} (q : t σ H Q) : tE X e σ H Q := fun pins s I => h.run pins s σ H Q I q
theorem _root_.L2.PT.to {t : TT} (h : PT X e t) {σ : St} {H : Hp} {Q : Bool → Hp → Prop} (q : t σ H Q) : tT X e σ H Q := fun pins s I => h.run pins s σ H Q I q
theorem _root_.L2.PW.to {t : TT} (h : PW X e t) {σ : St} {H : Hp} {Q : Bool → Hp → Prop} (q : t σ H Q) : tW X e σ H Q := fun w pins s I => h.run w pins s σ H Q I q
theorem _root_.L2.PA.to {t : TA} (h : PA X es t) {σ : St} {H : Hp} {Q : List V → Hp → Prop} (q : t σ H Q) : tAr X es σ H Q := fun pos pins s I => h.run pos pins s σ H Q I q
theorem _root_.L2.PS.to {t : TS} (h : PS X st t) {D : Ends} {σ : St} {H : Hp} (q : t D σ H) : tSt X st D σ H := fun pins s I => h.run pins s σ H D I q
theorem _root_.L2.PSs.to {t : TS} (h : PSs X sts t) {D : Ends} {σ : St} {H : Hp} (q : t D σ H) : tSs X sts D σ H := fun pins s I => h.run pins s σ H D I q
theorem _root_.L2.PI.to {t : TI} (h : PI X tg it t) {σ : St} {H : Hp} {R : It → Hp → Prop} (q : t σ H R) : tI X tg it σ H R := fun pins s I => h.run pins s σ H R I q
end

/-! ## what an expression is worth -/
/-- its value is of the code c and worth r, where r is told -/
def Ex (X : Cx) (G : Ga X.K) (e : Expr) {α : Type} (c : Cod X.K α) (r : Option α) : Prop :=
  ∀ a, r = some a → ∀ (F H : Hp) (σ : St), EnvOk G F H σ → ∀ Q : VK, (∀ v F' H', Grow F H F' H' → c.rep F' v a → Q v H') → tE X e σ H Q
/-- .. it is a new list -/
def ExL (X : Cx) (G : Ga X.K) (e : Expr) {α : Type} (c : Cod X.K α) (r : Option (List α)) : Prop :=
  ∀ a, r = some a → ∀ (F H : Hp) (σ : St), EnvOk G F H σ → ∀ Q : VK, (∀ p vs F' H', Grow F H F' H' → H p = none → F' p = none → H' p = some (.lst vs) → RepL c F' vs a → Q (.ref p) H') → tE X e σ H Q
/-- .. it is a list that may be read there and then -/
def ExB (X : Cx) (G : Ga X.K) (e : Expr) {α : Type} (c : Cod X.K α) (r : Option (List α)) : Prop :=
  ∀ a, r = some a → ∀ (F H : Hp) (σ : St), EnvOk G F H σ → ∀ Q : VK, (∀ p vs F' H', Grow F H F' H' → SqL X.K H' p vs → RepL c F' vs a → Q (.ref p) H') → tE X e σ H Q
/-- a test -/
def Te (X : Cx) (G : Ga X.K) (e : Expr) (r : Option Bool) : Prop :=
  ∀ b, r = some b → ∀ (F H : Hp) (σ : St), EnvOk G F H σ → ∀ Q : Bool → Hp → Prop, (∀ F' H', Grow F H F' H' → Q b H') → tT X e σ H Q
def Tw (X : Cx) (G : Ga X.K) (e : Expr) (r : Option Bool) : Prop :=
  ∀ b, r = some b → ∀ (F H : Hp) (σ : St), EnvOk G F H σ → ∀ Q : Bool → Hp → Prop, (∀ F' H', Grow F H F' H' → Q b H') → tW X e σ H Q
/-- arguments, written items -/
def ExA (X : Cx) (G : Ga X.K) (es : List Expr) {τ : Type} (c : Row X.K τ) (r : Option τ) : Prop :=
  ∀ a, r = some a → ∀ (F H : Hp) (σ : St), EnvOk G F H σ → ∀ Q : List V → Hp → Prop, (∀ vs F' H', Grow F H F' H' → c.rep F' vs a → Q vs H') → tAr X es σ H Q
section
variable {X : Cx} {G : Ga X.K} {α β γ τ : Type}
theorem ExL.b {e : Expr} {c : Cod X.K α} {r : Option (List α)} (h : ExL X G e c r) : ExB X G e c r := fun a ha F H σ E Q q =>
  h a ha F H σ E Q fun p vs F' H' g _ _ e2 rp => q p vs F' H' g (.of e2) rp
theorem ExL.fz {e : Expr} {c : Cod X.K α} {r : Option (List α)} (h : ExL X G e c r) : Ex X G e (cLst c) r := fun a ha F H σ E Q q =>
  h a ha F H σ E Q fun p vs F' H' g n f e2 rp => q (.ref p) (L2.upd F' p (.lst vs)) H'
    ⟨g.ff.trans (same_upd f), g.hh, fun b u z => by
      by_cases hb : b = p
      · subst hb; rw [upd_same] at z; rw [e2]; exact z
      · rw [upd_ne hb] at z; exact g.fh b u z, fun b h1 h2 => by rw [upd_ne (fun z => by subst z; exact h2 n)]; exact g.new b h1 h2⟩
    ⟨p, vs, rfl, .of upd_same, rp.mono (same_upd f)⟩
theorem Ex.b {e : Expr} {c : Cod X.K α} {r : Option (List α)} (h : Ex X G e (cLst c) r) : ExB X G e c r := fun a ha F H σ E Q q =>
  h a ha F H σ E Q fun v F' H' g ⟨p, vs, e2, hq, rp⟩ => by subst e2; exact q p vs F' H' g (g.fh.seq hq) rp

/-! ### names, constants -/
theorem ex_v (i : Nat) {c : Cod X.K α} {a : α} {x : Str} {pos : Pos} (hG : G[i]? = some (.val c a) := by rfl) (hN : X.N[i]? = some x := by rfl) (hv : Vis X.env.scope x := by first | exact Or.inl rfl | exact Or.inr (Or.inl rfl) | exact Or.inr (Or.inr rfl))
    (hd : (x == ("__debug__" : Str)) = false := by decide) (hcd : (x == ("__classdict__" : Str)) = false := by decide) : Ex X G (.Name x pos) c (some a) := fun b hb F H σ E Q q => by
  cases hb
  obtain ⟨v, h1, h2⟩ := E.val hG
  exact (pe_var hN hv hd hcd).to ⟨v, h1, q v F H (.refl E.fh) h2⟩
/-- a list that is owned, read there and then -/
theorem exb_v (i : Nat) {c : Cod X.K α} {a : List α} {x : Str} {pos : Pos} (hG : G[i]? = some (.own c a) := by rfl) (hN : X.N[i]? = some x := by rfl) (hv : Vis X.env.scope x := by first | exact Or.inl rfl | exact Or.inr (Or.inl rfl) | exact Or.inr (Or.inr rfl))
    (hd : (x == ("__debug__" : Str)) = false := by decide) (hcd : (x == ("__classdict__" : Str)) = false := by decide) : ExB X G (.Name x pos) c (some a) := fun b hb F H σ E Q q => by
  cases hb
  obtain ⟨p, vs, h1, h2, h3, h4⟩ := E.own hG
  exact (pe_var hN hv hd hcd).to ⟨.ref p, h1, q p vs F H (.refl E.fh) (.of h3) h4⟩
theorem ex_int {i : Int} {j : Nat} {pos : Pos} : Ex X G (.Constant (.int i) j pos) cInt (some i) := fun b hb F H σ E Q q => by
  cases hb; exact pe_int.to (q _ F H (.refl E.fh) rfl)
theorem ex_bool {i : Bool} {j : Nat} {pos : Pos} : Ex X G (.Constant (.bool i) j pos) cBool (some i) := fun b hb F H σ E Q q => by
  cases hb; exact pe_bl.to (q _ F H (.refl E.fh) rfl)
theorem ex_str {x : Str} {j : Nat} {pos : Pos} (l : List Nat) (h : x = tx l := by decide +kernel) (hl : (decide (l.length ≤ 1000) && l.all fun c => decide (c < 1114112)) = true := by decide) : Ex X G (.Constant (.str x) j pos) cStr (some l) := fun b hb F H σ E Q q => by
  cases hb; subst h; 
  simp only [Bool.and_eq_true, decide_eq_true_eq, List.all_eq_true] at hl
  exact pe_str.to (q _ F H (.refl E.fh) ⟨rfl, Nat.le_of_lt (small1000 hl.1), hl.2⟩)
theorem ex_non {j : Nat} {pos : Pos} : Ex X G (.Constant .none j pos) cNon (some ()) := fun b hb F H σ E Q q => by
  cases hb; exact pe_non.to (q _ F H (.refl E.fh) rfl)
/-- None, where there might be more -/
theorem ex_nonO {c : Cod X.K α} {j : Nat} {pos : Pos} : Ex X G (.Constant .none j pos) (cOpt c) (some none) := fun b hb F H σ E Q q => by
  cases hb; exact pe_non.to (q _ F H (.refl E.fh) rfl)
/-- a value that is never None -/
class NN {K : PySem.W.Frag} {α : Type} (c : Cod K α) : Prop where
  nn : ∀ {F : Hp} {v : V} {a : α}, c.rep F v a → v ≠ .non
instance {K : PySem.W.Frag} : NN (cInt (K := K)) := ⟨fun h => by rw [show _ = V.int _ from h]; exact fun z => by cases z⟩
instance {K : PySem.W.Frag} : NN (cBool (K := K)) := ⟨fun h => by rw [show _ = V.bl _ from h]; exact fun z => by cases z⟩
instance {K : PySem.W.Frag} : NN (cStr (K := K)) := ⟨fun h => by rw [show _ = V.str _ from h.1]; exact fun z => by cases z⟩
instance {K : PySem.W.Frag} {c : Cod K α} : NN (cTup c) := ⟨fun ⟨_, _, e, _⟩ => by rw [e]; exact fun z => by cases z⟩
instance {K : PySem.W.Frag} {c : Cod K α} : NN (cLst c) := ⟨fun ⟨_, _, e, _⟩ => by rw [e]; exact fun z => by cases z⟩
instance {K : PySem.W.Frag} {c : Row K α} : NN (cRow c) := ⟨fun ⟨_, _, e, _⟩ => by rw [e]; exact fun z => by cases z⟩
theorem Ex.some {e : Expr} {c : Cod X.K α} [n : NN c] {r : Option α} (h : Ex X G e c r) : Ex X G e (cOpt c) (r.bind fun x => Option.some (Option.some x)) := fun b hb F H σ E Q q => by
  cases r with
  | none => cases hb
  | some a =>
    cases hb
    exact h a rfl F H σ E Q fun v F' H' g rp => q v F' H' g ⟨n.nn rp, rp⟩
/-- behind a test for None -/
theorem Ex.get {e : Expr} {c : Cod X.K α} {r : Option (Option α)} (h : Ex X G e (cOpt c) r) : Ex X G e c (r.bind id) := fun b hb F H σ E Q q => by
  cases r with
  | none => cases hb
  | some o =>
    cases o with
    | none => cases hb
    | some a =>
      cases hb
      exact h _ rfl F H σ E Q fun v F' H' g rp => q v F' H' g rp.2

/-! ### an operator by values -/
def Op2 (X : Cx) (f : Value → Value → Sem Value) {α β γ : Type} (ca : Cod X.K α) (cb : Cod X.K β) (c : Cod X.K γ) (g : α → β → Option γ) : Prop :=
  ∃ r : R2, OpR X f r ∧ ∀ (i : α) (j : β) (u : γ) (x y : V) (F H : Hp) (Q : VK), g i j = some u → ca.rep F x i → cb.rep F y j → Same F H → (∀ v F' H', Grow F H F' H' → c.rep F' v u → Q v H') → r x y H Q
/-- two in a row -/
theorem two {a b : Expr} {ca : Cod X.K α} {cb : Cod X.K β} {r1 : Option α} {r2 : Option β} (ha : Ex X G a ca r1) (hb : Ex X G b cb r2) {g : α → β → Option γ} {u : γ} (hu : (r1.bind fun i => r2.bind fun j => g i j) = some u)
    {F H : Hp} {σ : St} (E : EnvOk G F H σ) {R : V → V → Hp → Prop} (k : ∀ i j x y F' H', g i j = some u → Grow F H F' H' → ca.rep F' x i → cb.rep F' y j → R x y H') : tE X a σ H fun x H1 => tE X b σ H1 fun y H2 => R x y H2 := by
  cases r1 with
  | none => cases hu
  | some i =>
    cases r2 with
    | none => cases hu
    | some j =>
      exact ha i rfl F H σ E _ fun x F1 H1 g1 rx => hb j rfl F1 H1 σ (E.grow g1) _ fun y F2 H2 g2 ry => k i j x y F2 H2 hu (g1.trans g2) (ca.mono g2.ff rx) ry
theorem ex_op {op : Operator} {a b : Expr} {ca : Cod X.K α} {cb : Cod X.K β} {c : Cod X.K γ} {g : α → β → Option γ} {r1 : Option α} {r2 : Option β} {pos : Pos} (o : Op2 X (binaryOp op) ca cb c g) (ha : Ex X G a ca r1) (hb : Ex X G b cb r2) :
    Ex X G (.BinOp a op b pos) c (r1.bind fun i => r2.bind fun j => g i j) := fun u hu F H σ E Q q => by
  obtain ⟨r, ho, hr⟩ := o
  exact (pe_op ho pe_self pe_self).to (two ha hb hu E fun i j x y F' H' e g' rx ry => hr i j u x y F' H' Q e rx ry g'.fh fun v F2 H2 g2 rv => q v F2 H2 (g'.trans g2) rv)
theorem ex_cmp {op : CmpOp} {a b : Expr} {ca : Cod X.K α} {cb : Cod X.K β} {c : Cod X.K γ} {g : α → β → Option γ} {r1 : Option α} {r2 : Option β} {pos : Pos} (o : Op2 X (compareOp op) ca cb c g) (ha : Ex X G a ca r1) (hb : Ex X G b cb r2)
    (hm : behindInMarks op b = false := by first | exact nomark _ | rfl) : Ex X G (.Compare a [op] [b] pos) c (r1.bind fun i => r2.bind fun j => g i j) := fun u hu F H σ E Q q => by
  obtain ⟨r, ho, hr⟩ := o
  exact (pe_cmpR ho pe_self pe_self hm).to (two ha hb hu E fun i j x y F' H' e g' rx ry => hr i j u x y F' H' Q e rx ry g'.fh fun v F2 H2 g2 rv => q v F2 H2 (g'.trans g2) rv)
theorem te_cmp {op : CmpOp} {a b : Expr} {ca : Cod X.K α} {cb : Cod X.K β} {g : α → β → Option Bool} {r1 : Option α} {r2 : Option β} {pos : Pos} (o : Op2 X (compareOp op) ca cb cBool g) (ha : Ex X G a ca r1) (hb : Ex X G b cb r2)
    (hm : behindInMarks op b = false := by first | exact nomark _ | rfl) : Te X G (.Compare a [op] [b] pos) (r1.bind fun i => r2.bind fun j => g i j) := fun u hu F H σ E Q q => by
  obtain ⟨r, ho, hr⟩ := o
  exact (pt_cmpR ho pe_self pe_self hm).to (two ha hb hu E fun i j x y F' H' e g' rx ry => hr i j u x y F' H' _ e rx ry g'.fh fun v F2 H2 g2 rv => ⟨u, rv, q F2 H2 (g'.trans g2)⟩)
theorem gt_fin {F H : Hp} (s : Same F H) {Q : VK} {γ : Type} {c : Cod X.K γ} {u : γ} (q : ∀ v F' H', Grow F H F' H' → c.rep F' v u → Q v H') {v : V} (r : c.rep F v u) : Q v H := q v F H (.refl s) r
theorem oI0 {f : Value → Value → Sem Value} {g : Int → Int → Int} (h : OpR X f (rI0 fun i j => .int (g i j))) : Op2 X f cInt cInt cInt (fun i j => some (g i j)) :=
  ⟨_, h, fun i j u x y F H Q e rx ry s q => by cases e; exact ⟨i, j, rx, ry, gt_fin s q rfl⟩⟩
theorem oB0 {f : Value → Value → Sem Value} {g : Int → Int → Bool} (h : OpR X f (rI0 fun i j => .bl (g i j))) : Op2 X f cInt cInt cBool (fun i j => some (g i j)) :=
  ⟨_, h, fun i j u x y F H Q e rx ry s q => by cases e; exact ⟨i, j, rx, ry, gt_fin s q rfl⟩⟩
theorem o_add : Op2 X (binaryOp .Add) cInt cInt cInt (fun i j => some (i + j)) := oI0 op_add
theorem o_sub : Op2 X (binaryOp .Sub) cInt cInt cInt (fun i j => some (i - j)) := oI0 op_sub
theorem o_iadd : Op2 X (inplaceOp .Add) cInt cInt cInt (fun i j => some (i + j)) := oI0 iop_add
theorem o_isub : Op2 X (inplaceOp .Sub) cInt cInt cInt (fun i j => some (i - j)) := oI0 iop_sub
theorem o_lt : Op2 X (compareOp .Lt) cInt cInt cBool (fun i j => some (decide (i < j))) := oB0 op_lt
theorem o_le : Op2 X (compareOp .LtE) cInt cInt cBool (fun i j => some (decide (i ≤ j))) := oB0 op_le
theorem o_gt : Op2 X (compareOp .Gt) cInt cInt cBool (fun i j => some (decide (j < i))) := oB0 op_gt
theorem o_ge : Op2 X (compareOp .GtE) cInt cInt cBool (fun i j => some (decide (j ≤ i))) := oB0 op_ge
theorem dI {i j : Int} : decide (V.int i = V.int j) = decide (i = j) := decide_eq_decide.mpr ⟨fun z => V.int.inj z, fun z => by rw [z]⟩
theorem tx_inj {a b : List Nat} (h : tx a = tx b) : a = b := by
  have := congrArg (fun z : Str => z.cps.toList) h
  simpa [tx] using this
theorem dS {i j : List Nat} : decide (V.str (tx i) = V.str (tx j)) = decide (i = j) := decide_eq_decide.mpr ⟨fun z => tx_inj (V.str.inj z), fun z => by rw [z]⟩
theorem dB {i j : Bool} : decide (V.bl i = V.bl j) = decide (i = j) := decide_eq_decide.mpr ⟨fun z => V.bl.inj z, fun z => by rw [z]⟩
theorem o_eqI : Op2 X (compareOp .Eq) cInt cInt cBool (fun i j => some (decide (i = j))) :=
  ⟨_, op_eq, fun i j u x y F H Q e rx ry s q => by cases e; cases rx; cases ry; exact ⟨rfl, by rw [dI]; exact gt_fin s q rfl⟩⟩
theorem o_neI : Op2 X (compareOp .NotEq) cInt cInt cBool (fun i j => some (!decide (i = j))) :=
  ⟨_, op_ne, fun i j u x y F H Q e rx ry s q => by cases e; cases rx; cases ry; exact ⟨rfl, by rw [dI]; exact gt_fin s q rfl⟩⟩
theorem o_eqS : Op2 X (compareOp .Eq) cStr cStr cBool (fun i j => some (decide (i = j))) :=
  ⟨_, op_eq, fun i j u x y F H Q e rx ry s q => by cases e; obtain ⟨rfl, _⟩ := rx; obtain ⟨rfl, _⟩ := ry; exact ⟨rfl, by rw [dS]; exact gt_fin s q rfl⟩⟩
theorem o_neS : Op2 X (compareOp .NotEq) cStr cStr cBool (fun i j => some (!decide (i = j))) :=
  ⟨_, op_ne, fun i j u x y F H Q e rx ry s q => by cases e; obtain ⟨rfl, _⟩ := rx; obtain ⟨rfl, _⟩ := ry; exact ⟨rfl, by rw [dS]; exact gt_fin s q rfl⟩⟩
theorem o_eqB : Op2 X (compareOp .Eq) cBool cBool cBool (fun i j => some (decide (i = j))) :=
  ⟨_, op_eq, fun i j u x y F H Q e rx ry s q => by cases e; cases rx; cases ry; exact ⟨rfl, by rw [dB]; exact gt_fin s q rfl⟩⟩
theorem o_neB : Op2 X (compareOp .NotEq) cBool cBool cBool (fun i j => some (!decide (i = j))) :=
  ⟨_, op_ne, fun i j u x y F H Q e rx ry s q => by cases e; cases rx; cases ry; exact ⟨rfl, by rw [dB]; exact gt_fin s q rfl⟩⟩
/-- one factor below 2 ^ 64 -/
noncomputable def mulG (i j : Int) : Option Int := gd (i.natAbs < 2 ^ 64 ∨ j.natAbs < 2 ^ 64) (i * j)
theorem o_mul : Op2 X (binaryOp .Mult) cInt cInt cInt mulG :=
  ⟨_, op_mul, fun i j u x y F H Q e rx ry s q => by
    obtain ⟨h, e⟩ := gd_some e
    cases e
    refine ⟨i, j, rx, ry, ?_, gt_fin s q rfl⟩
    rcases h with h | h
    · exact .inl (by omega)
    · exact .inr (by omega)⟩
noncomputable def divG (i j : Int) : Option Int := gd (0 < j ∧ j < 1073741824) (i / j)
noncomputable def modG (i j : Int) : Option Int := gd (0 < j) (i % j)
theorem o_div : Op2 X (binaryOp .FloorDiv) cInt cInt cInt divG :=
  ⟨_, op_fdiv, fun i j u x y F H Q e rx ry s q => by
    obtain ⟨h, e⟩ := gd_some e
    cases e
    exact ⟨i, j, rx, ry, h, gt_fin s q rfl⟩⟩
theorem o_mod : Op2 X (binaryOp .Mod) cInt cInt cInt modG :=
  ⟨_, op_mod, fun i j u x y F H Q e rx ry s q => by
    obtain ⟨h, e⟩ := gd_some e
    cases e
    exact ⟨i, j, rx, ry, h, gt_fin s q rfl⟩⟩
noncomputable def powG (i j : Int) : Option Int := gd (0 ≤ j ∧ j ≤ 1000000 ∧ i.natAbs < 2 ^ 64) (i ^ j.toNat)
theorem o_pow : Op2 X (binaryOp .Pow) cInt cInt cInt powG :=
  ⟨_, op_pow, fun i j u x y F H Q e rx ry s q => by
    obtain ⟨h, e⟩ := gd_some e
    cases e
    exact ⟨i, j, rx, ry, h, gt_fin s q rfl⟩⟩
/-- together no longer than a line -/
noncomputable def catG {α : Type} (a b : List α) : Option (List α) := gd (a.length + b.length ≤ sizeLine) (a ++ b)
theorem tx_app (a b : List Nat) : tx a ++ tx b = tx (a ++ b) := by
  show Str.append (tx a) (tx b) = tx (a ++ b)
  unfold Str.append tx
  simp
theorem tx_len (a : List Nat) : (tx a).length = a.length := by unfold tx Str.length; simp
theorem o_catS : Op2 X (binaryOp .Add) cStr cStr cStr catG :=
  ⟨_, op_add_str, fun i j u x y F H Q e rx ry s q => by
    obtain ⟨h, e⟩ := gd_some e
    cases e
    refine ⟨tx i, tx j, rx.1, ry.1, by rw [tx_len, tx_len]; exact h, ?_⟩
    rw [tx_app]
    exact gt_fin s q ⟨rfl, by rw [List.length_append]; exact h, fun c hc => (List.mem_append.mp hc).elim (rx.2.cps c) (ry.2.cps c)⟩⟩
theorem o_icatS : Op2 X (inplaceOp .Add) cStr cStr cStr catG :=
  ⟨_, iop_add_str, fun i j u x y F H Q e rx ry s q => by
    obtain ⟨h, e⟩ := gd_some e
    cases e
    refine ⟨tx i, tx j, rx.1, ry.1, by rw [tx_len, tx_len]; exact h, ?_⟩
    rw [tx_app]
    exact gt_fin s q ⟨rfl, by rw [List.length_append]; exact h, fun c hc => (List.mem_append.mp hc).elim (rx.2.cps c) (ry.2.cps c)⟩⟩
/-- is None -/
theorem ex_isN {e : Expr} {c : Cod X.K α} {r : Option (Option α)} {j : Nat} {pos pos' : Pos} (h : Ex X G e (cOpt c) r) : Ex X G (.Compare e [.Is] [.Constant .none j pos'] pos) cBool (r.bind fun o => Option.some o.isNone) := fun b hb F H σ E Q q => by
  cases r with
  | none => cases hb
  | some o =>
    cases hb
    refine (pe_cmp (pc_isN pe_self)).to (h o rfl F H σ E _ fun v F' H' g rp => ?_)
    refine q _ F' H' g ?_
    cases o with
    | none => rw [show v = V.non from rp]; rfl
    | some a => show V.bl _ = V.bl _; rw [decide_eq_false rp.1]; rfl
theorem ex_notN {e : Expr} {c : Cod X.K α} {r : Option (Option α)} {j : Nat} {pos pos' : Pos} (h : Ex X G e (cOpt c) r) : Ex X G (.Compare e [.IsNot] [.Constant .none j pos'] pos) cBool (r.bind fun o => Option.some o.isSome) := fun b hb F H σ E Q q => by
  cases r with
  | none => cases hb
  | some o =>
    cases hb
    refine (pe_cmp (pc_notN pe_self)).to (h o rfl F H σ E _ fun v F' H' g rp => ?_)
    refine q _ F' H' g ?_
    cases o with
    | none => rw [show v = V.non from rp]; rfl
    | some a => show V.bl _ = V.bl _; rw [decide_eq_false rp.1]; rfl
theorem ex_neg {e : Expr} {r : Option Int} {pos : Pos} (h : Ex X G e cInt r) : Ex X G (.UnaryOp .USub e pos) cInt (r.bind fun i => Option.some (-i)) := fun b hb F H σ E Q q => by
  cases r with
  | none => cases hb
  | some i =>
    cases hb
    exact (pe_un un_neg pe_self).to (h i rfl F H σ E _ fun v F' H' g rp => ⟨i, rp, q _ F' H' g rfl⟩)

/-! ### tests -/
theorem te_val {e : Expr} {r : Option Bool} (h : Ex X G e cBool r) (he : ∀ whole, isTrue e X.env whole = (do let v ← whole; standAt e.pos; holding [v] (truthy v)) := by intro _; rfl) : Te X G e r := fun b hb F H σ E Q q =>
  (pt_val pe_self he).to (h b hb F H σ E _ fun v F' H' g rp => ⟨b, rp, q F' H' g⟩)
theorem te_not {e : Expr} {r : Option Bool} {pos : Pos} (h : Te X G e r) : Te X G (.UnaryOp .Not e pos) (r.bind fun b => Option.some (!b)) := fun b hb F H σ E Q q => by
  cases r with
  | none => cases hb
  | some i =>
    cases hb
    exact (pt_not pt_self).to (h i rfl F H σ E _ fun F' H' g => q F' H' g)
theorem tw_and1 {a : Expr} {pos : Pos} {r : Option Bool} (h : Te X G a r) : Tw X G (.BoolOp .And [a] pos) r := fun b hb F H σ E Q q =>
  (pw_and1 pt_self).to (h b hb F H σ E Q q)
theorem tw_or1 {a : Expr} {pos : Pos} {r : Option Bool} (h : Te X G a r) : Tw X G (.BoolOp .Or [a] pos) r := fun b hb F H σ E Q q =>
  (pw_or1 pt_self).to (h b hb F H σ E Q q)
theorem tw_and {a b : Expr} {rest : List Expr} {pos : Pos} {r1 r2 : Option Bool} (ha : Te X G a r1) (hb : Tw X G (.BoolOp .And (b :: rest) pos) r2) : Tw X G (.BoolOp .And (a :: b :: rest) pos) (r1.bind fun k => if k = true then r2 else some false) := fun u hu F H σ E Q q => by
  cases r1 with
  | none => cases hu
  | some k =>
    refine (pw_and pt_self pw_self).to (ha k rfl F H σ E _ fun F1 H1 g1 => ?_)
    cases k with
    | true => exact hb u hu F1 H1 σ (E.grow g1) Q fun F2 H2 g2 => q F2 H2 (g1.trans g2)
    | false => cases hu; exact q F1 H1 g1
theorem tw_or {a b : Expr} {rest : List Expr} {pos : Pos} {r1 r2 : Option Bool} (ha : Te X G a r1) (hb : Tw X G (.BoolOp .Or (b :: rest) pos) r2) : Tw X G (.BoolOp .Or (a :: b :: rest) pos) (r1.bind fun k => if k = true then some true else r2) := fun u hu F H σ E Q q => by
  cases r1 with
  | none => cases hu
  | some k =>
    refine (pw_or pt_self pw_self).to (ha k rfl F H σ E _ fun F1 H1 g1 => ?_)
    cases k with
    | false => exact hb u hu F1 H1 σ (E.grow g1) Q fun F2 H2 g2 => q F2 H2 (g1.trans g2)
    | true => cases hu; exact q F1 H1 g1
/-- .. all of them told -/
theorem tw_andP {a b : Expr} {rest : List Expr} {pos : Pos} {k l : Bool} (ha : Te X G a (some k)) (hb : Tw X G (.BoolOp .And (b :: rest) pos) (some l)) : Tw X G (.BoolOp .And (a :: b :: rest) pos) (some (k && l)) := by
  have h := tw_and ha hb
  cases k <;> exact h
theorem tw_orP {a b : Expr} {rest : List Expr} {pos : Pos} {k l : Bool} (ha : Te X G a (some k)) (hb : Tw X G (.BoolOp .Or (b :: rest) pos) (some l)) : Tw X G (.BoolOp .Or (a :: b :: rest) pos) (some (k || l)) := by
  have h := tw_or ha hb
  cases k <;> exact h
theorem Tw.te {e : Expr} {r : Option Bool} (h : Tw X G e r) : Te X G e r := fun b hb F H σ E Q q pins s I => h b hb F H σ E Q q _ pins s I
/-! as values -/
theorem ex_one {op : BoolOp} {a : Expr} {pos : Pos} {r : Option α} {c : Cod X.K α} (h : Ex X G a c r) : Ex X G (.BoolOp op [a] pos) c r := fun b hb F H σ E Q q => (pe_one pe_self).to (h b hb F H σ E Q q)
theorem ex_and {a b : Expr} {rest : List Expr} {pos : Pos} {r1 r2 : Option Bool} (ha : Ex X G a cBool r1) (hb : Ex X G (.BoolOp .And (b :: rest) pos) cBool r2) : Ex X G (.BoolOp .And (a :: b :: rest) pos) cBool (r1.bind fun k => if k = true then r2 else some false) := fun u hu F H σ E Q q => by
  cases r1 with
  | none => cases hu
  | some k =>
    refine (pe_and pe_self pe_self).to (ha k rfl F H σ E _ fun v F1 H1 g1 rp => ⟨k, rp, ?_⟩)
    cases k with
    | true => exact hb u hu F1 H1 σ (E.grow g1) Q fun v F2 H2 g2 rp => q v F2 H2 (g1.trans g2) rp
    | false => cases hu; exact q _ F1 H1 g1 rfl
theorem ex_or {a b : Expr} {rest : List Expr} {pos : Pos} {r1 r2 : Option Bool} (ha : Ex X G a cBool r1) (hb : Ex X G (.BoolOp .Or (b :: rest) pos) cBool r2) : Ex X G (.BoolOp .Or (a :: b :: rest) pos) cBool (r1.bind fun k => if k = true then some true else r2) := fun u hu F H σ E Q q => by
  cases r1 with
  | none => cases hu
  | some k =>
    refine (pe_or pe_self pe_self).to (ha k rfl F H σ E _ fun v F1 H1 g1 rp => ⟨k, rp, ?_⟩)
    cases k with
    | false => exact hb u hu F1 H1 σ (E.grow g1) Q fun v F2 H2 g2 rp => q v F2 H2 (g1.trans g2) rp
    | true => cases hu; exact q _ F1 H1 g1 rfl
theorem ex_andP {a b : Expr} {rest : List Expr} {pos : Pos} {k l : Bool} (ha : Ex X G a cBool (some k)) (hb : Ex X G (.BoolOp .And (b :: rest) pos) cBool (some l)) : Ex X G (.BoolOp .And (a :: b :: rest) pos) cBool (some (k && l)) := by
  have h := ex_and ha hb
  cases k <;> exact h
theorem ex_orP {a b : Expr} {rest : List Expr} {pos : Pos} {k l : Bool} (ha : Ex X G a cBool (some k)) (hb : Ex X G (.BoolOp .Or (b :: rest) pos) cBool (some l)) : Ex X G (.BoolOp .Or (a :: b :: rest) pos) cBool (some (k || l)) := by
  have h := ex_or ha hb
  cases k <;> exact h
theorem ex_not {e : Expr} {r : Option Bool} {pos : Pos} (h : Ex X G e cBool r) : Ex X G (.UnaryOp .Not e pos) cBool (r.bind fun b => Option.some (!b)) := fun b hb F H σ E Q q => by
  cases r with
  | none => cases hb
  | some i =>
    cases hb
    exact (pe_not pe_self).to (h i rfl F H σ E _ fun v F' H' g rp => ⟨i, rp, q _ F' H' g rfl⟩)
theorem ex_if {t a b : Expr} {pos : Pos} {c : Cod X.K α} {rt : Option Bool} {r1 r2 : Option α} (ht : Te X G t rt) (ha : Ex X G a c r1) (hb : Ex X G b c r2) : Ex X G (.IfExp t a b pos) c (rt.bind fun k => if k = true then r1 else r2) := fun u hu F H σ E Q q => by
  cases rt with
  | none => cases hu
  | some k =>
    refine (pe_ifExp pt_self pe_self pe_self).to (ht k rfl F H σ E _ fun F1 H1 g1 => ?_)
    cases k with
    | true => exact ha u hu F1 H1 σ (E.grow g1) Q fun v F2 H2 g2 rp => q v F2 H2 (g1.trans g2) rp
    | false => exact hb u hu F1 H1 σ (E.grow g1) Q fun v F2 H2 g2 rp => q v F2 H2 (g1.trans g2) rp
theorem ex_ifP {t a b : Expr} {pos : Pos} {c : Cod X.K α} {k : Bool} {x y : α} (ht : Te X G t (some k)) (ha : Ex X G a c (some x)) (hb : Ex X G b c (some y)) : Ex X G (.IfExp t a b pos) c (some (if k = true then x else y)) := by
  have h := ex_if (pos := pos) ht ha hb
  cases k <;> exact h
end
end M

namespace M
open PySem PySem.Spec L2
section
variable {X : Cx} {G : Ga X.K} {α β γ τ : Type}
theorem ex_chain {op op' : CmpOp} {a b d : Expr} {δ : Type} {ca : Cod X.K α} {cb : Cod X.K β} {cd : Cod X.K δ} {g : α → β → Option Bool} {g' : β → δ → Option Bool} {r1 : Option α} {r2 : Option β} {r3 : Option δ} {pos : Pos} (o : Op2 X (compareOp op) ca cb cBool g) (o' : Op2 X (compareOp op') cb cd cBool g')
    (ha : Ex X G a ca r1) (hb : Ex X G b cb r2) (hd : Ex X G d cd r3) (hm : lastMarks [op, op'] [b, d] = false := by with_unfolding_all rfl) :
    Ex X G (.Compare a [op, op'] [b, d] pos) cBool (r1.bind fun i => r2.bind fun j => (g i j).bind fun k => if k = true then r3.bind fun l => g' j l else some false) := fun u hu F H σ E Q q => by
  obtain ⟨r, ho, hr⟩ := o
  obtain ⟨r', ho', hr'⟩ := o'
  refine (pe_chain ho ho' pe_self pe_self pe_self hm).to (two ha hb hu E fun i j x y F' H' e g1 rx ry => ?_)
  cases hg : g i j with
  | none => rw [hg] at e; cases e
  | some k =>
    rw [hg] at e
    refine hr i j k x y F' H' _ hg rx ry g1.fh fun v F2 H2 g2 rv => ⟨k, rv, ?_⟩
    cases k with
    | false => cases e; exact q _ F2 H2 (g1.trans g2) rfl
    | true =>
      cases r3 with
      | none => cases e
      | some l =>
        exact hd l rfl F2 H2 σ (E.grow (g1.trans g2)) _ fun w' F3 H3 g3 rw' => hr' j l u y w' F3 H3 Q e (cb.mono (g2.ff.trans g3.ff) ry) rw' g3.fh fun v F4 H4 g4 rv => q v F4 H4 (((g1.trans g2).trans g3).trans g4) rv
theorem ex_chainP {op op' : CmpOp} {a b d : Expr} {δ : Type} {ca : Cod X.K α} {cb : Cod X.K β} {cd : Cod X.K δ} {g : α → β → Option Bool} {g' : β → δ → Option Bool} {i : α} {j : β} {l : δ} {pos : Pos} {k k' : Bool} (o : Op2 X (compareOp op) ca cb cBool g) (o' : Op2 X (compareOp op') cb cd cBool g')
    (ha : Ex X G a ca (some i)) (hb : Ex X G b cb (some j)) (hd : Ex X G d cd (some l)) (h1 : g i j = some k) (h2 : g' j l = some k') (hm : lastMarks [op, op'] [b, d] = false := by with_unfolding_all rfl) :
    Ex X G (.Compare a [op, op'] [b, d] pos) cBool (some (k && k')) := by
  have h := ex_chain (pos := pos) o o' ha hb hd hm
  have e : ((some i).bind fun i => (some j).bind fun j => (g i j).bind fun k => if k = true then (some l).bind fun l => g' j l else some false) = some (k && k') := by
    show ((g i j).bind fun k => if k = true then g' j l else some false) = _
    rw [h1, h2]
    cases k <;> rfl
  rw [e] at h
  exact h
/-- isTrue of a chain -/
theorem te_chain {op op' : CmpOp} {a b d : Expr} {δ : Type} {ca : Cod X.K α} {cb : Cod X.K β} {cd : Cod X.K δ} {g : α → β → Option Bool} {g' : β → δ → Option Bool} {r1 : Option α} {r2 : Option β} {r3 : Option δ} {pos : Pos} (o : Op2 X (compareOp op) ca cb cBool g) (o' : Op2 X (compareOp op') cb cd cBool g')
    (ha : Ex X G a ca r1) (hb : Ex X G b cb r2) (hd : Ex X G d cd r3) (hm : lastMarks [op, op'] [b, d] = false := by with_unfolding_all rfl) :
    Te X G (.Compare a [op, op'] [b, d] pos) (r1.bind fun i => r2.bind fun j => (g i j).bind fun k => if k = true then r3.bind fun l => g' j l else some false) := fun u hu F H σ E Q q => by
  obtain ⟨r, ho, hr⟩ := o
  obtain ⟨r', ho', hr'⟩ := o'
  refine (pt_chain ho ho' pe_self pe_self pe_self hm).to (two ha hb hu E fun i j x y F' H' e g1 rx ry => ?_)
  cases hg : g i j with
  | none => rw [hg] at e; cases e
  | some k =>
    rw [hg] at e
    refine hr i j k x y F' H' _ hg rx ry g1.fh fun v F2 H2 g2 rv => ⟨k, rv, ?_⟩
    cases k with
    | false => cases e; exact ⟨false, rfl, q F2 H2 (g1.trans g2)⟩
    | true =>
      cases r3 with
      | none => cases e
      | some l =>
        exact hd l rfl F2 H2 σ (E.grow (g1.trans g2)) _ fun w' F3 H3 g3 rw' => hr' j l u y w' F3 H3 _ e (cb.mono (g2.ff.trans g3.ff) ry) rw' g3.fh fun v F4 H4 g4 rv => ⟨u, rv, q F4 H4 (((g1.trans g2).trans g3).trans g4)⟩
theorem te_chainP {op op' : CmpOp} {a b d : Expr} {δ : Type} {ca : Cod X.K α} {cb : Cod X.K β} {cd : Cod X.K δ} {g : α → β → Option Bool} {g' : β → δ → Option Bool} {i : α} {j : β} {l : δ} {pos : Pos} {k k' : Bool} (o : Op2 X (compareOp op) ca cb cBool g) (o' : Op2 X (compareOp op') cb cd cBool g')
    (ha : Ex X G a ca (some i)) (hb : Ex X G b cb (some j)) (hd : Ex X G d cd (some l)) (h1 : g i j = some k) (h2 : g' j l = some k') (hm : lastMarks [op, op'] [b, d] = false := by with_unfolding_all rfl) :
    Te X G (.Compare a [op, op'] [b, d] pos) (some (k && k')) := by
  have h := te_chain (pos := pos) o o' ha hb hd hm
  have e : ((some i).bind fun i => (some j).bind fun j => (g i j).bind fun k => if k = true then (some l).bind fun l => g' j l else some false) = some (k && k') := by
    show ((g i j).bind fun k => if k = true then g' j l else some false) = _
    rw [h1, h2]
    cases k <;> rfl
  rw [e] at h
  exact h

/-! ### rows of written items -/
def rNil {K : PySem.W.Frag} : Row K Unit := ⟨fun _ vs _ => vs = [], fun _ h => h⟩
theorem ea_one {e : Expr} {c : Cod X.K α} {r : Option α} (h : Ex X G e c r) (hs : starEach [e] X.env = (false, eval e X.env) :: starEach [] X.env := by rfl) : ExA X G [e] (rOne c) r := fun a ha F H σ E Q q =>
  (pa_cons pe_self pa_nil hs).to (h a ha F H σ E _ fun v F' H' g rp => q [v] F' H' g ⟨v, rfl, rp⟩)
theorem ea_cons {e : Expr} {es : List Expr} {c : Cod X.K α} {rw' : Row X.K τ} {r : Option α} {rs : Option τ} (h : Ex X G e c r) (hr : ExA X G es rw' rs) (hs : starEach (e :: es) X.env = (false, eval e X.env) :: starEach es X.env := by rfl) :
    ExA X G (e :: es) (rCons c rw') (r.bind fun a => rs.bind fun b => some (a, b)) := fun u hu F H σ E Q q => by
  cases r with
  | none => cases hu
  | some a =>
    cases rs with
    | none => cases hu
    | some b =>
      cases hu
      exact (pa_cons pe_self pa_self hs).to (h a rfl F H σ E _ fun v F1 H1 g1 rv => hr b rfl F1 H1 σ (E.grow g1) _ fun vs F2 H2 g2 rvs => q (v :: vs) F2 H2 (g1.trans g2) ⟨v, vs, rfl, c.mono g2.ff rv, rvs⟩)
/-- written items, all of one code, as a list of them -/
def rList {K : PySem.W.Frag} {α : Type} (c : Cod K α) : Row K (List α) := ⟨fun F vs a => Reps c F vs a, fun s h => h.mono s⟩
theorem el_nil {c : Cod X.K α} : ExA X G [] (rList c) (some []) := fun a ha F H σ E Q q => by
  cases ha
  exact pa_nil.to (q [] F H (.refl E.fh) .nil)
theorem el_cons {e : Expr} {es : List Expr} {c : Cod X.K α} {r : Option α} {rs : Option (List α)} (h : Ex X G e c r) (hr : ExA X G es (rList c) rs) (hs : starEach (e :: es) X.env = (false, eval e X.env) :: starEach es X.env := by rfl) :
    ExA X G (e :: es) (rList c) (r.bind fun a => rs.bind fun b => some (a :: b)) := fun u hu F H σ E Q q => by
  cases r with
  | none => cases hu
  | some a =>
    cases rs with
    | none => cases hu
    | some b =>
      cases hu
      exact (pa_cons pe_self pa_self hs).to (h a rfl F H σ E _ fun v F1 H1 g1 rv => hr b rfl F1 H1 σ (E.grow g1) _ fun vs F2 H2 g2 rvs => q (v :: vs) F2 H2 (g1.trans g2) (.cons (c.mono g2.ff rv) rvs))
/-- how many values a written row has -/
class RLen {K : PySem.W.Frag} {τ : Type} (r : Row K τ) (n : outParam Nat) : Prop where
  len : ∀ {F : Hp} {vs : List V} {a : τ}, r.rep F vs a → vs.length = n
instance {K : PySem.W.Frag} : RLen (rNil (K := K)) 0 := ⟨fun h => by rw [show _ = [] from h]; rfl⟩
instance {K : PySem.W.Frag} {c : Cod K α} : RLen (rOne c) 1 := ⟨fun ⟨v, e, _⟩ => by rw [e]; rfl⟩
instance {K : PySem.W.Frag} {c : Cod K α} {r : Row K τ} {n : Nat} [h : RLen r n] : RLen (rCons c r) (n + 1) := ⟨fun ⟨v, ws, e, _, t⟩ => by rw [e, List.length_cons, h.len t]⟩
/-- (a, b, ..) -/
theorem ex_tup {es : List Expr} {k : Nat} {pos : Pos} {rw' : Row X.K τ} {r : Option τ} {n : Nat} [hn : RLen rw' n] (h : ExA X G es rw' r) (hz : n ≤ 1000 := by decide) : Ex X G (.Tuple es k pos) (cRow rw') r := fun u hu F H σ E Q q =>
  (pe_tup pa_self).to (h u hu F H σ E _ fun vs F' H' g rp => ⟨by rw [hn.len rp]; exact Nat.le_of_lt (small1000 hz), fun p np =>
    q (.ref p) (L2.upd F' p (.tup vs)) _ (g.trans (.fz g.fh np)) ⟨p, vs, rfl, .of upd_same, rw'.mono (same_upd (g.fh.free np)) rp⟩⟩)
/-- (a, b, ..), all of one code, as a list; () too -/
theorem ex_tupL {es : List Expr} {k : Nat} {pos : Pos} {c : Cod X.K α} {r : Option (List α)} (h : ExA X G es (rList c) r) (hz : ∀ a, r = some a → a.length ≤ 1000 := by intro a ha; first | (cases ha; decide) | (simp only [Option.bind_eq_some_iff] at ha; grind)) : Ex X G (.Tuple es k pos) (cTup c) r := fun u hu F H σ E Q q =>
  (pe_tup pa_self).to (h u hu F H σ E _ fun vs F' H' g rp => ⟨by rw [Reps.length rp]; exact Nat.le_of_lt (small1000 (hz u hu)), fun p np =>
    q (.ref p) (L2.upd F' p (.tup vs)) _ (g.trans (.fz g.fh np)) ⟨p, vs, rfl, .of upd_same, ⟨Reps.mono (c := c) (same_upd (g.fh.free np)) rp, Nat.le_of_lt (small1000 (hz u hu))⟩⟩⟩)
/-- [a, b, ..] -/
theorem exl_disp {es : List Expr} {pos : Pos} {c : Cod X.K α} {r : Option (List α)} (h : ExA X G es (rList c) r) (hz : ∀ a, r = some a → a.length ≤ 1000 := by intro a ha; first | (cases ha; decide) | (simp only [Option.bind_eq_some_iff] at ha; grind)) : ExL X G (.List es pos) c r := fun u hu F H σ E Q q =>
  (pe_lst pa_self).to (h u hu F H σ E _ fun vs F' H' g rp => ⟨by rw [Reps.length rp]; exact Nat.le_of_lt (small1000 (hz u hu)), fun p np =>
    q p vs F' _ (g.trans (.mt g.fh np)) (g.hh.free np) (g.fh.free np) upd_same ⟨rp, Nat.le_of_lt (small1000 (hz u hu))⟩⟩)

/-! ### subscripts -/
theorem atI_reps {K : PySem.W.Frag} {F : Hp} {c : Cod K α} {vs : List V} {xs : List α} {i : Int} {a : α} (r : Reps c F vs xs) (h : atI xs i = some a) : ∃ v, atI vs i = some v ∧ c.rep F v a := by
  unfold atI at h ⊢
  rw [r.length]
  cases e : ixN xs.length i with
  | none => rw [e] at h; cases h
  | some j =>
    rw [e] at h
    obtain ⟨v, h1, h2⟩ := r.get' (show xs[j]? = some a from h)
    exact ⟨v, h1, h2⟩
theorem ex_ixT {a b : Expr} {pos : Pos} {c : Cod X.K α} {r1 : Option (List α)} {r2 : Option Int} (ha : Ex X G a (cTup c) r1) (hb : Ex X G b cInt r2) (hs : PlainIx b := by exact fun _ _ => rfl) : Ex X G (.Subscript a b pos) c (r1.bind fun xs => r2.bind fun i => atI xs i) := fun u hu F H σ E Q q =>
  (pe_ix ix_tup pe_self pe_self hs).to (two ha hb hu E fun xs i x y F' H' e g rx ry => by
    obtain ⟨p, vs, rfl, hq, rp⟩ := rx
    obtain ⟨v, h1, h2⟩ := atI_reps rp.r e
    exact ⟨p, vs, i, v, rfl, ry, same_seqT g.fh hq, h1, q v F' H' g h2⟩)
/-- two in a row, the first a list there and then -/
theorem twoB {a b : Expr} {ca : Cod X.K α} {cb : Cod X.K β} {r1 : Option (List α)} {r2 : Option β} (ha : ExB X G a ca r1) (hb : Ex X G b cb r2) {g : List α → β → Option γ} {u : γ} (hu : (r1.bind fun i => r2.bind fun j => g i j) = some u)
    {F H : Hp} {σ : St} (E : EnvOk G F H σ) {R : V → V → Hp → Prop} (k : ∀ i j p vs y F' H', g i j = some u → Grow F H F' H' → SqL X.K H' p vs → RepL ca F' vs i → cb.rep F' y j → R (.ref p) y H') : tE X a σ H fun x H1 => tE X b σ H1 fun y H2 => R x y H2 := by
  cases r1 with
  | none => cases hu
  | some i =>
    cases r2 with
    | none => cases hu
    | some j =>
      exact ha i rfl F H σ E _ fun p vs F1 H1 g1 hq rx => hb j rfl F1 H1 σ (E.grow g1) _ fun y F2 H2 g2 ry => k i j p vs y F2 H2 hu (g1.trans g2) (g2.hh.seq hq) (rx.mono g2.ff) ry
theorem ex_ixL {a b : Expr} {pos : Pos} {c : Cod X.K α} {r1 : Option (List α)} {r2 : Option Int} (ha : ExB X G a c r1) (hb : Ex X G b cInt r2) (hs : PlainIx b := by exact fun _ _ => rfl) : Ex X G (.Subscript a b pos) c (r1.bind fun xs => r2.bind fun i => atI xs i) := fun u hu F H σ E Q q =>
  (pe_ix ix_list pe_self pe_self hs).to (twoB ha hb hu E fun xs i p vs y F' H' e g hq rp ry => by
    obtain ⟨v, h1, h2⟩ := atI_reps rp.r e
    exact ⟨p, vs, i, v, rfl, ry, hq, h1, q v F' H' g h2⟩)
theorem tx_toList (l : List Nat) : (tx l).cps.toList = l := by simp [tx]
def cut {α : Type} (xs : List α) (lo hi : Option Int) : List α := (xs.drop (HT.sIx xs.length 0 lo)).take (HT.sIx xs.length xs.length hi - HT.sIx xs.length 0 lo)
theorem cut_len {α : Type} (l : List α) (lo hi : Option Int) : (cut l lo hi).length ≤ l.length := by
  unfold cut
  rw [List.length_take, List.length_drop]
  omega
def chI (l : List Nat) (i : Int) : Option (List Nat) := (atI l i).map fun c => [c]
theorem atI_mem {α : Type} {xs : List α} {i : Int} {a : α} (h : atI xs i = some a) : a ∈ xs := by
  obtain ⟨j, _, h2, _⟩ := atI_get h
  exact List.mem_of_getElem? h2
theorem cut_mem {α : Type} {l : List α} {lo hi : Option Int} {a : α} (h : a ∈ cut l lo hi) : a ∈ l := List.mem_of_mem_drop (List.mem_of_mem_take h)
theorem ex_ixS {a b : Expr} {pos : Pos} {r1 : Option (List Nat)} {r2 : Option Int} (ha : Ex X G a cStr r1) (hb : Ex X G b cInt r2) (hs : PlainIx b := by exact fun _ _ => rfl) : Ex X G (.Subscript a b pos) cStr (r1.bind fun xs => r2.bind fun i => chI xs i) := fun u hu F H σ E Q q =>
  (pe_ix ix_str pe_self pe_self hs).to (two ha hb hu E fun xs i x y F' H' e g rx ry => by
    unfold chI at e
    cases h : atI xs i with
    | none => rw [h] at e; cases e
    | some c =>
      rw [h] at e; cases e
      refine ⟨tx xs, i, c, rx.1, ry, by rw [tx_len]; exact rx.2.len, by rw [tx_toList]; exact h, q _ F' H' g ⟨rfl, Nat.le_of_lt (small1000 (show ([c] : List Nat).length ≤ 1000 from by simp)), fun d hd => ?_⟩⟩
      have e2 : d = c := by simpa using hd
      subst e2
      exact rx.2.cps d (atI_mem h))
/-! rows by a written place -/
class RAt {K : PySem.W.Frag} {τ : Type} (r : Row K τ) (k : Nat) {α : outParam Type} (c : outParam (Cod K α)) (f : outParam (τ → α)) : Prop where
  at_ : ∀ {F : Hp} {vs : List V} {a : τ}, r.rep F vs a → ∃ v, vs[k]? = some v ∧ c.rep F v (f a)
instance {K : PySem.W.Frag} {c : Cod K α} : RAt (rOne c) 0 c (fun a => a) := ⟨fun ⟨v, e, h⟩ => ⟨v, by rw [e]; rfl, h⟩⟩
instance (priority := high) {K : PySem.W.Frag} {c : Cod K α} {r : Row K τ} : RAt (rCons c r) 0 c (fun a => a.1) := ⟨fun ⟨v, ws, e, h, t⟩ => ⟨v, by rw [e]; rfl, h⟩⟩
instance {K : PySem.W.Frag} {c : Cod K α} {r : Row K τ} {k : Nat} {cb : Cod K β} {f : τ → β} [x : RAt r k cb f] : RAt (rCons c r) (k + 1) cb (fun a => f a.2) := ⟨fun ⟨v, ws, e, h, t⟩ => by
  obtain ⟨w, h1, h2⟩ := x.at_ t
  exact ⟨w, by rw [e, List.getElem?_cons_succ]; exact h1, h2⟩⟩
theorem ex_ixR (k : Nat) {a : Expr} {pos pos' : Pos} {j : Nat} {rw' : Row X.K τ} {c : Cod X.K α} {f : τ → α} [x : RAt rw' k c f] {r1 : Option τ} (ha : Ex X G a (cRow rw') r1) : Ex X G (.Subscript a (.Constant (.int (k : Int)) j pos') pos) c (r1.bind fun x => Option.some (f x)) := fun u hu F H σ E Q q => by
  cases r1 with
  | none => cases hu
  | some t =>
    cases hu
    refine (pe_ix ix_tup pe_self pe_int (fun _ _ => rfl)).to (ha t rfl F H σ E _ fun v F' H' g rx => ?_)
    obtain ⟨p, vs, rfl, hq, rp⟩ := rx
    obtain ⟨v, h1, h2⟩ := x.at_ rp
    exact ⟨p, vs, k, v, rfl, rfl, same_seqT g.fh hq, atI_nat h1, q v F' H' g h2⟩
/-! slices -/
theorem cut_reps {K : PySem.W.Frag} {F : Hp} {c : Cod K α} {vs : List V} {xs : List α} (r : Reps c F vs xs) (lo hi : Option Int) : Reps c F (cutV vs lo hi) (cut xs lo hi) := by
  unfold cutV cut
  rw [r.length]
  exact (r.drop _).take _
theorem cut_repl {K : PySem.W.Frag} {F : Hp} {c : Cod K α} {vs : List V} {xs : List α} (r : RepL c F vs xs) (lo hi : Option Int) : RepL c F (cutV vs lo hi) (cut xs lo hi) := ⟨cut_reps r.r lo hi, Nat.le_trans (cut_len xs lo hi) r.z⟩
/-- a slice's part -/
inductive ExO (X : Cx) (G : Ga X.K) : Option Expr → Option (Option Int) → Prop
  | no : ExO X G none (some none)
  | yes {e : Expr} {r : Option Int} (h : Ex X G e cInt r) : ExO X G (some e) (r.bind fun x => Option.some (Option.some x))
theorem ExO.run {e : Option Expr} {r : Option (Option Int)} (h : ExO X G e r) {o : Option Int} (ho : r = some o) : ∃ t : L2.TO, PO X e t ∧ ∀ (F H : Hp) (σ : St), EnvOk G F H σ → ∀ Q : Option Int → Hp → Prop, (∀ F' H', Grow F H F' H' → Q o H') → t σ H Q := by
  cases h with
  | no => cases ho; exact ⟨_, po_none, fun F H σ E Q q => q F H (.refl E.fh)⟩
  | @yes e r h =>
    cases r with
    | none => cases ho
    | some i => cases ho; exact ⟨_, po_some pe_self, fun F H σ E Q q => h i rfl F H σ E _ fun v F' H' g rp => ⟨i, rp, q F' H' g⟩⟩
theorem cutS_tx (l : List Nat) (lo hi : Option Int) : cutS (tx l) lo hi = tx (cut l lo hi) := by
  unfold cutS cut
  rw [tx_toList, tx_len]
  rfl
theorem bind3 {δ : Type} {r1 : Option α} {r2 : Option β} {r3 : Option γ} {g : α → β → γ → Option δ} {u : δ} (h : (r1.bind fun x => r2.bind fun y => r3.bind fun z => g x y z) = some u) : ∃ x y z, r1 = some x ∧ r2 = some y ∧ r3 = some z ∧ g x y z = some u := by
  cases r1 with
  | none => cases h
  | some x =>
    cases r2 with
    | none => cases h
    | some y =>
      cases r3 with
      | none => cases h
      | some z => exact ⟨x, y, z, rfl, rfl, rfl, h⟩
theorem ex_slS {a : Expr} {lo hi : Option Expr} {p2 pos : Pos} {r1 : Option (List Nat)} {r2 r3 : Option (Option Int)} (ha : Ex X G a cStr r1) (hl : ExO X G lo r2) (hh : ExO X G hi r3) :
    Ex X G (.Subscript a (.Slice lo hi none p2) pos) cStr (r1.bind fun x => r2.bind fun i => r3.bind fun j => some (cut x i j)) := fun u hu F H σ E Q q => by
  obtain ⟨x, i, j, rfl, e2, e3, e⟩ := bind3 hu
  cases e
  obtain ⟨t2, p2, k2⟩ := hl.run e2
  obtain ⟨t3, p3, k3⟩ := hh.run e3
  refine (pe_slice sl_str pe_self p2 p3).to (ha x rfl F H σ E _ fun v F1 H1 g1 rv => k2 F1 H1 σ (E.grow g1) _ fun F2 H2 g2 => k3 F2 H2 σ (E.grow (g1.trans g2)) _ fun F3 H3 g3 => ?_)
  exact ⟨tx x, rv.1, by rw [tx_len]; exact rv.2.len, by rw [cutS_tx]; exact q _ F3 H3 ((g1.trans g2).trans g3) ⟨rfl, Nat.le_trans (cut_len x i j) rv.2.len, fun c hc => rv.2.cps c (cut_mem hc)⟩⟩
theorem ex_slT {a : Expr} {lo hi : Option Expr} {p2 pos : Pos} {c : Cod X.K α} {r1 : Option (List α)} {r2 r3 : Option (Option Int)} (ha : Ex X G a (cTup c) r1) (hl : ExO X G lo r2) (hh : ExO X G hi r3) :
    Ex X G (.Subscript a (.Slice lo hi none p2) pos) (cTup c) (r1.bind fun x => r2.bind fun i => r3.bind fun j => some (cut x i j)) := fun u hu F H σ E Q q => by
  obtain ⟨x, i, j, rfl, e2, e3, e⟩ := bind3 hu
  cases e
  obtain ⟨t2, p2, k2⟩ := hl.run e2
  obtain ⟨t3, p3, k3⟩ := hh.run e3
  refine (pe_slice sl_tupA pe_self p2 p3).to (ha x rfl F H σ E _ fun v F1 H1 g1 rv => k2 F1 H1 σ (E.grow g1) _ fun F2 H2 g2 => k3 F2 H2 σ (E.grow (g1.trans g2)) _ fun F3 H3 g3 => ?_)
  obtain ⟨p, vs, rfl, hq, rp⟩ := rv
  have G3 := (g1.trans g2).trans g3
  have hq3 := same_seqT (g2.trans g3).ff hq
  have rp3 := rp.mono (g2.trans g3).ff
  refine ⟨p, vs, rfl, same_seqT G3.fh hq3, fun hw => ?_, fun _ l hl => ?_⟩
  · have e : cut x i j = x := by
      unfold cut
      rw [← rp.length, hw.1, hw.2, List.drop_zero, Nat.sub_zero, rp.length, List.take_length]
    exact q _ F3 H3 G3 ⟨p, vs, rfl, hq3, by rw [e]; exact rp3⟩
  · exact q _ _ _ (G3.trans (.fz G3.fh hl)) ⟨l, _, rfl, .of upd_same, (cut_repl rp3 i j).mono (same_upd (G3.fh.free hl))⟩
theorem exl_slL {a : Expr} {lo hi : Option Expr} {p2 pos : Pos} {c : Cod X.K α} {r1 : Option (List α)} {r2 r3 : Option (Option Int)} (ha : ExB X G a c r1) (hl : ExO X G lo r2) (hh : ExO X G hi r3) :
    ExL X G (.Subscript a (.Slice lo hi none p2) pos) c (r1.bind fun x => r2.bind fun i => r3.bind fun j => some (cut x i j)) := fun u hu F H σ E Q q => by
  obtain ⟨x, i, j, rfl, e2, e3, e⟩ := bind3 hu
  cases e
  obtain ⟨t2, p2, k2⟩ := hl.run e2
  obtain ⟨t3, p3, k3⟩ := hh.run e3
  refine (pe_slice sl_list pe_self p2 p3).to (ha x rfl F H σ E _ fun p vs F1 H1 g1 hq rp => k2 F1 H1 σ (E.grow g1) _ fun F2 H2 g2 => k3 F2 H2 σ (E.grow (g1.trans g2)) _ fun F3 H3 g3 => ?_)
  have G3 := (g1.trans g2).trans g3
  refine ⟨p, vs, rfl, (g2.trans g3).hh.seq hq, fun l hl => ?_⟩
  exact q l _ F3 _ (G3.trans (.mt G3.fh hl)) (G3.hh.free hl) (G3.fh.free hl) upd_same ((cut_repl rp i j).mono (g2.trans g3).ff)
end
end M

namespace M
open PySem PySem.Spec L2
section
variable {X : Cx} {G : Ga X.K} {α β γ τ ρ : Type}

/-! ## calls of built-in functions: arguments of a row, then a rule by values -/
/-- by values: f's rule r gives, for arguments worth a, a value worth g a -/
def Bi (X : Cx) (f : Value) {τ γ : Type} (rw' : Row X.K τ) (c : Cod X.K γ) (g : τ → Option γ) : Prop :=
  ∃ r : List V → Hp → VK → Prop, CallR X f r ∧ ∀ (a : τ) (u : γ) (vs : List V) (F H : Hp) (Q : VK), g a = some u → rw'.rep F vs a → Same F H → (∀ v F' H', Grow F H F' H' → c.rep F' v u → Q v H') → r vs H Q
theorem ex_bi {x : Str} {idn : String} {e : Expr} {es : List Expr} {p pos : Pos} {rw' : Row X.K τ} {c : Cod X.K γ} {g : τ → Option γ} {r : Option τ} (o : Bi X (.builtin idn) rw' c g) (ha : ExA X G (e :: es) rw' r) (hm : X.mg x = none) (hv : bootBuiltins x = some (.builtin idn) := by decide +kernel) (hg : Gl X x := by rfl)
    (hn : x ≠ "__name__" := by decide) (hdb : (x == ("__debug__" : Str)) = false := by decide) (he : starEach (e :: es) X.env = (false, eval e X.env) :: starEach es X.env := by rfl) (hpl : (backTo pos (starEach es X.env)).any (·.1) = false := by rfl) :
    Ex X G (.Call (.Name x p) (e :: es) [] pos) c (r.bind g) := fun u hu F H σ E Q q => by
  obtain ⟨rr, hr, k⟩ := o
  cases r with
  | none => cases hu
  | some a =>
    exact (pe_callB hr hg hm hv pa_self hn hdb he hpl).to (ha a rfl F H σ E _ fun vs F' H' g' rp => k a u vs F' H' Q hu rp g'.fh fun v F2 H2 g2 rv => q v F2 H2 (g'.trans g2) rv)
theorem ex_bt {x : Str} {idn : String} {e : Expr} {es : List Expr} {p pos : Pos} {rw' : Row X.K τ} {c : Cod X.K γ} {g : τ → Option γ} {r : Option τ} (o : Bi X (.type idn) rw' c g) (ha : ExA X G (e :: es) rw' r) (hm : X.mg x = none) (hv : bootBuiltins x = some (.type idn) := by decide +kernel) (hg : Gl X x := by rfl)
    (hn : x ≠ "__name__" := by decide) (hdb : (x == ("__debug__" : Str)) = false := by decide) (he : starEach (e :: es) X.env = (false, eval e X.env) :: starEach es X.env := by rfl) (hpl : (backTo pos (starEach es X.env)).any (·.1) = false := by rfl) :
    Ex X G (.Call (.Name x p) (e :: es) [] pos) c (r.bind g) := fun u hu F H σ E Q q => by
  obtain ⟨rr, hr, k⟩ := o
  cases r with
  | none => cases hu
  | some a =>
    exact (pe_callTy hr hg hm hv pa_self hn hdb he hpl).to (ha a rfl F H σ E _ fun vs F' H' g' rp => k a u vs F' H' Q hu rp g'.fh fun v F2 H2 g2 rv => q v F2 H2 (g'.trans g2) rv)
theorem b_abs : Bi X (.builtin "abs") (rOne cInt) cInt (fun i => some (if i < 0 then -i else i)) :=
  ⟨_, call_abs, fun a u vs F H Q e ⟨v, h1, h2⟩ s q => by cases e; subst h1; exact ⟨a, by rw [show v = V.int a from h2], gt_fin s q rfl⟩⟩
theorem b_int : Bi X (.type "int") (rOne cInt) cInt (fun i => some i) :=
  ⟨_, call_int1, fun a u vs F H Q e ⟨v, h1, h2⟩ s q => by cases e; subst h1; exact .inl ⟨a, by rw [show v = V.int a from h2], gt_fin s q rfl⟩⟩
theorem b_max2 (hc : X.calm = true) : Bi X (.builtin "max") (rCons cInt (rOne cInt)) cInt (fun i => some (if i.2 > i.1 then i.2 else i.1)) :=
  ⟨_, call_max2 hc, fun a u vs F H Q e ⟨v, ws, h1, h2, w, h3, h4⟩ s q => by
    cases e; subst h1; subst h3
    exact ⟨a.1, a.2, by rw [show v = V.int a.1 from h2, show w = V.int a.2 from h4], gt_fin s q rfl⟩⟩
theorem b_min2 (hc : X.calm = true) : Bi X (.builtin "min") (rCons cInt (rOne cInt)) cInt (fun i => some (if i.2 < i.1 then i.2 else i.1)) :=
  ⟨_, call_min2 hc, fun a u vs F H Q e ⟨v, ws, h1, h2, w, h3, h4⟩ s q => by
    cases e; subst h1; subst h3
    exact ⟨a.1, a.2, by rw [show v = V.int a.1 from h2, show w = V.int a.2 from h4], gt_fin s q rfl⟩⟩
theorem b_lenS : Bi X (.builtin "len") (rOne cStr) cInt (fun l => some (l.length : Int)) :=
  ⟨_, call_len_str, fun a u vs F H Q e ⟨v, h1, h2⟩ s q => by cases e; subst h1; exact ⟨tx a, by rw [h2.1], by rw [tx_len]; exact h2.2.len, gt_fin s q (by rw [tx_len]; rfl)⟩⟩
theorem b_lenT {c : Cod X.K α} : Bi X (.builtin "len") (rOne (cTup c)) cInt (fun l => some (l.length : Int)) :=
  ⟨_, call_len_seq, fun a u vs F H Q e ⟨v, h1, p, ws, h2, h3, h4⟩ s q => by cases e; subst h1; subst h2; exact ⟨p, ws, rfl, .inr (same_seqT s h3), gt_fin s q (by rw [h4.length]; rfl)⟩⟩
/-- a call of one argument that is a list there and then -/
def BiB (X : Cx) (f : Value) {α γ : Type} (c : Cod X.K α) (d : Cod X.K γ) (g : List α → Option γ) : Prop :=
  ∃ r : List V → Hp → VK → Prop, CallR X f r ∧ ∀ (a : List α) (u : γ) (p : Addr) (vs : List V) (F H : Hp) (Q : VK), g a = some u → SqL X.K H p vs → RepL c F vs a → Same F H → (∀ v F' H', Grow F H F' H' → d.rep F' v u → Q v H') → r [.ref p] H Q
theorem ex_bib {x : Str} {idn : String} {e : Expr} {p pos : Pos} {c : Cod X.K α} {d : Cod X.K γ} {g : List α → Option γ} {r : Option (List α)} (o : BiB X (.builtin idn) c d g) (ha : ExB X G e c r) (hm : X.mg x = none) (hv : bootBuiltins x = some (.builtin idn) := by decide +kernel) (hg : Gl X x := by rfl)
    (hn : x ≠ "__name__" := by decide) (hdb : (x == ("__debug__" : Str)) = false := by decide) (he : starEach [e] X.env = (false, eval e X.env) :: starEach [] X.env := by rfl) (hpl : (backTo pos (starEach [] X.env)).any (·.1) = false := by rfl) :
    Ex X G (.Call (.Name x p) [e] [] pos) d (r.bind g) := fun u hu F H σ E Q q => by
  obtain ⟨rr, hr, k⟩ := o
  cases r with
  | none => cases hu
  | some a =>
    exact (pe_callB hr hg hm hv (pa_cons pe_self pa_nil he) hn hdb he hpl).to (ha a rfl F H σ E _ fun p vs F' H' g' hq rp => k a u p vs F' H' Q hu hq rp g'.fh fun v F2 H2 g2 rv => q v F2 H2 (g'.trans g2) rv)
theorem ex_bitb {x : Str} {idn : String} {e : Expr} {p pos : Pos} {c : Cod X.K α} {d : Cod X.K γ} {g : List α → Option γ} {r : Option (List α)} (o : BiB X (.type idn) c d g) (ha : ExB X G e c r) (hm : X.mg x = none) (hv : bootBuiltins x = some (.type idn) := by decide +kernel) (hg : Gl X x := by rfl)
    (hn : x ≠ "__name__" := by decide) (hdb : (x == ("__debug__" : Str)) = false := by decide) (he : starEach [e] X.env = (false, eval e X.env) :: starEach [] X.env := by rfl) (hpl : (backTo pos (starEach [] X.env)).any (·.1) = false := by rfl) :
    Ex X G (.Call (.Name x p) [e] [] pos) d (r.bind g) := fun u hu F H σ E Q q => by
  obtain ⟨rr, hr, k⟩ := o
  cases r with
  | none => cases hu
  | some a =>
    exact (pe_callTy hr hg hm hv (pa_cons pe_self pa_nil he) hn hdb he hpl).to (ha a rfl F H σ E _ fun p vs F' H' g' hq rp => k a u p vs F' H' Q hu hq rp g'.fh fun v F2 H2 g2 rv => q v F2 H2 (g'.trans g2) rv)
theorem b_lenL {c : Cod X.K α} : BiB X (.builtin "len") c cInt (fun l => some (l.length : Int)) :=
  ⟨_, call_len_seq, fun a u p vs F H Q e hq rp s q => by cases e; exact ⟨p, vs, rfl, .inl hq, gt_fin s q (by rw [rp.length]; rfl)⟩⟩
theorem b_tupL {c : Cod X.K α} : BiB X (.type "tuple") c (cTup c) (fun l => some l) :=
  ⟨_, call_tuple_of, fun a u p vs F H Q e hq rp s q => by
    cases e
    exact ⟨p, vs, rfl, .inl ⟨hq, fun l hl => q _ _ _ (.fz s hl) ⟨l, vs, rfl, .of upd_same, rp.mono (same_upd (s.free hl))⟩⟩⟩⟩
theorem b_tupT {c : Cod X.K α} : Bi X (.type "tuple") (rOne (cTup c)) (cTup c) (fun l => some l) :=
  ⟨_, call_tuple_of, fun a u vs F H Q e ⟨v, h1, p, ws, h2, h3, h4⟩ s q => by cases e; subst h1; subst h2; exact ⟨p, ws, rfl, .inr ⟨same_seqT s h3, gt_fin s q ⟨p, ws, rfl, h3, h4⟩⟩⟩⟩
theorem reps_bl {F : Hp} : ∀ {vs : List V} {bs : List Bool}, Reps (cBool (K := X.K)) F vs bs → vs = bs.map V.bl
  | _, _, .nil => rfl
  | _, _, .cons r t => by rw [show _ = V.bl _ from r, reps_bl t]; rfl
theorem reps_int {F : Hp} : ∀ {vs : List V} {bs : List Int}, Reps (cInt (K := X.K)) F vs bs → vs = bs.map V.int
  | _, _, .nil => rfl
  | _, _, .cons r t => by rw [show _ = V.int _ from r, reps_int t]; rfl
theorem b_all (hc : X.calm = true) : BiB X (.builtin "all") cBool cBool (fun l => some (l.all id)) :=
  ⟨_, cr_all hc, fun a u p vs F H Q e hq rp s q => by cases e; exact ⟨p, a, rfl, by rw [← reps_bl rp.r]; exact hq, gt_fin s q rfl⟩⟩
theorem b_any (hc : X.calm = true) : BiB X (.builtin "any") cBool cBool (fun l => some (l.any id)) :=
  ⟨_, cr_any hc, fun a u p vs F H Q e hq rp s q => by cases e; exact ⟨p, a, rfl, by rw [← reps_bl rp.r]; exact hq, gt_fin s q rfl⟩⟩
theorem b_sum (hc : X.calm = true) : BiB X (.builtin "sum") cInt cInt (fun l => some l.sum) :=
  ⟨_, cr_sum hc, fun a u p vs F H Q e hq rp s q => by cases e; exact ⟨p, a, rfl, by rw [← reps_int rp.r]; exact hq, gt_fin s q rfl⟩⟩
/-- list(xs): a new list -/
theorem exl_list {x : Str} {e : Expr} {p pos : Pos} {c : Cod X.K α} {r : Option (List α)} (ha : ExB X G e c r) (hm : X.mg x = none) (hv : bootBuiltins x = some (.type "list") := by decide +kernel) (hg : Gl X x := by rfl)
    (hn : x ≠ "__name__" := by decide) (hdb : (x == ("__debug__" : Str)) = false := by decide) (he : starEach [e] X.env = (false, eval e X.env) :: starEach [] X.env := by rfl) (hpl : (backTo pos (starEach [] X.env)).any (·.1) = false := by rfl) :
    ExL X G (.Call (.Name x p) [e] [] pos) c r := fun u hu F H σ E Q q => by
  refine (pe_callTy call_list_of hg hm hv (pa_cons pe_self pa_nil he) hn hdb he hpl).to (ha u hu F H σ E _ fun p vs F' H' g' hq rp => ⟨p, vs, rfl, .inl hq, fun l hl => ?_⟩)
  exact q l vs F' _ (g'.trans (.mt g'.fh hl)) (g'.hh.free hl) (g'.fh.free hl) upd_same rp
theorem exl_listT {x : Str} {e : Expr} {p pos : Pos} {c : Cod X.K α} {r : Option (List α)} (ha : Ex X G e (cTup c) r) (hm : X.mg x = none) (hv : bootBuiltins x = some (.type "list") := by decide +kernel) (hg : Gl X x := by rfl)
    (hn : x ≠ "__name__" := by decide) (hdb : (x == ("__debug__" : Str)) = false := by decide) (he : starEach [e] X.env = (false, eval e X.env) :: starEach [] X.env := by rfl) (hpl : (backTo pos (starEach [] X.env)).any (·.1) = false := by rfl) :
    ExL X G (.Call (.Name x p) [e] [] pos) c r := fun u hu F H σ E Q q => by
  refine (pe_callTy call_list_of hg hm hv (pa_cons pe_self pa_nil he) hn hdb he hpl).to (ha u hu F H σ E _ fun v F' H' g' ⟨p, vs, h2, hq, rp⟩ => ?_)
  subst h2
  refine ⟨p, vs, rfl, .inr (same_seqT g'.fh hq), fun l hl => ?_⟩
  exact q l vs F' _ (g'.trans (.mt g'.fh hl)) (g'.hh.free hl) (g'.fh.free hl) upd_same rp
/-! methods of texts -/
def Mt1 (X : Cx) (id : String) {α β γ : Type} (ca : Cod X.K α) (cb : Cod X.K β) (c : Cod X.K γ) (g : α → β → Option γ) : Prop :=
  ∃ r : V → List V → Hp → VK → Prop, MtR X id r ∧ ∀ (i : α) (j : β) (u : γ) (x y : V) (F H : Hp) (Q : VK), g i j = some u → ca.rep F x i → cb.rep F y j → Same F H → (∀ v F' H', Grow F H F' H' → c.rep F' v u → Q v H') → r x [y] H Q
theorem ex_sm1 {o e : Expr} {id : String} {name : Str} {apos pos : Pos} {cb : Cod X.K β} {c : Cod X.K γ} {g : List Nat → β → Option γ} {r1 : Option (List Nat)} {r2 : Option β} (m : Mt1 X id cStr cb c g) (slot : Slot "str" name id) (ty : typeOf (.builtin id) = pure (.type "method_descriptor")) (ho : Ex X G o cStr r1) (he : Ex X G e cb r2)
    (hs : starEach [e] X.env = (false, eval e X.env) :: starEach [] X.env := by rfl) (hbase : attributeBase o name X.env (eval o X.env) = eval o X.env := by rfl)
    (hfew : ((backTo pos (starEach [e] X.env)).all (fun x => !x.1) && (backToKw pos (keywordEach [] X.env)).all (fun x => x.1.isSome)
      && decide ([e].length + ([] : List Keyword).length + (if ([] : List Keyword).isEmpty then 0 else 1) < 30)) = true := by rfl)
    (hline : (apos.endLine == pos.line) = true := by rfl) (hplain : (backTo pos (starEach [] X.env)).any (·.1) = false := by rfl) :
    Ex X G (.Call (.Attribute o name apos) [e] [] pos) c (r1.bind fun i => r2.bind fun j => g i j) := fun u hu F H σ E Q q => by
  obtain ⟨r, hr, k⟩ := m
  refine (pe_bm PySem.F.plainAttrs_str slot ty hr pe_self (pa_cons pe_self pa_nil hs) hbase hfew hline hs hplain).to ?_
  cases r1 with
  | none => cases hu
  | some i =>
    cases r2 with
    | none => cases hu
    | some j =>
      refine ho i rfl F H σ E _ fun x F1 H1 g1 rx => ⟨?_, ?_⟩
      · rw [rx.1]; rfl
      · exact he j rfl F1 H1 σ (E.grow g1) _ fun y F2 H2 g2 ry => k i j u x y F2 H2 Q hu (cStr.mono g2.ff rx) ry g2.fh fun v F3 H3 g3 rv => q v F3 H3 ((g1.trans g2).trans g3) rv
end
end M

namespace M
open PySem PySem.Spec L2

/-! ## values as data -/
mutual
theorem dp_mono {K : PySem.W.Frag} {F F' : Hp} (s : Same F F') : ∀ (d : PyData) (v : V), Dp K F v d → Dp K F' v d
  | .none, _, h => by cases h; exact .non
  | .bool b, _, h => by cases h; exact .bl b
  | .int i, _, h => by cases h; exact .int i
  | .str x, _, h => by cases h; exact .str x
  | .list ds, _, h => by
    cases h with
    | lst hs ha => exact .lst (s.seq hs) (dp_monoA s ds _ ha)
  | .tuple ds, _, h => by
    cases h with
    | tup hs ha => exact .tup (same_seqT s hs) (dp_monoA s ds _ ha)
  | .dict _, _, h => by cases h
theorem dp_monoA {K : PySem.W.Frag} {F F' : Hp} (s : Same F F') : ∀ (ds : List PyData) (vs : List V), DpAll K F vs ds → DpAll K F' vs ds
  | [], _, h => by cases h; exact .nil
  | d :: ds, _, h => by
    cases h with
    | cons h1 h2 => exact .cons (dp_mono s d _ h1) (dp_monoA s ds _ h2)
end
def cD {K : PySem.W.Frag} : Cod K PyData := ⟨fun F v d => Dp K F v d, fun s h => dp_mono s _ _ h⟩
/-- what is coded by c, as data of at most depth n -/
class Dat {K : PySem.W.Frag} {α : Type} (c : Cod K α) (d : outParam (α → PyData)) (n : outParam Nat) : Prop where
  dp : ∀ {F : Hp} {v : V} {a : α}, c.rep F v a → Dp K F v (d a)
  lay : ∀ {F : Hp} {v : V} {a : α}, c.rep F v a → (d a).canLay0 = true
  dep : ∀ a, (d a).depth ≤ n
  eq : ∀ a b, PyData.eqv (d a) (d b) = true ↔ a = b
class DatR {K : PySem.W.Frag} {α : Type} (c : Row K α) (d : outParam (α → List PyData)) (n : outParam Nat) : Prop where
  dp : ∀ {F : Hp} {v : List V} {a : α}, c.rep F v a → DpAll K F v (d a)
  lay : ∀ {F : Hp} {v : List V} {a : α}, c.rep F v a → PyData.canLayAll0 (d a) = true
  dep : ∀ a, PyData.depthAll (d a) ≤ n
  eq : ∀ a b, PyData.eqvAll (d a) (d b) = true ↔ a = b
section
variable {K : PySem.W.Frag} {α β τ : Type}
instance : Dat (cInt (K := K)) PyData.int 0 := ⟨fun h => by rw [show _ = V.int _ from h]; exact .int _, fun _ => rfl, fun _ => Nat.le_refl _, fun a b => by simp [PyData.eqv]⟩
instance : Dat (cBool (K := K)) PyData.bool 0 := ⟨fun h => by rw [show _ = V.bl _ from h]; exact .bl _, fun _ => rfl, fun _ => Nat.le_refl _, fun a b => by simp [PyData.eqv]⟩
instance : Dat (cNon (K := K)) (fun _ => PyData.none) 0 := ⟨fun h => by rw [show _ = V.non from h]; exact .non, fun _ => rfl, fun _ => Nat.le_refl _, fun a b => by simp [PyData.eqv]⟩
theorem tx_ok {a : List Nat} (h : StrOk a) : PyData.strOk (tx a) = true := by
  unfold PyData.strOk tx
  rw [List.all_toArray] <;> simp
  exact h.cps
instance : Dat (cStr (K := K)) (fun a => PyData.str (tx a)) 0 := ⟨fun h => by rw [show _ = V.str _ from h.1]; exact .str _, fun h => tx_ok h.2, fun _ => Nat.le_refl _, fun a b => by
  simp only [PyData.eqv, beq_iff_eq]
  exact ⟨tx_inj, fun e => by rw [e]⟩⟩
theorem reps_dp {c : Cod K α} {d : α → PyData} {n : Nat} [x : Dat c d n] {F : Hp} : ∀ {vs : List V} {xs : List α}, Reps c F vs xs → DpAll K F vs (xs.map d)
  | _, _, .nil => .nil
  | _, _, .cons r t => .cons (x.dp r) (reps_dp t)
theorem reps_lay {c : Cod K α} {d : α → PyData} {n : Nat} [x : Dat c d n] {F : Hp} : ∀ {vs : List V} {xs : List α}, Reps c F vs xs → PyData.canLayAll0 (xs.map d) = true
  | _, _, .nil => rfl
  | _, _, .cons r t => by
    show (PyData.canLay0 _ && PyData.canLayAll0 _) = true
    rw [x.lay r, reps_lay t]; rfl
theorem dep_all {d : α → PyData} {n : Nat} (h : ∀ a, (d a).depth ≤ n) : ∀ xs : List α, PyData.depthAll (xs.map d) ≤ n
  | [] => Nat.zero_le _
  | x :: xs => by
    show max _ _ ≤ n
    exact Nat.max_le.mpr ⟨h x, dep_all h xs⟩
theorem eqv_all {d : α → PyData} (h : ∀ a b, PyData.eqv (d a) (d b) = true ↔ a = b) : ∀ xs ys : List α, PyData.eqvAll (xs.map d) (ys.map d) = true ↔ xs = ys
  | [], [] => by simp [PyData.eqvAll]
  | [], _ :: _ => by simp [PyData.eqvAll]
  | _ :: _, [] => by simp [PyData.eqvAll]
  | x :: xs, y :: ys => by
    show PyData.eqvAll (d x :: xs.map d) (d y :: ys.map d) = true ↔ _
    rw [PyData.eqvAll, Bool.and_eq_true, h, eqv_all h xs ys, List.cons.injEq]
instance {c : Cod K α} {d : α → PyData} {n : Nat} [x : Dat c d n] : Dat (cTup c) (fun a => PyData.tuple (a.map d)) (n + 1) :=
  ⟨fun ⟨p, vs, e, h, r⟩ => by rw [e]; exact .tup h (reps_dp r.r), fun ⟨p, vs, e, h, r⟩ => reps_lay r.r, fun a => Nat.succ_le_succ (dep_all x.dep a), fun a b => by
    show PyData.eqv (.tuple _) (.tuple _) = true ↔ _
    rw [PyData.eqv]; exact eqv_all x.eq a b⟩
instance {c : Cod K α} {d : α → PyData} {n : Nat} [x : Dat c d n] : Dat (cLst c) (fun a => PyData.list (a.map d)) (n + 1) :=
  ⟨fun ⟨p, vs, e, h, r⟩ => by rw [e]; exact .lst h (reps_dp r.r), fun ⟨p, vs, e, h, r⟩ => reps_lay r.r, fun a => Nat.succ_le_succ (dep_all x.dep a), fun a b => by
    show PyData.eqv (.list _) (.list _) = true ↔ _
    rw [PyData.eqv]; exact eqv_all x.eq a b⟩
instance {c : Cod K α} {d : α → PyData} {n : Nat} [x : Dat c d n] : DatR (rOne c) (fun a => [d a]) n :=
  ⟨fun ⟨v, e, r⟩ => by rw [e]; exact .cons (x.dp r) .nil, fun ⟨v, e, r⟩ => by
    show (PyData.canLay0 _ && PyData.canLayAll0 _) = true
    rw [x.lay r]; rfl, fun a => Nat.max_le.mpr ⟨x.dep a, Nat.zero_le _⟩, fun a b => by
    rw [PyData.eqvAll, PyData.eqvAll, Bool.and_true]; exact x.eq a b⟩
instance {c : Cod K α} {r : Row K τ} {d : α → PyData} {n m : Nat} {ds : τ → List PyData} [x : Dat c d n] [y : DatR r ds m] : DatR (rCons c r) (fun a => d a.1 :: ds a.2) (max n m) :=
  ⟨fun ⟨v, ws, e, h, t⟩ => by rw [e]; exact .cons (x.dp h) (y.dp t), fun ⟨v, ws, e, h, t⟩ => by
    show (PyData.canLay0 _ && PyData.canLayAll0 _) = true
    rw [x.lay h, y.lay t]; rfl, fun a => Nat.max_le.mpr ⟨Nat.le_trans (x.dep a.1) (Nat.le_max_left _ _), Nat.le_trans (y.dep a.2) (Nat.le_max_right _ _)⟩, fun a b => by
    rw [PyData.eqvAll, Bool.and_eq_true, x.eq, y.eq]
    exact ⟨fun h => Prod.ext h.1 h.2, fun h => by rw [h]; exact ⟨rfl, rfl⟩⟩⟩
instance {r : Row K τ} {m : Nat} {ds : τ → List PyData} [y : DatR r ds m] : Dat (cRow r) (fun a => PyData.tuple (ds a)) (m + 1) :=
  ⟨fun ⟨p, vs, e, h, t⟩ => by rw [e]; exact .tup h (y.dp t), fun ⟨p, vs, e, h, t⟩ => y.lay t, fun a => Nat.succ_le_succ (y.dep a), fun a b => by
    show PyData.eqv (.tuple _) (.tuple _) = true ↔ _
    rw [PyData.eqv]; exact y.eq a b⟩
/-- data that is no None -/
class DNN {α : Type} (d : α → PyData) : Prop where
  ne : ∀ a, PyData.eqv .none (d a) = false ∧ PyData.eqv (d a) .none = false
instance : DNN PyData.int := ⟨fun a => by simp [PyData.eqv]⟩
instance : DNN PyData.bool := ⟨fun a => by simp [PyData.eqv]⟩
instance : DNN (fun a : List Nat => PyData.str (tx a)) := ⟨fun a => by simp [PyData.eqv]⟩
instance {d : α → List PyData} : DNN (fun a => PyData.tuple (d a)) := ⟨fun a => by simp [PyData.eqv]⟩
instance {d : α → List PyData} : DNN (fun a => PyData.list (d a)) := ⟨fun a => by simp [PyData.eqv]⟩
def optD (d : α → PyData) : Option α → PyData
  | none => .none
  | some a => d a
instance {c : Cod K α} {d : α → PyData} {n : Nat} [x : Dat c d n] [z : DNN d] : Dat (cOpt c) (optD d) n :=
  ⟨fun {F v a} h => by
    cases a with
    | none => rw [show v = V.non from h]; exact .non
    | some a => exact x.dp h.2, fun {F v a} h => by
    cases a with
    | none => rfl
    | some a => exact x.lay h.2, fun a => by
    cases a with
    | none => exact Nat.zero_le _
    | some a => exact x.dep a, fun a b => by
    cases a with
    | none =>
      cases b with
      | none => simp [optD, PyData.eqv]
      | some b => simp [optD, (z.ne b).1]
    | some a =>
      cases b with
      | none => simp [optD, (z.ne a).2]
      | some b => simp only [optD, Option.some.injEq]; exact x.eq a b⟩
end
section
variable {X : Cx} {G : Ga X.K} {α β γ τ ρ : Type}
theorem Ex.dat {e : Expr} {c : Cod X.K α} {d : α → PyData} {n : Nat} [x : Dat c d n] {r : Option α} (h : Ex X G e c r) : Ex X G e cD (r.bind fun x => Option.some (d x)) := fun u hu F H σ E Q q => by
  cases r with
  | none => cases hu
  | some a => cases hu; exact h a rfl F H σ E Q fun v F' H' g rp => q v F' H' g (x.dp rp)
/-- == of data -/
theorem o_eqD {c : Cod X.K α} {d : α → PyData} {n : Nat} [DecidableEq α] [x : Dat c d n] (hu : X.A.units + 64 < cLine) (hn : n ≤ 64 := by decide) : Op2 X (compareOp .Eq) c c cBool (fun i j => some (decide (i = j))) :=
  ⟨_, op_eqD hu, fun i j u v w F H Q e rx ry s q => by
    cases e
    refine ⟨d i, d j, dp_mono s _ _ (x.dp rx), dp_mono s _ _ (x.dp ry), ?_, ?_, ?_⟩
    · show (PyData.canLay0 _ && decide _) = true
      rw [x.lay rx, decide_eq_true (Nat.le_trans (x.dep i) hn)]; rfl
    · show (PyData.canLay0 _ && decide _) = true
      rw [x.lay ry, decide_eq_true (Nat.le_trans (x.dep j) hn)]; rfl
    · rw [show PyData.eqv (d i) (d j) = decide (i = j) by
        rw [Bool.eq_iff_iff, decide_eq_true_iff]; exact x.eq i j]
      exact gt_fin s q rfl⟩
theorem o_neD {c : Cod X.K α} {d : α → PyData} {n : Nat} [DecidableEq α] [x : Dat c d n] (hu : X.A.units + 64 < cLine) (hn : n ≤ 64 := by decide) : Op2 X (compareOp .NotEq) c c cBool (fun i j => some (!decide (i = j))) :=
  ⟨_, op_neD hu, fun i j u v w F H Q e rx ry s q => by
    cases e
    refine ⟨d i, d j, dp_mono s _ _ (x.dp rx), dp_mono s _ _ (x.dp ry), ?_, ?_, ?_⟩
    · show (PyData.canLay0 _ && decide _) = true
      rw [x.lay rx, decide_eq_true (Nat.le_trans (x.dep i) hn)]; rfl
    · show (PyData.canLay0 _ && decide _) = true
      rw [x.lay ry, decide_eq_true (Nat.le_trans (x.dep j) hn)]; rfl
    · rw [show PyData.eqv (d i) (d j) = decide (i = j) by
        rw [Bool.eq_iff_iff, decide_eq_true_iff]; exact x.eq i j]
      exact gt_fin s q rfl⟩

/-! ## isinstance -/
def tyD : PyData → String
  | .none => "NoneType"
  | .bool _ => "bool"
  | .int _ => "int"
  | .str _ => "str"
  | .list _ => "list"
  | .tuple _ => "tuple"
  | .dict _ => "dict"
theorem dp_ty {K : PySem.W.Frag} {H : Hp} {v : V} {d : PyData} (h : Dp K H v d) : TyX K H v (.type (tyD d)) := by
  cases h with
  | non => exact .base .non
  | bl b => exact .base (.bl b)
  | int i => exact .base (.int i)
  | str x => exact .base (.str x)
  | lst hs ha =>
    rcases hs with (h | ⟨o, h⟩) | ⟨o, its, n, h, c, _⟩
    · exact .base (.lst h)
    · exact .base (.frz h)
    · exact .kList h c
  | tup hs ha =>
    rcases hs with (h | ⟨o, h⟩) | ⟨o, its, n, h, c, _⟩
    · exact .base (.tup h)
    · exact .fTuple h
    · exact .kTuple h c
/-- isinstance(x, T), T a written built-in type -/
def isTy (T : String) (d : PyData) : Bool := match T, d with
  | "int", .int _ => true
  | "int", .bool _ => true
  | "bool", .bool _ => true
  | "str", .str _ => true
  | "tuple", .tuple _ => true
  | "list", .list _ => true
  | _, _ => false
theorem ex_isi {e : Expr} {x T : Str} {Tn : String} {p p2 pos : Pos} {r : Option PyData} (ht : ∀ d : PyData, (∀ kvs, d ≠ .dict kvs) → kitB (tyD d) Tn = some (isTy Tn d)) (ha : Ex X G e cD r) (hm : X.mg "isinstance" = none) (hmT : X.mg T = none) (hvT : bootBuiltins T = some (.type Tn))
    (hg : Gl X "isinstance" := by rfl) (hgT : Gl X T := by rfl) (hnT : T ≠ "__name__" := by decide) (hdT : (T == ("__debug__" : Str)) = false := by decide)
    (hs : starEach (e :: [.Name T p2]) X.env = (false, eval e X.env) :: starEach [.Name T p2] X.env := by rfl) (hs2 : starEach [.Name T p2] X.env = (false, eval (.Name T p2) X.env) :: starEach [] X.env := by rfl) (hpl : (backTo pos (starEach [.Name T p2] X.env)).any (·.1) = false := by rfl) :
    Ex X G (.Call (.Name "isinstance" p) [e, .Name T p2] [] pos) cBool (r.bind fun x => Option.some (isTy Tn x)) := fun u hu F H σ E Q q => by
  cases r with
  | none => cases hu
  | some d =>
    cases hu
    refine (pe_callB call_isi hg hm PyProof.Rows.boot_isinstance (pa_cons pe_self (pa_cons (pe_bltn (v := .ty Tn) hgT hmT hvT rfl hnT hdT) pa_nil hs2) hs) (by decide) (by decide) hs hpl).to (ha d rfl F H σ E _ fun v F' H' g' rp => ?_)
    have rp2 : Dp X.K H' v d := dp_mono g'.fh _ _ rp
    have nd : ∀ kvs, d ≠ .dict kvs := fun kvs z => by subst z; cases rp2
    exact ⟨v, .ty Tn, .type (tyD d), .type Tn, isTy Tn d, rfl, .ty Tn, dp_ty rp2, kit_ty (ht d nd), q _ F' H' g' rfl⟩
theorem kit_int (d : PyData) (nd : ∀ kvs, d ≠ .dict kvs) : kitB (tyD d) "int" = some (isTy "int" d) := by
  cases d with
  | dict kvs => exact absurd rfl (nd kvs)
  | none => decide +kernel
  | bool b => exact (by decide +kernel : kitB "bool" "int" = some true)
  | int b => exact (by decide +kernel : kitB "int" "int" = some true)
  | str b => exact (by decide +kernel : kitB "str" "int" = some false)
  | list b => exact (by decide +kernel : kitB "list" "int" = some false)
  | tuple b => exact (by decide +kernel : kitB "tuple" "int" = some false)
theorem kit_bool (d : PyData) (nd : ∀ kvs, d ≠ .dict kvs) : kitB (tyD d) "bool" = some (isTy "bool" d) := by
  cases d with
  | dict kvs => exact absurd rfl (nd kvs)
  | none => decide +kernel
  | bool b => exact (by decide +kernel : kitB "bool" "bool" = some true)
  | int b => exact (by decide +kernel : kitB "int" "bool" = some false)
  | str b => exact (by decide +kernel : kitB "str" "bool" = some false)
  | list b => exact (by decide +kernel : kitB "list" "bool" = some false)
  | tuple b => exact (by decide +kernel : kitB "tuple" "bool" = some false)
theorem kit_str (d : PyData) (nd : ∀ kvs, d ≠ .dict kvs) : kitB (tyD d) "str" = some (isTy "str" d) := by
  cases d with
  | dict kvs => exact absurd rfl (nd kvs)
  | none => decide +kernel
  | bool b => exact (by decide +kernel : kitB "bool" "str" = some false)
  | int b => exact (by decide +kernel : kitB "int" "str" = some false)
  | str b => exact (by decide +kernel : kitB "str" "str" = some true)
  | list b => exact (by decide +kernel : kitB "list" "str" = some false)
  | tuple b => exact (by decide +kernel : kitB "tuple" "str" = some false)
theorem kit_tuple (d : PyData) (nd : ∀ kvs, d ≠ .dict kvs) : kitB (tyD d) "tuple" = some (isTy "tuple" d) := by
  cases d with
  | dict kvs => exact absurd rfl (nd kvs)
  | none => decide +kernel
  | bool b => exact (by decide +kernel : kitB "bool" "tuple" = some false)
  | int b => exact (by decide +kernel : kitB "int" "tuple" = some false)
  | str b => exact (by decide +kernel : kitB "str" "tuple" = some false)
  | list b => exact (by decide +kernel : kitB "list" "tuple" = some false)
  | tuple b => exact (by decide +kernel : kitB "tuple" "tuple" = some true)

/-! ## own defs -/
/-- the promise: for arguments worth a, where f tells u, a value worth u; all that stood stands -/
def spOf {K : PySem.W.Frag} {τ ρ : Type} (rw' : Row K τ) (c : Cod K ρ) (f : τ → Option ρ) : Sp := fun vs H Q _ => ∃ a u F, f a = some u ∧ Same F H ∧ rw'.rep F vs a ∧ ∀ v F' H', Grow F H F' H' → c.rep F' v u → Q v H'
structure Fn (P : Program) (w : World) (K : PySem.W.Frag) (mg : Str → Option Value) (base : Heap) (k : Nat) (x : Str) {τ ρ : Type} (rw' : Row K τ) (c : Cod K ρ) (f : τ → Option ρ) : Prop where
  ex : ∃ (a : Addr) (fd : FuncData) (ps : List Str), FnOk P w K mg base CX0 k a fd ps (spOf rw' c f) ∧ mg x = some (.ref a) ∧ PySem.W.keepIn K (.ref a) = true ∧ Binds K fd ps []
theorem ex_call {k : Nat} {x : Str} {e : Expr} {es : List Expr} {p pos : Pos} {rw' : Row X.K τ} {c : Cod X.K ρ} {f : τ → Option ρ} {r : Option τ} (h : Fn X.prog X.w X.K X.mg X.base k x rw' c f) (hr : Room k X.A) (ha : ExA X G (e :: es) rw' r) (hg : Gl X x := by rfl)
    (hdb : (x == ("__debug__" : Str)) = false := by decide) (he : starEach (e :: es) X.env = (false, eval e X.env) :: starEach es X.env := by rfl) (hpl : (backTo pos (starEach es X.env)).any (·.1) = false := by rfl) :
    Ex X G (.Call (.Name x p) (e :: es) [] pos) c (r.bind f) := fun u hu F H σ E Q q => by
  obtain ⟨a, fd, ps, F1, hm, hk, hb⟩ := h.ex
  cases r with
  | none => cases hu
  | some t =>
    refine (pe_call F1 hr hg hm hk hb .nil pass0 pa_self hdb he hpl).to (ha t rfl F H σ E _ fun vs F' H' g' rp => ?_)
    rw [List.append_nil]
    exact ⟨t, u, F', hu, g'.fh, rp, fun v F2 H2 g2 rv => q v F2 H2 (g'.trans g2) rv⟩
end
end M

namespace M
open PySem PySem.Spec L2

/-! ## what is walked -/
/-- J walks the items xs while what B tracks stands; each item is worth its value over what F0 knows, and may bring new objects -/
structure Iters {K : PySem.W.Frag} {α : Type} (B F0 : Hp) (J : It) (c : Cod K α) (xs : List α) : Prop where
  len : xs.length ≤ sizeLine
  go : ∀ (i : Nat) (H : Hp), i < xs.length → Same B H → J.go i H
  stop : ∀ (H : Hp), Same B H → J.stop xs.length H
  yld : ∀ (i : Nat) (F H : Hp) (x : V) (H' : Hp), i < xs.length → Same B H → Same F0 F → Same F H → J.yld i H x H' → ∃ a F', xs[i]? = some a ∧ Grow F H F' H' ∧ c.rep F' x a
def ExI (X : Cx) (G : Ga X.K) (tg it : Expr) {α : Type} (c : Cod X.K α) (r : Option (List α)) : Prop :=
  ∀ xs, r = some xs → ∀ (F H : Hp) (σ : St), EnvOk G F H σ → ∀ R : It → Hp → Prop, (∀ J F' H', Grow F H F' H' → Iters F' F' J c xs → R J H') → tI X tg it σ H R
/-- .. as long as nothing is changed -/
def ExJ (X : Cx) (G : Ga X.K) (tg it : Expr) {α : Type} (c : Cod X.K α) (r : Option (List α)) : Prop :=
  ∀ xs, r = some xs → ∀ (F H : Hp) (σ : St), EnvOk G F H σ → ∀ R : It → Hp → Prop, (∀ J F' H', Grow F H F' H' → Iters H' F' J c xs → R J H') → tI X tg it σ H R
section
variable {X : Cx} {G : Ga X.K} {α β γ τ ρ : Type}
theorem Iters.j {K : PySem.W.Frag} {F H : Hp} {J : It} {c : Cod K α} {xs : List α} (s : Same F H) (h : Iters F F J c xs) : Iters H F J c xs :=
  ⟨h.len, fun i H' hi q => h.go i H' hi (s.trans q), fun H' q => h.stop H' (s.trans q), fun i F' H1 x H' hi q f fh y => h.yld i F' H1 x H' hi (s.trans q) f fh y⟩
theorem ExI.j {tg it : Expr} {c : Cod X.K α} {r : Option (List α)} (h : ExI X G tg it c r) : ExJ X G tg it c r := fun xs hx F H σ E R q =>
  h xs hx F H σ E R fun J F' H' g w => q J F' H' g (w.j g.fh)
theorem iters_lst {K : PySem.W.Frag} {B F : Hp} {c : Cod K α} {p : Addr} {vs : List V} {xs : List α} (hq : ∀ H, Same B H → SqL K H p vs) (r : RepL c F vs xs) : Iters B F (Itl K p) c xs :=
  ⟨r.z, fun i H hi q => ⟨vs, vs[i]'(by rw [r.length]; exact hi), hq H q, by simp [show i < vs.length by rw [r.length]; exact hi]⟩, fun H q => ⟨vs, hq H q, by rw [r.length]; exact Nat.le_refl _⟩,
    fun i F' H x H' hi q f fh y => by
      obtain ⟨e, y⟩ := y
      subst e
      obtain ⟨a, h1, h2⟩ := (r.mono f).r.get (y vs (hq _ q))
      exact ⟨a, F', h1, .refl fh, h2⟩⟩
theorem i_lst {tg it : Expr} {c : Cod X.K α} {r : Option (List α)} (h : Ex X G it (cLst c) r) : ExI X G tg it c r := fun xs hx F H σ E R q =>
  (pi_list pe_self).to (h xs hx F H σ E _ fun v F' H' g ⟨p, vs, e, hq, rp⟩ => ⟨p, e, ⟨vs, g.fh.seq hq⟩, q _ F' H' g (iters_lst (fun H1 s => s.seq hq) rp)⟩)
theorem i_lstB {tg it : Expr} {c : Cod X.K α} {r : Option (List α)} (h : ExB X G it c r) : ExJ X G tg it c r := fun xs hx F H σ E R q =>
  (pi_list pe_self).to (h xs hx F H σ E _ fun p vs F' H' g hq rp => ⟨p, rfl, ⟨vs, hq⟩, q _ F' H' g (iters_lst (fun H1 s => s.seq hq) rp)⟩)
theorem i_tup {tg it : Expr} {c : Cod X.K α} {r : Option (List α)} (h : Ex X G it (cTup c) r) : ExI X G tg it c r := fun xs hx F H σ E R q =>
  (pi_tup pe_self).to (h xs hx F H σ E _ fun v F' H' g ⟨p, vs, e, hq, rp⟩ => ⟨p, e, ⟨vs, same_seqT g.fh hq⟩, q _ F' H' g
    ⟨rp.z, fun i H hi s => ⟨vs, vs[i]'(by rw [rp.length]; exact hi), same_seqT s hq, by simp [show i < vs.length by rw [rp.length]; exact hi]⟩, fun H s => ⟨vs, same_seqT s hq, by rw [rp.length]; exact Nat.le_refl _⟩,
    fun i F' H x H' hi s f fh y => by
      obtain ⟨e, y⟩ := y
      subst e
      obtain ⟨a, h1, h2⟩ := (rp.mono f).r.get (y vs (same_seqT s hq))
      exact ⟨a, F', h1, .refl fh, h2⟩⟩⟩)
/-- lo, lo + 1, .., below hi -/
def rng (lo hi : Int) : List Int := (List.range (hi - lo).toNat).map fun (k : Nat) => lo + (k : Int)
theorem rng_len (lo hi : Int) : (rng lo hi).length = (hi - lo).toNat := by unfold rng; rw [List.length_map, List.length_range]
def rngOk (lo hi : Int) : Prop := -16777216 ≤ lo ∧ lo ≤ 16777216 ∧ -16777216 ≤ hi ∧ hi ≤ 16777216 ∧ hi - lo ≤ 16777216
instance (lo hi : Int) : Decidable (rngOk lo hi) := by unfold rngOk; infer_instance
noncomputable def rngG (lo hi : Int) : Option (List Int) := gd (rngOk lo hi) (rng lo hi)
theorem iters_rng {K : PySem.W.Frag} {B F : Hp} {lo hi : Int} (h : rngOk lo hi) : Iters B F (Itr lo (hi - lo).toNat) (cInt (K := K)) (rng lo hi) :=
  ⟨by rw [rng_len, sizeLine_eq]; have := h.2.2.2.2; omega, fun i H hi q => by rw [rng_len] at hi; exact hi, fun H q => by rw [rng_len]; exact Nat.le_refl _,
    fun i F' H x H' hi q f fh y => by
      obtain ⟨e, y⟩ := y
      subst e
      subst y
      rw [rng_len] at hi
      exact ⟨lo + i, F', by unfold rng; rw [List.getElem?_map, List.getElem?_range hi]; rfl, .refl fh, rfl⟩⟩
theorem i_range1 {tg a : Expr} {p pos : Pos} {r : Option Int} (ha : Ex X G a cInt r) (hm : X.mg "range" = none) (hg : Gl X "range" := by rfl) (hs : starEach [a] X.env = [(false, eval a X.env)] := by rfl) : ExI X G tg (.Call (.Name "range" p) [a] [] pos) cInt (r.bind fun n => rngG 0 n) := fun xs hx F H σ E R q => by
  cases r with
  | none => cases hx
  | some n =>
    have hx : rngG 0 n = some xs := hx
    obtain ⟨hb, hx⟩ := gd_some hx
    cases hx
    refine (pi_range1 hg hm (pa_cons pe_self pa_nil hs) hs).to (ha n rfl F H σ E _ fun v F' H' g rp => ⟨n, by rw [show v = V.int n from rp], ?_, ?_, ?_⟩)
    · unfold rngOk at hb; omega
    · unfold rngOk at hb; omega
    · have := iters_rng (K := X.K) (B := F') (F := F') hb
      rw [Int.sub_zero] at this
      exact q _ F' H' g this
theorem i_range2 {tg a b : Expr} {p pos : Pos} {r1 r2 : Option Int} (ha : Ex X G a cInt r1) (hb : Ex X G b cInt r2) (hm : X.mg "range" = none) (hg : Gl X "range" := by rfl) (hs : starEach [a, b] X.env = [(false, eval a X.env), (false, eval b X.env)] := by rfl) (hs2 : starEach [b] X.env = [(false, eval b X.env)] := by rfl) :
    ExI X G tg (.Call (.Name "range" p) [a, b] [] pos) cInt (r1.bind fun i => r2.bind fun j => rngG i j) := fun xs hx F H σ E R q => by
  refine (pi_range2 hg hm (pa_cons pe_self (pa_cons pe_self pa_nil hs2) (hs.trans (by rw [hs2]))) hs hs2).to ?_
  show tE X a σ H fun x H1 => tE X b σ H1 fun y H2 => _
  refine two ha hb hx E fun i j x y F' H' e g rx ry => ?_
  obtain ⟨hb', e⟩ := gd_some e
  cases e
  refine ⟨i, j, by rw [show x = V.int i from rx, show y = V.int j from ry], ?_, q _ F' H' g (iters_rng hb')⟩
  unfold rngOk at hb'
  omega
/-- from hi down to above lo: range(hi, lo, -1) -/
def rngD (hi lo : Int) : List Int := (List.range (hi - lo).toNat).map fun (k : Nat) => hi - (k : Int)
theorem rngD_len (lo hi : Int) : (rngD hi lo).length = (hi - lo).toNat := by unfold rngD; rw [List.length_map, List.length_range]
noncomputable def rngDG (hi lo : Int) : Option (List Int) := gd (rngOk lo hi) (rngD hi lo)
theorem i_rangeD {tg a b d : Expr} {p pos : Pos} {r1 r2 : Option Int} (ha : Ex X G a cInt r1) (hb : Ex X G b cInt r2) (hd : Ex X G d cInt (some (-1))) (hm : X.mg "range" = none) (hg : Gl X "range" := by rfl)
    (hs : starEach [a, b, d] X.env = (false, eval a X.env) :: starEach [b, d] X.env := by rfl) (hs2 : starEach [b, d] X.env = (false, eval b X.env) :: starEach [d] X.env := by rfl) (hs3 : starEach [d] X.env = (false, eval d X.env) :: starEach [] X.env := by rfl) (hpl : (backTo pos (starEach [b, d] X.env)).any (·.1) = false := by rfl) :
    ExI X G tg (.Call (.Name "range" p) [a, b, d] [] pos) cInt (r1.bind fun i => r2.bind fun j => rngDG i j) := fun xs hx F H σ E R q => by
  refine (pi_range3 hg hm (pa_cons pe_self (pa_cons pe_self (pa_cons pe_self pa_nil hs3) hs2) hs) hs hpl).to ?_
  show tE X a σ H fun x H1 => tE X b σ H1 fun y H2 => tE X d σ H2 fun z H3 => _
  refine two ha hb hx E fun i j x y F' H' e g rx ry => ?_
  refine hd _ rfl F' H' σ (E.grow g) _ fun z F2 H2 g2 rz => ?_
  obtain ⟨hb', e⟩ := gd_some e
  cases e
  refine ⟨i, j, -1, (i - j).toNat, by rw [show x = V.int i from rx, show y = V.int j from ry, show z = V.int (-1) from rz], ?_, q _ F2 H2 (g.trans g2) ?_⟩
  · unfold rngOk at hb'
    exact RgC.neg (by omega) (by omega) (by omega) (by omega)
  · refine ⟨by rw [rngD_len, sizeLine_eq]; have := hb'.2.2.2.2; omega, fun k H hi q => by rw [rngD_len] at hi; exact hi, fun H q => by rw [rngD_len]; exact Nat.le_refl _, fun k F' H x H' hi q f fh y => ?_⟩
    obtain ⟨e, y⟩ := y
    subst e
    subst y
    rw [rngD_len] at hi
    refine ⟨i - k, F', by unfold rngD; rw [List.getElem?_map, List.getElem?_range hi]; rfl, .refl fh, ?_⟩
    show V.int _ = V.int _
    congr 1
    omega
/-- a text, sign by sign -/
def chars (l : List Nat) : List (List Nat) := l.map fun c => [c]
theorem tx_get (l : List Nat) (i : Nat) : (tx l).cps[i]? = l[i]? := by simp [tx]
theorem chr_ok {l : List Nat} (h : StrOk l) {c : Nat} (hc : c ∈ l) : StrOk [c] := ⟨Nat.le_of_lt (small1000 (show ([c] : List Nat).length ≤ 1000 from by simp)), fun d hd => by
  have e : d = c := by simpa using hd
  subst e
  exact h.cps d hc⟩
theorem i_str {tg it : Expr} {r : Option (List Nat)} (h : Ex X G it cStr r) : ExI X G tg it cStr (r.bind fun x => Option.some (chars x)) := fun xs hx F H σ E R q => by
  cases r with
  | none => cases hx
  | some l =>
    cases hx
    refine (pi_str pe_self).to (h l rfl F H σ E _ fun v F' H' g rp => ⟨tx l, rp.1, q _ F' H' g ?_⟩)
    have hz : (tx l).cps.size = l.length := tx_len l
    refine ⟨by unfold chars; rw [List.length_map]; exact rp.2.len, fun i H hi s => ?_, fun H s => ?_, fun i F1 H1 x H2 hi s f fh y => ?_⟩
    · unfold chars at hi; rw [List.length_map] at hi
      show i < (tx l).cps.size
      rw [hz]; exact hi
    · unfold chars; rw [List.length_map]
      show (tx l).cps.size ≤ _
      rw [hz]; exact Nat.le_refl _
    · obtain ⟨e, c, hc, y⟩ := y
      subst e
      subst y
      rw [tx_get] at hc
      refine ⟨[c], F1, by unfold chars; rw [List.getElem?_map, hc]; rfl, .refl fh, rfl, chr_ok rp.2 (List.mem_of_getElem? hc)⟩
end
/-! ### enumerate of a text -/
def IteS (x : Str) : It :=
  ⟨fun i _ => i < x.cps.size, fun i H v H' => ∃ T c, v = .ref T ∧ H T = none ∧ H' = upd H T (.tup [.int (i : Nat), .str ⟨#[c]⟩]) ∧ x.cps[i]? = some c, fun i _ => i = x.cps.size⟩
theorem turn_enumS {P : Program} {w : World} {K : PySem.W.Frag} {elts : List Expr} {kk : Nat} {tpos : Pos} (x : Str) (t : Tok) (e it : Addr) :
    Turn P w K (.Tuple elts kk tpos) (IteS x) [e, it] e (fun i h => (∃ old, IsEnum h e it ((i : Nat) : Int) old) ∧ h.IsStrIter it (strIterType x) x t i ∧ e ≠ it) where
  mem := by simp
  obj := fun i h st b hb => by
    obtain ⟨⟨old, he⟩, ⟨o, ho, hc, hd⟩, _⟩ := st
    have e' : b = e ∨ b = it := by simpa using hb
    rcases e' with z | z
    · rw [z]; exact ⟨_, he, fun v q => nomatch q⟩
    · rw [z]; exact ⟨o, ho, fun v q => by rw [hd] at q; cases q⟩
  keep := fun i h h' st k => let ⟨⟨old, he⟩, ⟨o, ho, r⟩, hne⟩ := st; ⟨⟨old, k e (by simp) _ he⟩, ⟨o, k it (by simp) o ho, r⟩, hne⟩
  item := by
    intro X hP hw hK hc i pins s σ H E I hf st hg
    subst hP hw hK
    obtain ⟨⟨old, he⟩, hit, hne⟩ := st
    have hel : e < s.heap.objs.size := Heap.lt_size he
    have hil : it < s.heap.objs.size := by obtain ⟨_, q, _⟩ := hit; exact Heap.lt_size q
    have D := Draws.text (prog := X.prog) (w := X.w) (A := X.A.in1) (by show X.A.handled = none; exact I.ok.hd hc) it x t
    refine wpAny_pyNext_enum_itemD D he hit hg hne (by simpa using hne) fun u h' tk hu ho hit' hT hsz hk => ?_
    obtain ⟨c, u', hx, rfl⟩ := hu
    refine ⟨_, rfl, wpAny_letOwnedTupleGo_enum (s := { s with heap := h', toks := tk + 1 }) ho fun h'' he' sb => ?_⟩
    have hT2 : h''.get? s.heap.objs.size = some { cls := .type "tuple", data := .seq #[.int i tk, .str ⟨#[c]⟩ u'] } := (sb.2 _ (Nat.ne_of_gt hel)).trans hT
    have new : ObjOk X.prog X.w (upd H s.heap.objs.size (.tup [.int (i : Nat), .str ⟨#[c]⟩])) h'' s.heap.objs.size (.tup [.int (i : Nat), .str ⟨#[c]⟩]) :=
      ⟨by show 2 ≤ sizeLine; decide, [.int i tk, .str ⟨#[c]⟩ u'], .cons ⟨_, rfl⟩ (.cons ⟨_, rfl⟩ .nil), ⟨_, hT2, rfl, _, rfl⟩⟩
    have I1 : Inv X pins σ (upd H s.heap.objs.size (.tup [.int (i : Nat), .str ⟨#[c]⟩])) { s with heap := h'', toks := tk + 1 } :=
      I.turnedNew (ch := [e, it]) (fun b ob hb q => (sb.2 b (fun z => hb (by simp [z]))).trans (hk b ob (fun z => hb (by simp [z])) (fun z => hb (by simp [z])) q)) hf (Nat.le_refl _) new
    refine ⟨.ref s.heap.objs.size, _, I1, rfl, ⟨_, c, rfl, I.hok.fresh (Nat.le_refl _), rfl, hx⟩, ⟨⟨.str ⟨#[c]⟩ u', ?_⟩, ?_, hne⟩, fun b hb => ?_⟩
    · have e1 : ((i + 1 : Nat) : Int) = (i : Int) + 1 := by omega
      rw [e1]; exact he'
    · obtain ⟨o, ho2, r⟩ := hit'
      exact ⟨o, (sb.2 it (Ne.symm hne)).trans ho2, r⟩
    · have hb' : b < s.heap.objs.size := by
        have e' : b = e ∨ b = it := by simpa using hb
        rcases e' with z | z
        · rw [z]; exact hel
        · rw [z]; exact hil
      rw [upd_ne (Nat.ne_of_lt hb')]
      exact (hf b hb).1
  done := by
    intro X hP hw hK hc i pins s σ H E I hf st hg
    subst hP hw hK
    obtain ⟨⟨old, he⟩, hit, hne⟩ := st
    obtain ⟨f0, f1, f2, f3, f4, f5⟩ := hf it (by simp)
    have hg : i = x.cps.size := hg
    subst hg
    have D := Draws.text (prog := X.prog) (w := X.w) (A := X.A.in1) (by show X.A.handled = none; exact I.ok.hd hc) it x t
    exact wpAny_pyNext_enum_endD D he hit fun h' eb => ⟨rfl, I.turned (t' := s.toks) (fun b o hb q => eb b o hb q) f0 f1 f3 f4 f5⟩
  self := fun A i s Q E st h => let ⟨⟨_, he⟩, _⟩ := st; wpAny_pyIter_enum he h
def iEnumS (ta : TA) : TI := fun σ H R => ta σ H fun vs H1 => ∃ x, vs = [.str x] ∧ R (IteS x) H1
theorem pi_enumS {X : Cx} {e : Expr} {ta : TA} {p pos tpos : Pos} {elts : List Expr} {kk : Nat} (hg : Gl X "enumerate") (hm : X.mg "enumerate" = none) (ha : PA X [e] ta) (hs : starEach [e] X.env = [(false, eval e X.env)] := by rfl) :
    PI X (.Tuple elts kk tpos) (.Call (.Name "enumerate" p) [e] [] pos) (iEnumS ta) := by
  refine ⟨fun pins s σ H R I h => ?_⟩
  refine PyProof.Rows.Call_ (ld_blt I hg hm PyProof.Rows.boot_enumerate (PyProof.Rows.callWith_type1 (thn (ha.run pos pins s σ H _ I h) fun us s1 ⟨vs, H1, I1, r1, q1⟩ => ?_) hs rfl))
  obtain ⟨x, ex, q⟩ := q1
  subst ex
  obtain ⟨u, rfl, r⟩ := vals1 r1
  obtain ⟨t, rfl⟩ := r
  refine call_enumerate_str fun h' he hit hsz hk => wpAny_pyIter_enum he ?_
  have I2 : Inv X pins σ H1 { s1 with heap := h' } := I1.kept (t' := s1.toks) hk
  refine ⟨s1.heap.objs.size + 1, [s1.heap.objs.size + 1, s1.heap.objs.size], _, _, H1, rfl, I2, turn_enumS x t (s1.heap.objs.size + 1) s1.heap.objs.size, ⟨⟨.none, he⟩, hit, Nat.succ_ne_self _⟩, fun b hb => ?_, q⟩
  have e' : b = s1.heap.objs.size + 1 ∨ b = s1.heap.objs.size := by simpa using hb
  have hle : s1.heap.objs.size ≤ b := by
    rcases e' with z | z
    · rw [z]; exact Nat.le_add_right _ _
    · rw [z]; exact Nat.le_refl _
  exact I1.fpOk hle (I1.hok.fresh hle)
section
variable {X : Cx} {G : Ga X.K} {α β γ τ ρ : Type}
def enumI {α : Type} (xs : List α) : List (Int × α) := (List.range xs.length).zipWith (fun (i : Nat) x => ((i : Int), x)) xs
theorem enumI_len {α : Type} (xs : List α) : (enumI xs).length = xs.length := by unfold enumI; rw [List.length_zipWith, List.length_range, Nat.min_self]
theorem enumI_get {α : Type} {xs : List α} {i : Nat} {x : α} (h : xs[i]? = some x) : (enumI xs)[i]? = some ((i : Int), x) := by
  unfold enumI
  have hi := (List.getElem?_eq_some_iff.mp h).1
  rw [List.getElem?_zipWith, List.getElem?_range hi, h]
theorem i_enumS {e : Expr} {p pos tpos : Pos} {elts : List Expr} {kk : Nat} {r : Option (List Nat)} (h : Ex X G e cStr r) (hm : X.mg "enumerate" = none) (hg : Gl X "enumerate" := by rfl) (hs : starEach [e] X.env = [(false, eval e X.env)] := by rfl) :
    ExI X G (.Tuple elts kk tpos) (.Call (.Name "enumerate" p) [e] [] pos) (cRow (rCons cInt (rOne cStr))) (r.bind fun l => Option.some (enumI (chars l))) := fun xs hx F H σ E R q => by
  cases r with
  | none => cases hx
  | some l =>
    cases hx
    refine (pi_enumS hg hm (pa_cons pe_self pa_nil hs) hs).to (h l rfl F H σ E _ fun v F' H' g rp => ⟨tx l, by rw [rp.1], q _ F' H' g ?_⟩)
    have hz : (tx l).cps.size = l.length := tx_len l
    have hl : (enumI (chars l)).length = l.length := by rw [enumI_len]; unfold chars; rw [List.length_map]
    refine ⟨by rw [hl]; exact rp.2.len, fun i H hi s => ?_, fun H s => ?_, fun i F1 H1 x H2 hi s f fh y => ?_⟩
    · rw [hl] at hi
      show i < (tx l).cps.size
      rw [hz]; exact hi
    · rw [hl]
      show _ = (tx l).cps.size
      rw [hz]
    · obtain ⟨T, c, e1, hT, e2, hc⟩ := y
      subst e1
      subst e2
      rw [tx_get] at hc
      refine ⟨((i : Int), [c]), _, enumI_get (by unfold chars; rw [List.getElem?_map, hc]; rfl), .fz fh hT, T, _, rfl, .of upd_same, .int (i : Int), [.str ⟨#[c]⟩], rfl, rfl, .str ⟨#[c]⟩, rfl, rfl, chr_ok rp.2 (List.mem_of_getElem? hc)⟩
end
end M

namespace M
open PySem PySem.Spec L2

/-! ## targets -/
def tG (X : Cx) (tg : Expr) : TG := fun v σ H Q => ∀ (pins : List (Addr × Obj)) (s : Shared) (u : Value), Inv X pins σ H s → RelV v u →
    wpAny (model X.prog X.w) X.A (assign tg X.env u) (fun _ s' => ∃ σ' H', Inv X pins σ' H' s' ∧ Q σ' H') X.xe s
theorem pg_self {X : Cx} {tg : Expr} : PG X tg (tG X tg) := ⟨fun pins s _ _ _ u _ I r h => h pins s u I r⟩
theorem _root_.L2.PG.to {X : Cx} {tg : Expr} {t : TG} (h : PG X tg t) {v : V} {σ : St} {H : Hp} {Q : St → Hp → Prop} (q : t v σ H Q) : tG X tg v σ H Q := fun pins s u I r => h.run pins s σ H v u Q I r q
/-- a target stores an item at the places vs, and knows it there -/
structure Tg (X : Cx) (tg : Expr) {α : Type} (c : Cod X.K α) (vs : List Nat) (set : α → Ga X.K → Ga X.K) : Prop where
  run : ∀ (v : V) (a : α) (F H : Hp) (σ : St) (Q : St → Hp → Prop), c.rep F v a → Same F H → (∀ σ' : St, σ'.length = σ.length → (∀ j, j ∉ vs → σ'[j]? = σ[j]?) → (∀ G : Ga X.K, EnvOk G F H σ → EnvOk (set a G) F H σ') → Q σ' H) → tG X tg v σ H Q
  own : ∀ (a : α) (G : Ga X.K) (i : Nat) (sa : SA X.K), (set a G)[i]? = some sa → sa.isOwn = true → G[i]? = some sa ∧ i ∉ vs
structure TgS (X : Cx) (ts : List Expr) {τ : Type} (c : Row X.K τ) (vs : List Nat) (set : τ → Ga X.K → Ga X.K) : Prop where
  run : ∃ g : TGs, PGs X ts g ∧ ∀ (v : List V) (a : τ) (F H : Hp) (σ : St) (Q : St → Hp → Prop), c.rep F v a → Same F H → (∀ σ' : St, σ'.length = σ.length → (∀ j, j ∉ vs → σ'[j]? = σ[j]?) → (∀ G : Ga X.K, EnvOk G F H σ → EnvOk (set a G) F H σ') → Q σ' H) → g v σ H Q
  own : ∀ (a : τ) (G : Ga X.K) (i : Nat) (sa : SA X.K), (set a G)[i]? = some sa → sa.isOwn = true → G[i]? = some sa ∧ i ∉ vs
section
variable {X : Cx} {α β γ τ ρ : Type}
theorem set_own {K : PySem.W.Frag} {G : Ga K} {i j : Nat} {c : Cod K α} {a : α} {sa : SA K} (h : (G.set i (.val c a))[j]? = some sa) (o : sa.isOwn = true) : G[j]? = some sa ∧ j ∉ [i] := by
  by_cases hj : i = j
  · subst hj
    rw [List.getElem?_set_self (by have := (List.getElem?_eq_some_iff.mp h).1; rwa [List.length_set] at this)] at h
    cases h; cases o
  · rw [List.getElem?_set_ne hj] at h
    exact ⟨h, by simpa using fun z => hj z.symm⟩
theorem tg_name (i : Nat) {c : Cod X.K α} {x : Str} {pos : Pos} (hN : X.N.Nodup) (hi : X.N[i]? = some x := by rfl) (hx : Loc X.env.scope x := by first | exact Or.inl rfl | exact Or.inr rfl) (hf : X.fn x = true ∨ X.env.scope.names.lookup x = some .local := by first | exact .inl rfl | exact .inr rfl | assumption) :
    Tg X (.Name x pos) c [i] (fun a G => G.set i (.val c a)) where
  run := fun v a F H σ Q r s q => (pg_name hN hi hx hf).to (q _ (by rw [List.length_set]) (fun j hj => List.getElem?_set_ne (by simpa using fun z => hj (by simp [z]))) fun G E => E.set r)
  own := fun a G j sa h o => set_own h o
theorem tgs_nil : TgS X [] rNil [] (fun _ G => G) where
  run := ⟨_, pgs_nil, fun v a F H σ Q r s q => ⟨r, q σ rfl (fun _ _ => rfl) fun G E => E⟩⟩
  own := fun a G j sa h o => ⟨h, by simp⟩
theorem tgs_one {t : Expr} {c : Cod X.K α} {vs : List Nat} {set : α → Ga X.K → Ga X.K} (h : Tg X t c vs set) (hs : (assignEach [t] X.env).map (·.2) = assign t X.env :: (assignEach [] X.env).map (·.2) := by rfl) : TgS X [t] (rOne c) vs set where
  run := ⟨_, pgs_cons pg_self pgs_nil hs, fun v a F H σ Q r s q => by
    obtain ⟨w, e, r⟩ := r
    exact ⟨w, [], e, h.run w a F H σ _ r s fun σ' h1 h2 h3 => ⟨rfl, q σ' h1 h2 h3⟩⟩⟩
  own := h.own
theorem tgs_cons {t : Expr} {ts : List Expr} {c : Cod X.K α} {r : Row X.K τ} {vs ws : List Nat} {set : α → Ga X.K → Ga X.K} {set' : τ → Ga X.K → Ga X.K} (h : Tg X t c vs set) (h' : TgS X ts r ws set') (hs : (assignEach (t :: ts) X.env).map (·.2) = assign t X.env :: (assignEach ts X.env).map (·.2) := by rfl) :
    TgS X (t :: ts) (rCons c r) (vs ++ ws) (fun a G => set' a.2 (set a.1 G)) where
  run := by
    obtain ⟨g, pg, hg⟩ := h'.run
    refine ⟨_, pgs_cons pg_self pg hs, fun v a F H σ Q r s q => ?_⟩
    obtain ⟨w, us, e, r1, r2⟩ := r
    refine ⟨w, us, e, h.run w a.1 F H σ _ r1 s fun σ1 h1 h2 h3 => hg us a.2 F H σ1 Q r2 s fun σ2 k1 k2 k3 => q σ2 (k1.trans h1) (fun j hj => ?_) fun G E => k3 _ (h3 G E)⟩
    rw [k2 j fun z => hj (List.mem_append_right _ z), h2 j fun z => hj (List.mem_append_left _ z)]
  own := fun a G j sa e o => by
    obtain ⟨h1, h2⟩ := h'.own a.2 _ j sa e o
    obtain ⟨h3, h4⟩ := h.own a.1 G j sa h1 o
    exact ⟨h3, fun z => (List.mem_append.mp z).elim h4 h2⟩
theorem tg_tup {ts : List Expr} {r : Row X.K τ} {vs : List Nat} {set : τ → Ga X.K → Ga X.K} {k n : Nat} {pos : Pos} [hl : RLen r n] (hc : X.calm = true) (h : TgS X ts r vs set) (hn : (assignEach ts X.env).length = n := by rfl) (hst : (assignEach ts X.env).findIdx? (·.1) = none := by rfl) :
    Tg X (.Tuple ts k pos) (cRow r) vs set where
  run := fun v a F H σ Q rp s q => by
    obtain ⟨g, pg, hg⟩ := h.run
    obtain ⟨p, us, e, hq, rr⟩ := rp
    exact (pg_tup hc pg hn hst).to ⟨p, us, e, same_seqT s hq, hl.len rr, hg us a F H σ Q rr s q⟩
  own := h.own

/-! ## comprehensions -/
def wipeG {K : PySem.W.Frag} (G : Ga K) : List Nat → Ga K
  | [] => G
  | v :: vs => (wipeG G vs).set v .any
theorem wipe_env {K : PySem.W.Frag} {G : Ga K} {F H : Hp} {σ : St} (E : EnvOk G F H σ) : ∀ vs : List Nat, EnvOk (wipeG G vs) F H (wipe σ vs)
  | [] => E
  | v :: vs => (wipe_env E vs).setAny
theorem wipe_get : ∀ (vs : List Nat) (σ : St) (j : Nat), (wipe σ vs)[j]? = if j ∈ vs ∧ j < σ.length then some none else σ[j]?
  | [], σ, j => by simp [wipe]
  | v :: vs, σ, j => by
    unfold wipe
    by_cases hj : v = j
    · subst hj
      by_cases hl : v < σ.length
      · rw [List.getElem?_set_self (by rw [wipe_length]; exact hl), if_pos ⟨List.mem_cons_self, hl⟩]
      · rw [List.getElem?_eq_none (by rw [List.length_set, wipe_length]; omega), if_neg (fun z => hl z.2), List.getElem?_eq_none (by omega)]
    · rw [List.getElem?_set_ne hj, wipe_get vs σ j]
      have e : (j ∈ v :: vs ∧ j < σ.length) ↔ (j ∈ vs ∧ j < σ.length) := by
        simp only [List.mem_cons]
        exact ⟨fun h => ⟨h.1.resolve_left fun z => hj z.symm, h.2⟩, fun h => ⟨.inr h.1, h.2⟩⟩
      by_cases hh : j ∈ vs ∧ j < σ.length
      · rw [if_pos hh, if_pos (e.mpr hh)]
      · rw [if_neg hh, if_neg fun z => hh (e.mp z)]
theorem wipe_eq {σ σ' : St} {vs : List Nat} (hl : σ'.length = σ.length) (h : ∀ j, j ∉ vs → σ'[j]? = σ[j]?) : wipe σ' vs = wipe σ vs := by
  apply List.ext_getElem?
  intro j
  rw [wipe_get, wipe_get, hl]
  by_cases hh : j ∈ vs ∧ j < σ.length
  · rw [if_pos hh, if_pos hh]
  · rw [if_neg hh, if_neg hh]
    by_cases hj : j ∈ vs
    · have : σ.length ≤ j := Nat.le_of_not_lt fun z => hh ⟨hj, z⟩
      rw [List.getElem?_eq_none this, List.getElem?_eq_none (by rw [hl]; exact this)]
    · exact h j hj
theorem wipe_idem {σ : St} {vs : List Nat} : wipe (wipe σ vs) vs = wipe σ vs := wipe_eq (wipe_length _ _) fun j hj => by
  rw [wipe_get, if_neg fun z => hj z.1]
def tTs (X : Cx) (ifs : List Expr) : TT := fun σ H Q => ∀ (pins : List (Addr × Obj)) (s : Shared), Inv X pins σ H s →
    wpAny (model X.prog X.w) X.A (forIn ifs true fun c r => if r = true then do let ok ← isTrue c X.env (eval c X.env); pure (ForInStep.yield ok) else pure (ForInStep.yield r)) (TP X pins σ Q) X.xe s
theorem pts_self {X : Cx} {ifs : List Expr} : PTs X ifs (tTs X ifs) := ⟨fun pins s _ _ _ I h => h pins s I⟩
theorem _root_.L2.PTs.to {X : Cx} {ifs : List Expr} {t : TT} (h : PTs X ifs t) {σ : St} {H : Hp} {Q : Bool → Hp → Prop} (q : t σ H Q) : tTs X ifs σ H Q := fun pins s I => h.run pins s σ H Q I q
/-- a clause's tests -/
def Ts (X : Cx) (G : Ga X.K) (ifs : List Expr) (r : Option Bool) : Prop :=
  ∀ b, r = some b → ∀ (F H : Hp) (σ : St), EnvOk G F H σ → ∀ Q : Bool → Hp → Prop, (∀ F' H', Grow F H F' H' → Q b H') → tTs X ifs σ H Q
theorem ts_no {G : Ga X.K} : Ts X G [] (some true) := fun b hb F H σ E Q q => by
  cases hb; exact pts_nil.to (q F H (.refl E.fh))
theorem ts_if {G : Ga X.K} {t : Expr} {r : Option Bool} (h : Te X G t r) : Ts X G [t] r := fun b hb F H σ E Q q => (pts_one pt_self).to (h b hb F H σ E Q q)
/-- what a comprehension gives: the test, then the item; nothing where one of them isn't told -/
def lcF {α β : Type} (p : α → Option Bool) (g : α → Option β) (x : α) : Option (Option β) := (p x).bind fun b => if b = true then (g x).map some else some none
def lcM {α β : Type} (f : α → Option (Option β)) : List α → Option (List β)
  | [] => some []
  | x :: xs => (f x).bind fun o => (lcM f xs).bind fun ys => some (o.toList ++ ys)
theorem lcM_snoc {f : α → Option (Option β)} : ∀ (xs : List α) (x : α), lcM f (xs ++ [x]) = (lcM f xs).bind fun ys => (f x).bind fun o => some (ys ++ o.toList)
  | [], x => by
    show ((f x).bind fun o => some (o.toList ++ [])) = (f x).bind fun o => some ([] ++ o.toList)
    simp
  | y :: xs, x => by
    show ((f y).bind fun o => (lcM f (xs ++ [x])).bind fun ys => some (o.toList ++ ys)) = (((f y).bind fun o => (lcM f xs).bind fun ys => some (o.toList ++ ys)).bind fun ys => (f x).bind fun o => some (ys ++ o.toList))
    rw [lcM_snoc xs x]
    cases f y <;> cases lcM f xs <;> cases f x <;> simp
theorem lcM_take {f : α → Option (Option β)} {xs : List α} {zs : List β} (h : lcM f xs = some zs) : ∀ i, i ≤ xs.length → ∃ ys, lcM f (xs.take i) = some ys := by
  intro i hi
  have key : ∀ (as bs : List α), ∀ zs, lcM f (as ++ bs) = some zs → ∃ ys, lcM f as = some ys := by
    intro as
    induction as with
    | nil => intro bs zs _; exact ⟨[], rfl⟩
    | cons a as ih =>
      intro bs zs h
      have h : ((f a).bind fun o => (lcM f (as ++ bs)).bind fun ys => some (o.toList ++ ys)) = some zs := h
      cases e : f a with
      | none => rw [e] at h; cases h
      | some o =>
        rw [e] at h
        cases e2 : lcM f (as ++ bs) with
        | none => rw [e2] at h; cases h
        | some ws =>
          obtain ⟨ys, hy⟩ := ih bs ws e2
          exact ⟨o.toList ++ ys, by show ((f a).bind fun o => (lcM f as).bind fun ys => some (o.toList ++ ys)) = _; rw [e, hy]; rfl⟩
  exact key (xs.take i) (xs.drop i) zs (by rw [List.take_append_drop]; exact h)
theorem lcM_len {f : α → Option (Option β)} : ∀ {xs : List α} {zs : List β}, lcM f xs = some zs → zs.length ≤ xs.length
  | [], zs, h => by cases h; exact Nat.le_refl _
  | x :: xs, zs, h => by
    have h : ((f x).bind fun o => (lcM f xs).bind fun ys => some (o.toList ++ ys)) = some zs := h
    cases e : f x with
    | none => rw [e] at h; cases h
    | some o =>
      rw [e] at h
      cases e2 : lcM f xs with
      | none => rw [e2] at h; cases h
      | some ws =>
        rw [e2] at h
        cases h
        have ih := lcM_len e2
        cases o <;> simp <;> omega
/-- the blocks of a comprehension -/
abbrev Blk (X : Cx) (scope : Scope) (s : Shared) (H : Hp) (C : Addr) (cl : List (Str × Addr)) (fp : List Addr) : Cx := X.blk s H scope (compEnvC scope cl C X.env) fp
theorem bind1 {r : Option α} {g : α → Option β} {u : β} (h : r.bind g = some u) : ∃ x, r = some x ∧ g x = some u := by
  cases r with
  | none => cases h
  | some x => exact ⟨x, rfl, h⟩
/-- the turn of a comprehension's loop: what stands at the new list D -/
structure LcSt {K : PySem.W.Frag} (F1 H1 : Hp) (D : Addr) (c : Cod K β) (done : List β) (F H : Hp) : Prop where
  g : Grow F1 H1 F H
  f : F D = none
  h : ∃ acc, H D = some (.lst acc) ∧ Reps c F acc done
theorem LcSt.app {K : PySem.W.Frag} {F1 H1 F H F' H' : Hp} {D : Addr} {c : Cod K β} {done : List β} {v : V} {b : β} (st : LcSt F1 H1 D c done F H) (n : H1 D = none) (g : Grow F H F' H') (r : c.rep F' v b) {acc : List V} (ha : H' D = some (.lst acc)) : LcSt F1 H1 D c (done ++ [b]) F' (L2.upd H' D (.lst (acc ++ [v]))) := by
  obtain ⟨acc0, e, ra⟩ := st.h
  have f' : F' D = none := g.new D st.f (by rw [e]; exact fun z => by cases z)
  have e2 := g.hh _ _ e
  rw [ha] at e2; cases e2
  refine ⟨⟨st.g.ff.trans g.ff, fun b' o z => ?_, same_updF g.fh f', fun p h1 h2 => ?_⟩, f', _, upd_same, (ra.mono g.ff).append (.cons r .nil)⟩
  · rw [upd_ne (fun y => by subst y; rw [n] at z; cases z)]
    exact g.hh _ _ (st.g.hh _ _ z)
  · exact (st.g.trans g).new p h1 h2
/-- a comprehension: as a value, and stored under a name -/
def ExC (X : Cx) (G : Ga X.K) (e : Expr) {α : Type} (c : Cod X.K α) (r : Option (List α)) : Prop :=
  ∃ te : TE, PE X e te ∧ (∀ (i : Nat) (y : Str) (py spos : Pos), X.N[i]? = some y → X.env.scope.names.lookup y = some .local → swapsWith e (some (.Name y py)) spos.line X.env = pure true → PS X (.Assign [.Name y py] e spos) (tAsg te (gName i))) ∧
  ∀ a, r = some a → ∀ (F H : Hp) (σ : St), EnvOk G F H σ → ∀ Q : VK, (∀ p vs F' H', Grow F H F' H' → H p = none → F' p = none → H' p = some (.lst vs) → RepL c F' vs a → Q (.ref p) H') → te σ H Q
theorem ExC.l {X : Cx} {G : Ga X.K} {e : Expr} {α : Type} {c : Cod X.K α} {r : Option (List α)} (h : ExC X G e c r) : ExL X G e c r := fun a ha F H σ E Q q => by
  obtain ⟨te, h1, _, h2⟩ := h
  exact h1.to (h2 a ha F H σ E Q q)
theorem exl_lc {G : Ga X.K} {elt tg iter : Expr} {ifs : List Expr} {scope : Scope} {own : List (Str × Nat)} {pos : Pos} {c : Cod X.K α} {d : Cod X.K β} {set : α → Ga X.K → Ga X.K} {r : Option (List α)} {p : α → Option Bool} {g : α → Option β} (hc : X.calm = true) (hN : X.N.Nodup) (hi : ExJ X G tg iter c r) (ok : BlkOk X.N X.env.scope scope own)
    (ht : ∀ s H C cl fp, Tg (Blk X scope s H C cl fp) tg c (own.map (·.2)) set) (hp : ∀ s H C cl fp x, Ts (Blk X scope s H C cl fp) (set x (wipeG G (own.map (·.2)))) ifs (p x)) (he : ∀ s H C cl fp x, Ex (Blk X scope s H C cl fp) (set x (wipeG G (own.map (·.2)))) elt d (g x))
    (hs : ∀ x, foldedSetIterable iter X.env x = pure x := by intro _; rfl) :
    ExC X G (.ListComp elt [⟨tg, iter, ifs, 0⟩] scope pos) d (r.bind fun xs => lcM (lcF p g) xs) := by
  have P1 : PI X tg iter (tI X tg iter) := pi_self
  have P2 : ∀ s H C cl fp, PG (Blk X scope s H C cl fp) tg (fun v σ H Q => ∀ s H' C cl fp, tG (Blk X scope s H' C cl fp) tg v σ H Q) := fun s H C cl fp => ⟨fun pins s' σ H' v u Q I r h => h s H C cl fp pins s' u I r⟩
  have P3 : ∀ s H C cl fp, PTs (Blk X scope s H C cl fp) ifs (fun σ H Q => ∀ s H' C cl fp, tTs (Blk X scope s H' C cl fp) ifs σ H Q) := fun s H C cl fp => ⟨fun pins s' σ H' Q I h => h s H C cl fp pins s' I⟩
  have P4 : ∀ s H C cl fp, PE (Blk X scope s H C cl fp) elt (fun σ H Q => ∀ s H' C cl fp, tE (Blk X scope s H' C cl fp) elt σ H Q) := fun s H C cl fp => ⟨fun pins s' σ H' Q I h => h s H C cl fp pins s' I⟩
  refine ⟨_, pe_lc hc hN P1 ok P2 P3 P4 hs, fun i y py spos hy hyl hsw => ps_setLc hc hN hy hyl hsw P1 ok P2 P3 P4 hs, fun u hu F H σ E Q q => ?_⟩
  clear P1 P2 P3 P4
  obtain ⟨xs, rfl, hl⟩ := bind1 hu
  generalize hvs : own.map (·.2) = vs at ht hp he

  refine hi xs rfl F H σ E _ fun J F1 H1 g1 W D nD => ?_
  have E1 := E.grow g1
  have hlen := W.len
  refine ⟨fun i m Hi => m = xs.length - i ∧ i ≤ xs.length ∧ ∃ done Fi, lcM (lcF p g) (xs.take i) = some done ∧ LcSt F1 H1 D d done Fi Hi, ⟨xs.length, by simp, Nat.zero_le _, [], F1, rfl, .mt g1.fh nD, g1.fh.free nD, [], upd_same, .nil⟩, ?_⟩
  rintro i m Hi ⟨rfl, hi', done, Fi, hd, st⟩
  have hB : Same H1 Hi := st.g.hh
  by_cases hlt : i < xs.length
  · refine .inr ⟨W.go i Hi hlt hB, fun H' => ∃ done Fi, lcM (lcF p g) (xs.take (i + 1)) = some done ∧ LcSt F1 H1 D d done Fi H', fun H' ⟨dn, Fn, h1, h2⟩ => ⟨xs.length - (i + 1), by omega, rfl, hlt, dn, Fn, h1, h2⟩, fun x H' y => ?_⟩
    obtain ⟨a, F2, hx, g2, rx⟩ := W.yld i Fi Hi x H' hlt hB st.g.ff st.g.fh y
    have G2 := st.g.trans g2
    obtain ⟨acc0, hD0, ra⟩ := st.h
    -- what the turn's functions tell
    have ht1 : xs.take (i + 1) = xs.take i ++ [a] := by rw [List.take_add_one, hx]; rfl
    obtain ⟨dn1, hdn1⟩ := lcM_take hl (i + 1) hlt
    have hdn := hdn1
    rw [ht1, lcM_snoc, hd] at hdn
    obtain ⟨o, ho, hdn⟩ := bind1 (show ((lcF p g a).bind fun o => some (done ++ o.toList)) = some dn1 from hdn)
    obtain ⟨k, hk, ho⟩ := bind1 ho
    intro s3 H3 C3 cl3 fp3
    refine (ht s3 H3 C3 cl3 fp3).run x a F2 H' (wipe σ vs) _ rx g2.fh fun σ2 l2 k2 e2 => ⟨?_, ?_⟩
    · rw [wipe_eq l2 k2, wipe_idem]
    · have E2 := e2 _ (wipe_env (E1.grow G2) vs)
      intro s4 H4 C4 cl4 fp4
      refine hp s4 H4 C4 cl4 fp4 a k hk F2 H' σ2 E2 _ fun F3 H3' g3 => ?_
      cases k with
      | false =>
        rw [if_neg Bool.false_ne_true]
        rw [if_neg Bool.false_ne_true] at ho
        cases ho
        cases hdn
        have gg := g2.trans g3
        refine ⟨_, F3, hdn1, ⟨G2.trans g3, gg.new D st.f (by rw [hD0]; exact fun z => by cases z), acc0, gg.hh _ _ hD0, ?_⟩⟩
        rw [show (Option.none : Option β).toList = [] from rfl, List.append_nil]
        exact ra.mono gg.ff
      | true =>
        rw [if_pos rfl]
        rw [if_pos rfl] at ho
        obtain ⟨b, hb⟩ : ∃ b, g a = some b := by
          cases e : g a with
          | none => rw [e] at ho; cases ho
          | some b => exact ⟨b, rfl⟩
        rw [hb] at ho
        cases ho
        cases hdn
        intro s5 H5 C5 cl5 fp5
        refine he s5 H5 C5 cl5 fp5 a b hb F3 H3' σ2 (E2.grow g3) _ fun v F4 H4' g4 rv => ?_
        have gg := (g2.trans g3).trans g4
        have hD := gg.hh _ _ hD0
        refine ⟨acc0, hD, ?_, _, F4, hdn1, st.app nD gg rv hD⟩
        have h1 := lcM_len hd
        rw [List.length_take] at h1
        rw [ra.length]
        omega
  · have e : i = xs.length := by omega
    subst e
    refine .inl ⟨W.stop Hi hB, ?_⟩
    rw [List.take_length, hl] at hd
    cases hd
    obtain ⟨acc, hD, ra⟩ := st.h
    exact q D acc Fi Hi (g1.trans st.g) (g1.hh.free nD) st.f hD ⟨ra, Nat.le_trans (lcM_len hl) hlen⟩
/-! where all is told -/
theorem lcM_map {h : α → β} : ∀ xs : List α, lcM (lcF (fun _ => some true) fun x => some (h x)) xs = some (xs.map h)
  | [] => rfl
  | x :: xs => by
    show ((lcF (fun _ => some true) (fun x => some (h x)) x).bind fun o => (lcM (lcF (fun _ => some true) fun x => some (h x)) xs).bind fun ys => some (o.toList ++ ys)) = _
    rw [lcM_map xs]; rfl
theorem lcM_filter {k : α → Bool} {h : α → β} : ∀ xs : List α, lcM (lcF (fun x => some (k x)) fun x => some (h x)) xs = some ((xs.filter k).map h)
  | [] => rfl
  | x :: xs => by
    show ((lcF (fun x => some (k x)) (fun x => some (h x)) x).bind fun o => (lcM (lcF (fun x => some (k x)) fun x => some (h x)) xs).bind fun ys => some (o.toList ++ ys)) = _
    rw [lcM_filter xs]
    unfold lcF
    cases e : k x with
    | true => rw [List.filter_cons_of_pos (by rw [e])]; simp [e]
    | false => rw [List.filter_cons_of_neg (by rw [e]; exact Bool.false_ne_true)]; simp [e]
/-- all items told, no test -/
def mapO {α β : Type} (g : α → Option β) (xs : List α) : Option (List β) := lcM (lcF (fun _ => some true) g) xs
theorem exl_lcP {G : Ga X.K} {elt tg iter : Expr} {scope : Scope} {own : List (Str × Nat)} {pos : Pos} {c : Cod X.K α} {d : Cod X.K β} {set : α → Ga X.K → Ga X.K} {r : Option (List α)} {h : α → β} (hc : X.calm = true) (hN : X.N.Nodup) (hi : ExJ X G tg iter c r) (ok : BlkOk X.N X.env.scope scope own)
    (ht : ∀ s H C cl fp, Tg (Blk X scope s H C cl fp) tg c (own.map (·.2)) set) (he : ∀ s H C cl fp x, Ex (Blk X scope s H C cl fp) (set x (wipeG G (own.map (·.2)))) elt d (some (h x)))
    (hs : ∀ x, foldedSetIterable iter X.env x = pure x := by intro _; rfl) :
    ExC X G (.ListComp elt [⟨tg, iter, [], 0⟩] scope pos) d (r.bind fun xs => some (xs.map h)) := by
  have z := exl_lc (pos := pos) hc hN hi ok ht (fun s H C cl fp x => ts_no) he hs
  rw [show (fun xs => lcM (lcF (fun _ => some true) fun x => some (h x)) xs) = fun xs => some (xs.map h) from funext lcM_map] at z
  exact z
theorem exl_lcF {G : Ga X.K} {elt tg iter t : Expr} {scope : Scope} {own : List (Str × Nat)} {pos : Pos} {c : Cod X.K α} {d : Cod X.K β} {set : α → Ga X.K → Ga X.K} {r : Option (List α)} {k : α → Bool} {h : α → β} (hc : X.calm = true) (hN : X.N.Nodup) (hi : ExJ X G tg iter c r) (ok : BlkOk X.N X.env.scope scope own)
    (ht : ∀ s H C cl fp, Tg (Blk X scope s H C cl fp) tg c (own.map (·.2)) set) (hp : ∀ s H C cl fp x, Te (Blk X scope s H C cl fp) (set x (wipeG G (own.map (·.2)))) t (some (k x))) (he : ∀ s H C cl fp x, Ex (Blk X scope s H C cl fp) (set x (wipeG G (own.map (·.2)))) elt d (some (h x)))
    (hs : ∀ x, foldedSetIterable iter X.env x = pure x := by intro _; rfl) :
    ExC X G (.ListComp elt [⟨tg, iter, [t], 0⟩] scope pos) d (r.bind fun xs => some ((xs.filter k).map h)) := by
  have z := exl_lc (pos := pos) hc hN hi ok ht (fun s H C cl fp x => ts_if (hp s H C cl fp x)) he hs
  rw [show (fun xs => lcM (lcF (fun x => some (k x)) fun x => some (h x)) xs) = fun xs => some ((xs.filter k).map h) from funext lcM_filter] at z
  exact z
end
end M

namespace M
open PySem PySem.Spec L2

/-! ## statements -/
/-- the state within a def: what it found (F0, H0) stands; what it owns is its own -/
structure CtxOk {K : PySem.W.Frag} (F0 H0 : Hp) (G : Ga K) (F H : Hp) (σ : St) : Prop where
  env : EnvOk G F H σ
  g : Grow F0 H0 F H
  new : ∀ (i : Nat) (sa : SA K) (p : Addr), G[i]? = some sa → sa.isOwn = true → σ[i]? = some (some (.ref p)) → H0 p = none
theorem CtxOk.grow {K : PySem.W.Frag} {F0 H0 F H F' H' : Hp} {G : Ga K} {σ : St} (c : CtxOk F0 H0 G F H σ) (g : Grow F H F' H') : CtxOk F0 H0 G F' H' σ := ⟨c.env.grow g, c.g.trans g, c.new⟩
theorem CtxOk.weak {K : PySem.W.Frag} {F0 H0 F H : Hp} {G G' : Ga K} {σ : St} (c : CtxOk F0 H0 G F H σ) (hl : G'.length = G.length) (w : ∀ (i : Nat) (sa : SA K), G'[i]? = some sa → sa = .any ∨ G[i]? = some sa) : CtxOk F0 H0 G' F H σ :=
  ⟨c.env.weak hl w, c.g, fun i sa p h o e => by
    rcases w i sa h with rfl | h'
    · cases o
    · exact c.new i sa p h' o e⟩
/-- how a block ends: it goes on, it returns, it breaks, it continues -/
inductive Fl (ε ρ : Type) where
  | nx (e : ε) | rt (a : ρ) | bk (e : ε) | ct (e : ε)
/-- a statement that goes on -/
def Ns (X : Cx) (G : Ga X.K) (st : Stmt) {ε : Type} (r : Option ε) (G' : ε → Ga X.K) : Prop :=
  ∀ e, r = some e → ∀ (F0 H0 F H : Hp) (σ : St), CtxOk F0 H0 G F H σ → ∀ D : Ends, (∀ F' H' σ', Same F F' → CtxOk F0 H0 (G' e) F' H' σ' → D.nx σ' H') → tSt X st D σ H
/-- a block that goes on -/
def Nb (X : Cx) (G : Ga X.K) (st : List Stmt) {ε : Type} (r : Option ε) (G' : ε → Ga X.K) : Prop :=
  ∀ e, r = some e → ∀ (F0 H0 F H : Hp) (σ : St), CtxOk F0 H0 G F H σ → ∀ D : Ends, (∀ F' H' σ', Same F F' → CtxOk F0 H0 (G' e) F' H' σ' → D.nx σ' H') → tSs X st D σ H
/-- a block that returns -/
def Rb (X : Cx) (G : Ga X.K) (st : List Stmt) {ρ : Type} (c : Cod X.K ρ) (r : Option ρ) : Prop :=
  ∀ u, r = some u → ∀ (F0 H0 F H : Hp) (σ : St), CtxOk F0 H0 G F H σ → ∀ D : Ends, (∀ v F' H', Grow F0 H0 F' H' → c.rep F' v u → D.rt v H') → tSs X st D σ H
/-- what is wanted of each end -/
structure Wants {K : PySem.W.Frag} {ε ρ : Type} (F0 H0 F : Hp) (G' : ε → Ga K) (c : Cod K ρ) (D : Ends) (o : Fl ε ρ) : Prop where
  nx : ∀ e, o = .nx e → ∀ F' H' σ', Same F F' → CtxOk F0 H0 (G' e) F' H' σ' → D.nx σ' H'
  bk : ∀ e, o = .bk e → ∀ F' H' σ', Same F F' → CtxOk F0 H0 (G' e) F' H' σ' → D.bk σ' H'
  ct : ∀ e, o = .ct e → ∀ F' H' σ', Same F F' → CtxOk F0 H0 (G' e) F' H' σ' → D.ct σ' H'
  rt : ∀ a, o = .rt a → ∀ v F' H', Grow F0 H0 F' H' → c.rep F' v a → D.rt v H'
theorem Wants.from {K : PySem.W.Frag} {ε ρ : Type} {F0 H0 F F1 : Hp} {G' : ε → Ga K} {c : Cod K ρ} {D : Ends} {o : Fl ε ρ} (s : Same F F1) (h : Wants F0 H0 F G' c D o) : Wants F0 H0 F1 G' c D o :=
  ⟨fun e he F' H' σ' z => h.nx e he F' H' σ' (s.trans z), fun e he F' H' σ' z => h.bk e he F' H' σ' (s.trans z), fun e he F' H' σ' z => h.ct e he F' H' σ' (s.trans z), h.rt⟩
/-- a block of any end; a statement -/
def Fb (X : Cx) (G : Ga X.K) (st : List Stmt) {ε ρ : Type} (r : Option (Fl ε ρ)) (G' : ε → Ga X.K) (c : Cod X.K ρ) : Prop :=
  ∀ o, r = some o → ∀ (F0 H0 F H : Hp) (σ : St), CtxOk F0 H0 G F H σ → ∀ D : Ends, Wants F0 H0 F G' c D o → tSs X st D σ H
def Fs (X : Cx) (G : Ga X.K) (st : Stmt) {ε ρ : Type} (r : Option (Fl ε ρ)) (G' : ε → Ga X.K) (c : Cod X.K ρ) : Prop :=
  ∀ o, r = some o → ∀ (F0 H0 F H : Hp) (σ : St), CtxOk F0 H0 G F H σ → ∀ D : Ends, Wants F0 H0 F G' c D o → tSt X st D σ H
section
variable {X : Cx} {G : Ga X.K} {α β γ τ ρ ε δ : Type} {pos : Pos}
/-! ### blocks -/
theorem nb_nil {G' : Ga X.K} (hl : G'.length = G.length := by rfl) (w : ∀ (i : Nat) (sa : SA X.K), G'[i]? = some sa → sa = .any ∨ G[i]? = some sa := by exact fun i sa h => Or.inr h) : Nb X G [] (some ()) (fun _ => G') := fun e he F0 H0 F H σ C D q =>
  pss_nil.to (q F H σ (Same.refl _) (C.weak hl w))
/-- the block's end, with a state of one's own -/
theorem nb_end {e0 : ε} {G' : ε → Ga X.K} (hl : (G' e0).length = G.length) (w : ∀ (i : Nat) (sa : SA X.K), (G' e0)[i]? = some sa → sa = .any ∨ G[i]? = some sa) : Nb X G [] (some e0) G' := fun e he F0 H0 F H σ C D q => by
  cases he
  exact pss_nil.to (q F H σ (Same.refl _) (C.weak hl w))
theorem fb_end {e0 : ε} {G' : ε → Ga X.K} {c : Cod X.K ρ} (hl : (G' e0).length = G.length) (w : ∀ (i : Nat) (sa : SA X.K), (G' e0)[i]? = some sa → sa = .any ∨ G[i]? = some sa) : Fb X G [] (some (.nx e0)) G' c := fun e he F0 H0 F H σ C D q => by
  cases he
  exact pss_nil.to (q.nx e0 rfl F H σ (Same.refl _) (C.weak hl w))
theorem nb_cons {st : Stmt} {rest : List Stmt} {r : Option ε} {G1 : ε → Ga X.K} {k : ε → Option δ} {G' : δ → Ga X.K} (h1 : Ns X G st r G1) (h2 : ∀ e, Nb X (G1 e) rest (k e) G') : Nb X G (st :: rest) (r.bind k) G' := fun u hu F0 H0 F H σ C D q => by
  obtain ⟨e, rfl, hk⟩ := bind1 hu
  exact (pss_cons ps_self pss_self).to (h1 e rfl F0 H0 F H σ C _ fun F' H' σ' z C' => h2 e u hk F0 H0 F' H' σ' C' D fun F2 H2 σ2 z2 => q F2 H2 σ2 (z.trans z2))
theorem rb_cons {st : Stmt} {rest : List Stmt} {r : Option ε} {G1 : ε → Ga X.K} {c : Cod X.K ρ} {k : ε → Option ρ} (h1 : Ns X G st r G1) (h2 : ∀ e, Rb X (G1 e) rest c (k e)) : Rb X G (st :: rest) c (r.bind k) := fun u hu F0 H0 F H σ C D q => by
  obtain ⟨e, rfl, hk⟩ := bind1 hu
  exact (pss_cons ps_self pss_self).to (h1 e rfl F0 H0 F H σ C _ fun F' H' σ' z C' => h2 e u hk F0 H0 F' H' σ' C' D q)
theorem fb_cons {st : Stmt} {rest : List Stmt} {r : Option ε} {G1 : ε → Ga X.K} {c : Cod X.K ρ} {k : ε → Option (Fl δ ρ)} {G' : δ → Ga X.K} (h1 : Ns X G st r G1) (h2 : ∀ e, Fb X (G1 e) rest (k e) G' c) : Fb X G (st :: rest) (r.bind k) G' c := fun u hu F0 H0 F H σ C D q => by
  obtain ⟨e, rfl, hk⟩ := bind1 hu
  exact (pss_cons ps_self pss_self).to (h1 e rfl F0 H0 F H σ C _ fun F' H' σ' z C' => h2 e u hk F0 H0 F' H' σ' C' _ ⟨(q.from z).nx, (q.from z).bk, (q.from z).ct, q.rt⟩)
/-- a statement of any end, then the rest -/
def thenR {ε ρ : Type} (r : Option (Fl ε ρ)) (k : ε → Option ρ) : Option ρ := r.bind fun o => match o with
  | .nx e => k e
  | .rt a => some a
  | .bk _ => none
  | .ct _ => none
theorem rb_consF {st : Stmt} {rest : List Stmt} {r : Option (Fl ε ρ)} {G1 : ε → Ga X.K} {c : Cod X.K ρ} {k : ε → Option ρ} (h1 : Fs X G st r G1 c) (h2 : ∀ e, Rb X (G1 e) rest c (k e)) : Rb X G (st :: rest) c (thenR r k) := fun u hu F0 H0 F H σ C D q => by
  obtain ⟨o, rfl, hk⟩ := bind1 hu
  refine (pss_cons ps_self pss_self).to (h1 o rfl F0 H0 F H σ C _ ⟨fun e he F' H' σ' z C' => ?_, fun e he F' H' σ' z C' => ?_, fun e he F' H' σ' z C' => ?_, fun a ha v F' H' g rv => ?_⟩)
  · subst he; exact h2 e u hk F0 H0 F' H' σ' C' D q
  · subst he; cases hk
  · subst he; cases hk
  · subst ha; cases hk; exact q v F' H' g rv
def thenF {ε δ ρ : Type} (r : Option (Fl ε ρ)) (kb : ε → δ) (k : ε → Option (Fl δ ρ)) : Option (Fl δ ρ) := r.bind fun o => match o with
  | .nx e => k e
  | .rt a => some (.rt a)
  | .bk e => some (.bk (kb e))
  | .ct e => some (.ct (kb e))
theorem fb_consF {st : Stmt} {rest : List Stmt} {r : Option (Fl ε ρ)} {G1 : ε → Ga X.K} {c : Cod X.K ρ} {kb : ε → δ} {k : ε → Option (Fl δ ρ)} {G' : δ → Ga X.K} (h1 : Fs X G st r G1 c) (h2 : ∀ e, Fb X (G1 e) rest (k e) G' c)
    (hb : ∀ e, (G' (kb e)).length = (G1 e).length ∧ ∀ (i : Nat) (sa : SA X.K), (G' (kb e))[i]? = some sa → sa = .any ∨ (G1 e)[i]? = some sa) : Fb X G (st :: rest) (thenF r kb k) G' c := fun u hu F0 H0 F H σ C D q => by
  obtain ⟨o, rfl, hk⟩ := bind1 hu
  refine (pss_cons ps_self pss_self).to (h1 o rfl F0 H0 F H σ C _ ⟨fun e he F' H' σ' z C' => ?_, fun e he F' H' σ' z C' => ?_, fun e he F' H' σ' z C' => ?_, fun a ha v F' H' g rv => ?_⟩)
  · subst he; exact h2 e u hk F0 H0 F' H' σ' C' D (q.from z)
  · subst he; cases hk; exact q.bk _ rfl F' H' σ' z (C'.weak (hb e).1 (hb e).2)
  · subst he; cases hk; exact q.ct _ rfl F' H' σ' z (C'.weak (hb e).1 (hb e).2)
  · subst ha; cases hk; exact q.rt _ rfl v F' H' g rv
theorem nb_one {st : Stmt} {r : Option ε} {G' : ε → Ga X.K} (h : Ns X G st r G') : Nb X G [st] r G' := fun u hu F0 H0 F H σ C D q => (pss_one ps_self).to (h u hu F0 H0 F H σ C D q)
theorem fb_one {st : Stmt} {r : Option (Fl ε ρ)} {G' : ε → Ga X.K} {c : Cod X.K ρ} (h : Fs X G st r G' c) : Fb X G [st] r G' c := fun u hu F0 H0 F H σ C D q => (pss_one ps_self).to (h u hu F0 H0 F H σ C D q)
theorem Nb.f {sts : List Stmt} {r : Option ε} {G' : ε → Ga X.K} (c : Cod X.K ρ) (h : Nb X G sts r G') : Fb X G sts (r.map Fl.nx) G' c := fun u hu F0 H0 F H σ C D q => by
  cases r with
  | none => cases hu
  | some e => cases hu; exact h e rfl F0 H0 F H σ C D (q.nx e rfl)
theorem Ns.f {st : Stmt} {r : Option ε} {G' : ε → Ga X.K} (c : Cod X.K ρ) (h : Ns X G st r G') : Fs X G st (r.map Fl.nx) G' c := fun u hu F0 H0 F H σ C D q => by
  cases r with
  | none => cases hu
  | some e => cases hu; exact h e rfl F0 H0 F H σ C D (q.nx e rfl)
theorem Rb.f {sts : List Stmt} {r : Option ρ} {c : Cod X.K ρ} (G' : ε → Ga X.K) (h : Rb X G sts c r) : Fb X G sts (r.map Fl.rt) G' c := fun u hu F0 H0 F H σ C D q => by
  cases r with
  | none => cases hu
  | some e => cases hu; exact h e rfl F0 H0 F H σ C D (q.rt e rfl)

/-! ### return, break, continue -/
theorem rb_ret {e : Expr} {rest : List Stmt} {c : Cod X.K ρ} {r : Option ρ} (h : Ex X G e c r) : Rb X G (.Return (some e) pos :: rest) c r := fun u hu F0 H0 F H σ C D q =>
  (pss_cons (ps_ret pe_self) pss_never).to (h u hu F H σ C.env _ fun v F' H' g rv => q v F' H' (C.g.trans g) rv)
/-- a list of one's own is handed out -/
theorem rb_retO (i : Nat) {x : Str} {p' : Pos} {rest : List Stmt} {c : Cod X.K α} {xs : List α} (hG : G[i]? = some (.own c xs) := by rfl) (hN : X.N[i]? = some x := by rfl) (hv : Vis X.env.scope x := by first | exact Or.inl rfl | exact Or.inr (Or.inl rfl) | exact Or.inr (Or.inr rfl))
    (hd : (x == ("__debug__" : Str)) = false := by decide) (hcd : (x == ("__classdict__" : Str)) = false := by decide) : Rb X G (.Return (some (.Name x p')) pos :: rest) (cLst c) (some xs) := fun u hu F0 H0 F H σ C D q => by
  cases hu
  obtain ⟨p, vs, h1, h2, h3, h4⟩ := C.env.own hG
  have n0 := C.new i _ p hG rfl h1
  refine (pss_cons (ps_ret (pe_var hN hv hd hcd)) pss_never).to ⟨.ref p, h1, q (.ref p) (L2.upd F p (.lst vs)) H ⟨C.g.ff.trans (same_upd h2), C.g.hh, fun b o z => ?_, fun b k1 k2 => ?_⟩ ⟨p, vs, rfl, .of upd_same, h4.mono (same_upd h2)⟩⟩
  · by_cases hb : b = p
    · subst hb; rw [upd_same] at z; rw [h3]; exact z
    · rw [upd_ne hb] at z; exact C.g.fh b o z
  · rw [upd_ne (fun z => by subst z; exact k2 n0)]; exact C.g.new b k1 k2
theorem rb_retN {rest : List Stmt} {c : Cod X.K α} : Rb X G (.Return none pos :: rest) (cOpt c) (some none) := fun u hu F0 H0 F H σ C D q => by
  cases hu
  exact (pss_cons ps_retN pss_never).to (q .non F H C.g rfl)
theorem fb_brk {rest : List Stmt} {e0 : ε} {G' : ε → Ga X.K} {c : Cod X.K ρ} (hl : (G' e0).length = G.length) (w : ∀ (i : Nat) (sa : SA X.K), (G' e0)[i]? = some sa → sa = .any ∨ G[i]? = some sa) : Fb X G (.Break pos :: rest) (some (.bk e0)) G' c := fun u hu F0 H0 F H σ C D q => by
  cases hu
  exact (pss_cons ps_break pss_never).to (q.bk e0 rfl F H σ (Same.refl _) (C.weak hl w))
theorem fb_cnt {rest : List Stmt} {e0 : ε} {G' : ε → Ga X.K} {c : Cod X.K ρ} (hl : (G' e0).length = G.length) (w : ∀ (i : Nat) (sa : SA X.K), (G' e0)[i]? = some sa → sa = .any ∨ G[i]? = some sa) : Fb X G (.Continue pos :: rest) (some (.ct e0)) G' c := fun u hu F0 H0 F H σ C D q => by
  cases hu
  exact (pss_cons ps_continue pss_never).to (q.ct e0 rfl F H σ (Same.refl _) (C.weak hl w))

/-! ### if -/
theorem rb_if {t : Expr} {A B : List Stmt} {rest : List Stmt} {c : Cod X.K ρ} {rt : Option Bool} {r1 r2 : Option ρ} (ht : Te X G t rt) (ha : Rb X G A c r1) (hb : Rb X G (B ++ rest) c r2) (hB : B = [] := by rfl) : Rb X G (.If t A B pos :: rest) c (rt.bind fun k => if k = true then r1 else r2) := fun u hu F0 H0 F H σ C D q => by
  obtain ⟨k, rfl, hk⟩ := bind1 hu
  subst hB
  refine (pss_cons (ps_if pt_self pss_self pss_nil) pss_self).to (ht k rfl F H σ C.env _ fun F1 H1 g => ?_)
  cases k with
  | true => exact ha u hk F0 H0 F1 H1 σ (C.grow g) _ q
  | false => exact hb u hk F0 H0 F1 H1 σ (C.grow g) D q
theorem rb_ifElse {t : Expr} {A B : List Stmt} {rest : List Stmt} {c : Cod X.K ρ} {rt : Option Bool} {r1 r2 : Option ρ} (ht : Te X G t rt) (ha : Rb X G A c r1) (hb : Rb X G B c r2) : Rb X G (.If t A B pos :: rest) c (rt.bind fun k => if k = true then r1 else r2) := fun u hu F0 H0 F H σ C D q => by
  obtain ⟨k, rfl, hk⟩ := bind1 hu
  refine (pss_cons (ps_if pt_self pss_self pss_self) pss_never).to (ht k rfl F H σ C.env _ fun F1 H1 g => ?_)
  cases k with
  | true => exact ha u hk F0 H0 F1 H1 σ (C.grow g) _ q
  | false => exact hb u hk F0 H0 F1 H1 σ (C.grow g) _ q
/-- if t: A (A returns); the rest goes on -/
theorem fb_ifR {t : Expr} {A : List Stmt} {rest : List Stmt} {c : Cod X.K ρ} {G' : ε → Ga X.K} {rt : Option Bool} {r1 : Option ρ} {r2 : Option (Fl ε ρ)} (ht : Te X G t rt) (ha : Rb X G A c r1) (hb : Fb X G rest r2 G' c) : Fb X G (.If t A [] pos :: rest) (rt.bind fun k => if k = true then r1.map Fl.rt else r2) G' c := fun u hu F0 H0 F H σ C D q => by
  obtain ⟨k, rfl, hk⟩ := bind1 hu
  refine (pss_cons (ps_if pt_self pss_self pss_nil) pss_self).to (ht k rfl F H σ C.env _ fun F1 H1 g => ?_)
  cases k with
  | true =>
    rw [if_pos rfl] at hk
    cases r1 with
    | none => cases hk
    | some a => cases hk; exact ha a rfl F0 H0 F1 H1 σ (C.grow g) _ (q.rt a rfl)
  | false => exact hb u hk F0 H0 F1 H1 σ (C.grow g) D (q.from g.ff)
/-- both ways of any end, nothing behind -/
theorem fs_if {t : Expr} {A B : List Stmt} {c : Cod X.K ρ} {G' : ε → Ga X.K} {rt : Option Bool} {r1 r2 : Option (Fl ε ρ)} (ht : Te X G t rt) (ha : Fb X G A r1 G' c) (hb : Fb X G B r2 G' c) : Fs X G (.If t A B pos) (rt.bind fun k => if k = true then r1 else r2) G' c := fun u hu F0 H0 F H σ C D q => by
  obtain ⟨k, rfl, hk⟩ := bind1 hu
  refine (ps_if pt_self pss_self pss_self).to (ht k rfl F H σ C.env _ fun F1 H1 g => ?_)
  cases k with
  | true => exact ha u hk F0 H0 F1 H1 σ (C.grow g) D (q.from g.ff)
  | false => exact hb u hk F0 H0 F1 H1 σ (C.grow g) D (q.from g.ff)
theorem ns_if {t : Expr} {A B : List Stmt} {G' : ε → Ga X.K} {rt : Option Bool} {r1 r2 : Option ε} (ht : Te X G t rt) (ha : Nb X G A r1 G') (hb : Nb X G B r2 G') : Ns X G (.If t A B pos) (rt.bind fun k => if k = true then r1 else r2) G' := fun u hu F0 H0 F H σ C D q => by
  obtain ⟨k, rfl, hk⟩ := bind1 hu
  refine (ps_if pt_self pss_self pss_self).to (ht k rfl F H σ C.env _ fun F1 H1 g => ?_)
  cases k with
  | true => exact ha u hk F0 H0 F1 H1 σ (C.grow g) D fun F2 H2 σ2 z2 => q F2 H2 σ2 (g.ff.trans z2)
  | false => exact hb u hk F0 H0 F1 H1 σ (C.grow g) D fun F2 H2 σ2 z2 => q F2 H2 σ2 (g.ff.trans z2)
/-- both ways told -/
theorem ns_ifP {t : Expr} {A B : List Stmt} {G' : ε → Ga X.K} {k : Bool} {x y : ε} (ht : Te X G t (some k)) (ha : Nb X G A (some x) G') (hb : Nb X G B (some y) G') : Ns X G (.If t A B pos) (some (if k = true then x else y)) G' := by
  have h := ns_if (pos := pos) ht ha hb
  cases k <;> exact h

/-! ### names are stored -/
theorem CtxOk.set {F0 H0 F H : Hp} {σ : St} (C : CtxOk F0 H0 G F H σ) {i : Nat} {c : Cod X.K α} {a : α} {v : V} (r : c.rep F v a) : CtxOk F0 H0 (G.set i (.val c a)) F H (σ.set i (some v)) :=
  ⟨C.env.set r, C.g, fun j sa p h o e => by
    obtain ⟨h1, h2⟩ := set_own h o
    have hj : i ≠ j := fun z => h2 (by simp [z])
    rw [List.getElem?_set_ne hj] at e
    exact C.new j sa p h1 o e⟩
/-- a new list comes to a place -/
theorem CtxOk.setO {F0 H0 F H F' H' : Hp} {σ : St} (C : CtxOk F0 H0 G F H σ) (g : Grow F H F' H') {i : Nat} {sa : SA X.K} {p : Addr} (n : H p = none) (r : SlotOk F' H' sa (some (.ref p))) : CtxOk F0 H0 (G.set i sa) F' H' (σ.set i (some (.ref p))) := by
  have fresh : ∀ (j : Nat) (sb : SA X.K), G[j]? = some sb → sb.isOwn = true → σ[j]? ≠ some (some (V.ref p)) := fun j sb h o e => by
    obtain ⟨s, h1, h2⟩ := C.env.at_ j sb h
    obtain ⟨p', e1, _, k⟩ := h2.owns o
    rw [h1, e1] at e
    cases e
    exact k n
  refine ⟨(C.env.grow g).setO r fun j _ sb h o => fresh j sb h o, C.g.trans g, fun j sb q h o e => ?_⟩
  by_cases hj : i = j
  · subst hj
    have hi : i < σ.length := by
      have := (List.getElem?_eq_some_iff.mp h).1
      rwa [List.length_set, ← C.env.len] at this
    rw [List.getElem?_set_self hi] at e
    cases e
    exact C.g.hh.free n
  · rw [List.getElem?_set_ne hj] at h e
    exact C.new j sb q h o e
section
variable {i : Nat} {x : Str} {e : Expr} {p' : Pos}
theorem ns_set (i : Nat) {c : Cod X.K α} {r : Option α} (hN : X.N.Nodup) (he : Ex X G e c r) (hi : X.N[i]? = some x := by rfl) (hx : Loc X.env.scope x := by first | exact Or.inl rfl | exact Or.inr rfl)
    (hs : swapsWith e (some (.Name x p')) pos.line X.env = pure false := by rfl) (hf : X.fn x = true ∨ X.env.scope.names.lookup x = some .local := by first | exact .inl rfl | exact .inr rfl | assumption) :
    Ns X G (.Assign [.Name x p'] e pos) r (fun a => G.set i (.val c a)) := fun u hu F0 H0 F H σ C D q =>
  (ps_set hN hi hx pe_self hs hf).to (he u hu F H σ C.env _ fun v F' H' g rv => q F' H' _ g.ff ((C.grow g).set rv))
/-- .. a new list -/
theorem ns_setL (i : Nat) {c : Cod X.K α} {r : Option (List α)} (hN : X.N.Nodup) (he : ExL X G e c r) (hi : X.N[i]? = some x := by rfl) (hx : Loc X.env.scope x := by first | exact Or.inl rfl | exact Or.inr rfl)
    (hs : swapsWith e (some (.Name x p')) pos.line X.env = pure false := by rfl) (hf : X.fn x = true ∨ X.env.scope.names.lookup x = some .local := by first | exact .inl rfl | exact .inr rfl | assumption) :
    Ns X G (.Assign [.Name x p'] e pos) r (fun a => G.set i (.own c a)) := fun u hu F0 H0 F H σ C D q =>
  (ps_set hN hi hx pe_self hs hf).to (he u hu F H σ C.env _ fun p vs F' H' g n f e2 rp => q F' H' _ g.ff (C.setO g n ⟨p, vs, rfl, f, e2, rp⟩))
/-- .. an empty dict -/
theorem ns_setD (i : Nat) {κ : Type} (kc : κ → Key) (c : Cod X.K α) {dp : Pos} (hN : X.N.Nodup) (hi : X.N[i]? = some x := by rfl) (hx : Loc X.env.scope x := by first | exact Or.inl rfl | exact Or.inr rfl)
    (hs : swapsWith (.Dict [] [] dp) (some (.Name x p')) pos.line X.env = pure false := by rfl) (hf : X.fn x = true ∨ X.env.scope.names.lookup x = some .local := by first | exact .inl rfl | exact .inr rfl | assumption) :
    Ns X G (.Assign [.Name x p'] (.Dict [] [] dp) pos) (some ([] : List (κ × α))) (fun a => G.set i (.dic kc c a)) := fun u hu F0 H0 F H σ C D q => by
  cases hu
  exact (ps_set hN hi hx pe_dnewK hs hf).to fun p n => q F _ _ (Same.refl _) (C.setO (.mt C.env.fh n) n ⟨p, [], rfl, C.env.fh.free n, upd_same, .nil⟩)
theorem ns_aug (i : Nat) {op : Operator} {ca : Cod X.K α} {cb : Cod X.K β} {c : Cod X.K γ} {g : α → β → Option γ} {a : α} {r : Option β} (hN : X.N.Nodup) (o : Op2 X (inplaceOp op) ca cb c g) (he : Ex X G e cb r) (hG : G[i]? = some (.val ca a) := by rfl) (hi : X.N[i]? = some x := by rfl) (hx : Loc X.env.scope x := by first | exact Or.inl rfl | exact Or.inr rfl)
    (hf : X.fn x = true ∨ X.env.scope.names.lookup x = some .local := by first | exact .inl rfl | exact .inr rfl | assumption) :
    Ns X G (.AugAssign (.Name x p') op e pos) (r.bind fun b => g a b) (fun z => G.set i (.val c z)) := fun u hu F0 H0 F H σ C D q => by
  obtain ⟨b, rfl, hb⟩ := bind1 hu
  obtain ⟨rr, hr, k⟩ := o
  obtain ⟨v, h1, h2⟩ := C.env.val hG
  refine (ps_aug (ti := rr) hN hi hx pe_self (fun pins s σ H x y v u Q I rx ry h => hr pins s σ H x y v u Q I rx ry h) hf).to ⟨v, h1, he b rfl F H σ C.env _ fun y F1 H1 g1 ry => ?_⟩
  exact k a b u v y F1 H1 _ hb (ca.mono g1.ff h2) ry g1.fh fun z F2 H2 g2 rz => q F2 H2 _ (g1.trans g2).ff ((C.grow (g1.trans g2)).set rz)
/-- a list of one's own is not changed any more -/
theorem CtxOk.fz {F0 H0 F H : Hp} {σ : St} (C : CtxOk F0 H0 G F H σ) {i : Nat} {c : Cod X.K α} {xs : List α} (hG : G[i]? = some (.own c xs)) : ∃ F', Same F F' ∧ CtxOk F0 H0 (G.set i (.val (cLst c) xs)) F' H σ := by
  obtain ⟨p, vs, h1, h2, h3, h4⟩ := C.env.own hG
  have n0 := C.new i _ p hG rfl h1
  have hi : i < G.length := (List.getElem?_eq_some_iff.mp hG).1
  have ff : Same F (L2.upd F p (.lst vs)) := same_upd h2
  have fh : Same (L2.upd F p (.lst vs)) H := fun b o z => by
    by_cases hb : b = p
    · subst hb; rw [upd_same] at z; rw [h3]; exact z
    · rw [upd_ne hb] at z; exact C.env.fh b o z
  refine ⟨L2.upd F p (.lst vs), ff, ⟨by rw [List.length_set]; exact C.env.len, fun j sa h => ?_, fun j k sa sb q k1 k2 o1 o2 e1 e2 => ?_, fh⟩, ⟨C.g.ff.trans ff, C.g.hh, fh, fun b k1 k2 => ?_⟩, fun j sa q h o e => ?_⟩
  · by_cases hj : i = j
    · subst hj
      rw [List.getElem?_set_self hi] at h
      cases h
      exact ⟨_, h1, .ref p, rfl, p, vs, rfl, .of upd_same, h4.mono ff⟩
    · rw [List.getElem?_set_ne hj] at h
      obtain ⟨s, k1, k2⟩ := C.env.at_ j sa h
      refine ⟨s, k1, ?_⟩
      have ne : sa.isOwn = true → ∀ q, s = some (.ref q) → q ≠ p := fun o q e z => by
        subst z; subst e
        exact hj (C.env.inj i j _ sa q hG h rfl o h1 k1)
      cases sa with
      | any => trivial
      | val c a => obtain ⟨v, e, r⟩ := k2; exact ⟨v, e, c.mono ff r⟩
      | own c xs => obtain ⟨q, vs, e, f, h, r⟩ := k2; exact ⟨q, vs, e, by rw [upd_ne (ne rfl q e)]; exact f, h, r.mono ff⟩
      | dic kc c m => obtain ⟨q, vs, e, f, h, r⟩ := k2; exact ⟨q, vs, e, by rw [upd_ne (ne rfl q e)]; exact f, h, r.mono ff⟩
      | dit kc c m => obtain ⟨q, vs, e, f, h, r⟩ := k2; exact ⟨q, vs, e, by rw [upd_ne (ne rfl q e)]; exact f, h, r.mono ff⟩
  · obtain ⟨m1, _⟩ := set_own k1 o1
    obtain ⟨m2, _⟩ := set_own k2 o2
    exact C.env.inj j k sa sb q m1 m2 o1 o2 e1 e2
  · rw [upd_ne (fun z => by subst z; exact k2 n0)]; exact C.g.new b k1 k2
  · exact C.new j sa q (set_own h o).1 o e
theorem nb_fz (i : Nat) {c : Cod X.K α} {xs : List α} {sts : List Stmt} {r : Option ε} {G' : ε → Ga X.K} (h : Nb X (G.set i (.val (cLst c) xs)) sts r G') (hG : G[i]? = some (.own c xs) := by rfl) : Nb X G sts r G' := fun u hu F0 H0 F H σ C D q => by
  obtain ⟨F', z, C'⟩ := C.fz hG
  exact h u hu F0 H0 F' H σ C' D fun F2 H2 σ2 z2 => q F2 H2 σ2 (z.trans z2)
theorem rb_fz (i : Nat) {c : Cod X.K α} {xs : List α} {sts : List Stmt} {d : Cod X.K ρ} {r : Option ρ} (h : Rb X (G.set i (.val (cLst c) xs)) sts d r) (hG : G[i]? = some (.own c xs) := by rfl) : Rb X G sts d r := fun u hu F0 H0 F H σ C D q => by
  obtain ⟨F', z, C'⟩ := C.fz hG
  exact h u hu F0 H0 F' H σ C' D q
theorem fb_fz (i : Nat) {c : Cod X.K α} {xs : List α} {sts : List Stmt} {d : Cod X.K ρ} {r : Option (Fl ε ρ)} {G' : ε → Ga X.K} (h : Fb X (G.set i (.val (cLst c) xs)) sts r G' d) (hG : G[i]? = some (.own c xs) := by rfl) : Fb X G sts r G' d := fun u hu F0 H0 F H σ C D q => by
  obtain ⟨F', z, C'⟩ := C.fz hG
  exact h u hu F0 H0 F' H σ C' D (q.from z)
/-- what a slot owns is changed where it stands -/
theorem CtxOk.wr {F0 H0 F H : Hp} {σ : St} (C : CtxOk F0 H0 G F H σ) {i : Nat} {sa sb : SA X.K} {p : Addr} {o : HO} (hG : G[i]? = some sa) (ho : sa.isOwn = true) (hσ : σ[i]? = some (some (.ref p))) (hF : F p = none) (r : ∀ H', H' p = some o → SlotOk F H' sb (some (.ref p))) : CtxOk F0 H0 (G.set i sb) F (L2.upd H p o) σ := by
  have n0 := C.new i _ p hG ho hσ
  have hi : i < G.length := (List.getElem?_eq_some_iff.mp hG).1
  have fh : Same F (L2.upd H p o) := same_updF C.env.fh hF
  refine ⟨⟨by rw [List.length_set]; exact C.env.len, fun j sc h => ?_, fun j k s1 s2 q k1 k2 o1 o2 e1 e2 => ?_, fh⟩, ⟨C.g.ff, fun b u z => ?_, fh, C.g.new⟩, fun j sc q h oo e => ?_⟩
  · by_cases hj : i = j
    · subst hj
      rw [List.getElem?_set_self hi] at h
      cases h
      exact ⟨_, hσ, r _ upd_same⟩
    · rw [List.getElem?_set_ne hj] at h
      obtain ⟨s, k1, k2⟩ := C.env.at_ j sc h
      refine ⟨s, k1, ?_⟩
      have ne : sc.isOwn = true → ∀ q, s = some (.ref q) → q ≠ p := fun oo q e z => by
        subst z; subst e
        exact hj (C.env.inj i j _ sc q hG h ho oo hσ k1)
      cases sc with
      | any => trivial
      | val c a => exact k2
      | own c xs => obtain ⟨q, vs, e, f, h, r⟩ := k2; exact ⟨q, vs, e, f, by rw [upd_ne (ne rfl q e)]; exact h, r⟩
      | dic kc c m => obtain ⟨q, vs, e, f, h, r⟩ := k2; exact ⟨q, vs, e, f, by rw [upd_ne (ne rfl q e)]; exact h, r⟩
      | dit kc c m => obtain ⟨q, vs, e, f, h, r⟩ := k2; exact ⟨q, vs, e, f, by rw [upd_ne (ne rfl q e)]; exact h, r⟩
  · have at' : ∀ {m : Nat} {sc : SA X.K}, (G.set i sb)[m]? = some sc → ∃ sd : SA X.K, G[m]? = some sd ∧ (sc.isOwn = true → sd.isOwn = true) := fun {m sc} h => by
      by_cases hm : i = m
      · subst hm; exact ⟨sa, hG, fun _ => ho⟩
      · rw [List.getElem?_set_ne hm] at h; exact ⟨sc, h, id⟩
    obtain ⟨d1, m1, p1⟩ := at' k1
    obtain ⟨d2, m2, p2⟩ := at' k2
    exact C.env.inj j k d1 d2 q m1 m2 (p1 o1) (p2 o2) e1 e2
  · rw [upd_ne (fun y => by subst y; rw [n0] at z; cases z)]; exact C.g.hh b u z
  · by_cases hm : i = j
    · subst hm; rw [hσ] at e; cases e; exact n0
    · rw [List.getElem?_set_ne hm] at h; exact C.new j sc q h oo e
/-- xs.append(e), xs a list of one's own -/
noncomputable def appG {α : Type} (xs : List α) (a : α) : Option (List α) := gd (xs.length < sizeLine) (xs ++ [a])
theorem ns_app (i : Nat) {c : Cod X.K α} {xs : List α} {r : Option α} {apos cpos : Pos} (he : Ex X G e c r) (hG : G[i]? = some (.own c xs) := by rfl) (hN : X.N[i]? = some x := by rfl) (hv : Vis X.env.scope x := by first | exact Or.inl rfl | exact Or.inr (Or.inl rfl) | exact Or.inr (Or.inr rfl))
    (hd : (x == ("__debug__" : Str)) = false := by decide) (hcd : (x == ("__classdict__" : Str)) = false := by decide)
    (hs : starEach [e] X.env = (false, eval e X.env) :: starEach [] X.env := by rfl) (hbase : attributeBase (.Name x p') "append" X.env (eval (.Name x p') X.env) = eval (.Name x p') X.env := by rfl)
    (hfew : ((backTo cpos (starEach [e] X.env)).all (fun x => !x.1) && (backToKw cpos (keywordEach [] X.env)).all (fun x => x.1.isSome)
      && decide ([e].length + ([] : List Keyword).length + (if ([] : List Keyword).isEmpty then 0 else 1) < 30)) = true := by rfl)
    (hline : (apos.endLine == cpos.line) = true := by rfl) (hplain : (backTo cpos (starEach [] X.env)).any (·.1) = false := by rfl)
    (hsw : swapsWith (.Call (.Attribute (.Name x p') "append" apos) [e] [] cpos) none pos.line X.env = pure false := by rfl) :
    Ns X G (.Expr (.Call (.Attribute (.Name x p') "append" apos) [e] [] cpos) pos) (r.bind fun a => appG xs a) (fun z => G.set i (.own c z)) := fun u hu F0 H0 F H σ C D q => by
  obtain ⟨a, rfl, hb⟩ := bind1 hu
  obtain ⟨hz, hb⟩ := gd_some hb
  cases hb
  refine (ps_expr (pe_bm PySem.F.plainAttrs_list PySem.F.slot_list_append PySem.F.type_list_append mt_append (pe_var hN hv hd hcd) (pa_cons pe_self pa_nil hs) hbase hfew hline hs hplain) hsw).to ?_
  obtain ⟨p, vs, h1, h2, h3, h4⟩ := C.env.own hG
  refine ⟨.ref p, h1, .inl ⟨rfl, vs, .of h3⟩, he a rfl F H σ C.env _ fun y F1 H1 g ry => ?_⟩
  have C1 := C.grow g
  have h3' := g.hh _ _ h3
  have h2' := g.new p h2 (by rw [h3]; exact fun z => by cases z)
  refine ⟨p, vs, y, rfl, rfl, h3', by rw [h4.length]; exact hz, ?_⟩
  exact q F1 _ σ g.ff (C1.wr hG rfl h1 h2' fun H' e => ⟨p, _, rfl, h2', e, (h4.mono g.ff).r.append (.cons ry .nil), by rw [List.length_append]; exact hz⟩)
end
end
end M

namespace M
open PySem PySem.Spec L2

/-! ## loops -/
def forN {α ε : Type} (f : ε → α → Option ε) : List α → ε → Option ε
  | [], e => some e
  | x :: xs, e => (f e x).bind fun e' => forN f xs e'
def forF {α ε ρ : Type} (f : ε → α → Option (Fl ε ρ)) : List α → ε → Option (Fl ε ρ)
  | [], e => some (.nx e)
  | x :: xs, e => (f e x).bind fun o => match o with
    | .nx e' => forF f xs e'
    | .ct e' => forF f xs e'
    | .bk e' => some (.nx e')
    | .rt a => some (.rt a)
theorem forF_N {α ε ρ : Type} {f : ε → α → Option ε} : ∀ (xs : List α) (e : ε), forF (ρ := ρ) (fun e x => (f e x).map Fl.nx) xs e = (forN f xs e).map Fl.nx
  | [], e => rfl
  | x :: xs, e => by
    show (((f e x).map Fl.nx).bind fun o => _) = ((f e x).bind fun e' => forN f xs e').map Fl.nx
    cases f e x with
    | none => rfl
    | some e' => exact forF_N xs e'
def whileF {ε ρ : Type} (t : ε → Option Bool) (f : ε → Option (Fl ε ρ)) : Nat → ε → Option (Fl ε ρ)
  | 0, _ => none
  | n + 1, e => (t e).bind fun b => if b = true then (f e).bind fun o => match o with
      | .nx e' => whileF t f n e'
      | .ct e' => whileF t f n e'
      | .bk e' => some (.nx e')
      | .rt a => some (.rt a)
    else some (.nx e)
theorem whileF_mono {ε ρ : Type} {t : ε → Option Bool} {f : ε → Option (Fl ε ρ)} : ∀ {n m : Nat} {e : ε} {r : Fl ε ρ}, n ≤ m → whileF t f n e = some r → whileF t f m e = some r
  | 0, _, _, _, _, h => by cases h
  | n + 1, 0, _, _, h, _ => by omega
  | n + 1, m + 1, e, r, hl, h => by
    unfold whileF at h ⊢
    cases ht : t e with
    | none => rw [ht] at h; cases h
    | some b =>
      rw [ht] at h
      cases b with
      | false => exact h
      | true =>
        simp only [Option.bind_some, if_true] at h ⊢
        cases hf : f e with
        | none => rw [hf] at h; cases h
        | some o =>
          rw [hf] at h
          cases o with
          | nx e' => exact whileF_mono (by omega) h
          | ct e' => exact whileF_mono (by omega) h
          | bk e' => exact h
          | rt a => exact h
open Classical in
/-- a while's end, where there is one -/
noncomputable def whileO {ε ρ : Type} (t : ε → Option Bool) (f : ε → Option (Fl ε ρ)) (e : ε) : Option (Fl ε ρ) :=
  if h : ∃ n r, whileF t f n e = some r then some h.choose_spec.choose else none
theorem whileO_of {ε ρ : Type} {t : ε → Option Bool} {f : ε → Option (Fl ε ρ)} {e : ε} {n : Nat} {r : Fl ε ρ} (h : whileF t f n e = some r) : whileO t f e = some r := by
  have ex : ∃ n r, whileF t f n e = some r := ⟨n, r, h⟩
  unfold whileO
  rw [dif_pos ex]
  have k := ex.choose_spec.choose_spec
  have h1 := whileF_mono (Nat.le_max_left n ex.choose) h
  have h2 := whileF_mono (Nat.le_max_right n ex.choose) k
  rw [h1] at h2
  exact h2.symm
theorem whileO_some {ε ρ : Type} {t : ε → Option Bool} {f : ε → Option (Fl ε ρ)} {e : ε} {r : Fl ε ρ} (h : whileO t f e = some r) : ∃ n, whileF t f n e = some r := by
  unfold whileO at h
  split at h
  · rename_i ex
    cases h
    exact ⟨_, ex.choose_spec.choose_spec⟩
  · cases h
/-- one turn -/
theorem whileO_eq {ε ρ : Type} (t : ε → Option Bool) (f : ε → Option (Fl ε ρ)) (e : ε) : whileO t f e = (t e).bind fun b => if b = true then (f e).bind fun o => match o with
      | .nx e' => whileO t f e'
      | .ct e' => whileO t f e'
      | .bk e' => some (.nx e')
      | .rt a => some (.rt a)
    else some (.nx e) := by
  have key : ∀ r, whileO t f e = some r ↔ ((t e).bind fun b => if b = true then (f e).bind fun o => match o with
      | .nx e' => whileO t f e'
      | .ct e' => whileO t f e'
      | .bk e' => some (.nx e')
      | .rt a => some (.rt a)
    else some (.nx e)) = some r := fun r => by
    constructor
    · intro h
      obtain ⟨n, hn⟩ := whileO_some h
      cases n with
      | zero => cases hn
      | succ n =>
        unfold whileF at hn
        cases ht : t e with
        | none => rw [ht] at hn; cases hn
        | some b =>
          rw [ht] at hn
          cases b with
          | false => exact hn
          | true =>
            simp only [Option.bind_some, if_true] at hn ⊢
            cases hf : f e with
            | none => rw [hf] at hn; cases hn
            | some o =>
              rw [hf] at hn
              cases o with
              | nx e' => exact whileO_of hn
              | ct e' => exact whileO_of hn
              | bk e' => exact hn
              | rt a => exact hn
    · intro h
      cases ht : t e with
      | none => rw [ht] at h; cases h
      | some b =>
        rw [ht] at h
        cases b with
        | false => exact whileO_of (n := 1) (by unfold whileF; rw [ht]; exact h)
        | true =>
          simp only [Option.bind_some, if_true] at h
          cases hf : f e with
          | none => rw [hf] at h; cases h
          | some o =>
            rw [hf] at h
            have step : ∀ e', (∀ n r, whileF t f n e' = some r → whileF t f (n + 1) e = some r) → whileO t f e' = some r → whileO t f e = some r := fun e' k h => by
              obtain ⟨n, hn⟩ := whileO_some h
              exact whileO_of (k n r hn)
            cases o with
            | nx e' => exact step e' (fun n r hn => by unfold whileF; rw [ht]; simp only [Option.bind_some, if_true, hf]; exact hn) h
            | ct e' => exact step e' (fun n r hn => by unfold whileF; rw [ht]; simp only [Option.bind_some, if_true, hf]; exact hn) h
            | bk e' => exact whileO_of (n := 1) (by unfold whileF; rw [ht]; simp only [Option.bind_some, if_true, hf]; exact h)
            | rt a => exact whileO_of (n := 1) (by unfold whileF; rw [ht]; simp only [Option.bind_some, if_true, hf]; exact h)
  cases h1 : whileO t f e with
  | some r => exact ((key r).mp h1).symm
  | none =>
    cases h2 : ((t e).bind fun b => if b = true then (f e).bind fun o => match o with
      | .nx e' => whileO t f e'
      | .ct e' => whileO t f e'
      | .bk e' => some (.nx e')
      | .rt a => some (.rt a)
    else some (.nx e)) with
    | none => rfl
    | some r => rw [(key r).mpr h2] at h1; cases h1
section
variable {X : Cx} {G : Ga X.K} {α β γ τ ρ ε δ : Type} {pos : Pos}
theorem ns_ofF {st : Stmt} {r : Option ε} {G' : ε → Ga X.K} (h : Fs X G st (r.map Fl.nx) G' (cNon (K := X.K))) : Ns X G st r G' := fun u hu F0 H0 F H σ C D q => by
  subst hu
  exact h _ rfl F0 H0 F H σ C D ⟨fun e he => (by cases he; exact q), fun e he => (by cases he), fun e he => (by cases he), fun a ha => (by cases ha)⟩
theorem Tg.ctx {tg : Expr} {c : Cod X.K α} {vs : List Nat} {set : α → Ga X.K → Ga X.K} (h : Tg X tg c vs set) {F0 H0 F H : Hp} {σ : St} (C : CtxOk F0 H0 G F H σ) {v : V} {a : α} (r : c.rep F v a) {Q : St → Hp → Prop} (q : ∀ σ', CtxOk F0 H0 (set a G) F H σ' → Q σ' H) : tG X tg v σ H Q :=
  h.run v a F H σ Q r C.env.fh fun σ' l k e => q σ' ⟨e G C.env, C.g, fun i sa p hi o es => by
    obtain ⟨h1, h2⟩ := h.own a G i sa hi o
    rw [k i h2] at es
    exact C.new i sa p h1 o es⟩
theorem fs_for {tg it : Expr} {body : List Stmt} {c : Cod X.K α} {d : Cod X.K ρ} {r : Option (List α)} {vs : List Nat} {set : α → Ga X.K → Ga X.K} {G' : ε → Ga X.K} {e0 : ε} {f : ε → α → Option (Fl ε ρ)} (hi : ExI X G tg it c r) (ht : Tg X tg c vs set) (hc : X.calm = true)
    (hb : ∀ e x, Fb X (set x (G' e)) body (f e x) G' d) (hl : (G' e0).length = G.length) (w : ∀ (i : Nat) (sa : SA X.K), (G' e0)[i]? = some sa → sa = .any ∨ G[i]? = some sa)
    (hp : PassesOwn (model X.prog X.w) X.A X.env X.xe := by exact PassesOwn.never) (hs : ∀ x, foldedSetIterable it X.env x = pure x := by intro _; rfl) :
    Fs X G (.For tg it body [] pos) (r.bind fun xs => forF f xs e0) G' d := fun u hu F0 H0 F H σ C D q => by
  obtain ⟨xs, rfl, hu⟩ := bind1 hu
  refine (ps_for hp hc pi_self pg_self pss_self hs).to (hi xs rfl F H σ C.env _ fun J F1 H1 g1 W => ?_)
  have C1 := (C.grow g1).weak hl w
  refine ⟨fun i m σ H => m = xs.length - i ∧ i ≤ xs.length ∧ ∃ e Fi, forF f (xs.drop i) e = some u ∧ CtxOk F0 H0 (G' e) Fi H σ ∧ Same F1 Fi, ⟨xs.length, by simp, Nat.zero_le _, e0, F1, hu, C1, Same.refl _⟩, ?_⟩
  rintro i m σi Hi ⟨rfl, hi', e, Fi, hf, Ci, si⟩
  have hB : Same F1 Hi := si.trans Ci.env.fh
  by_cases hlt : i < xs.length
  · rw [List.drop_eq_getElem_cons hlt] at hf
    refine .inr ⟨W.go i Hi hlt hB, fun σ' H' => ∃ e' F', forF f (xs.drop (i + 1)) e' = some u ∧ CtxOk F0 H0 (G' e') F' H' σ' ∧ Same F1 F', fun σ' H' ⟨e', F', h1, h2, h3⟩ => ⟨xs.length - (i + 1), by omega, rfl, hlt, e', F', h1, h2, h3⟩, fun x H' y => ?_⟩
    obtain ⟨a, F2, hx, g2, rx⟩ := W.yld i Fi Hi x H' hlt hB si Ci.env.fh y
    have ea : a = xs[i] := by
      rw [List.getElem?_eq_getElem hlt] at hx
      exact (Option.some.inj hx).symm
    obtain ⟨o, ho, hk⟩ := bind1 (show ((f e xs[i]).bind fun o => _) = some u from hf)
    rw [← ea] at ho
    refine ht.ctx (Ci.grow g2) rx fun σ2 C2 => ?_
    refine hb e a o ho F0 H0 F2 H' σ2 C2 _ ⟨fun e' he F' H'' σ' z C' => ?_, fun e' he F' H'' σ' z C' => ?_, fun e' he F' H'' σ' z C' => ?_, fun b hb' v F' H'' g rv => ?_⟩
    · subst he; exact ⟨e', F', hk, C', (si.trans g2.ff).trans z⟩
    · subst he; cases hk; exact q.nx e' rfl F' H'' σ' (g1.ff.trans ((si.trans g2.ff).trans z)) C'
    · subst he; exact ⟨e', F', hk, C', (si.trans g2.ff).trans z⟩
    · subst hb'; cases hk; exact q.rt b rfl v F' H'' g rv
  · have ei : i = xs.length := by omega
    subst ei
    rw [List.drop_length] at hf
    cases hf
    exact .inl ⟨W.stop Hi hB, q.nx e rfl Fi Hi σi (g1.ff.trans si) Ci⟩
theorem ns_for {tg it : Expr} {body : List Stmt} {c : Cod X.K α} {r : Option (List α)} {vs : List Nat} {set : α → Ga X.K → Ga X.K} {G' : ε → Ga X.K} {e0 : ε} {f : ε → α → Option ε} (hi : ExI X G tg it c r) (ht : Tg X tg c vs set) (hc : X.calm = true)
    (hb : ∀ e x, Nb X (set x (G' e)) body (f e x) G') (hl : (G' e0).length = G.length) (w : ∀ (i : Nat) (sa : SA X.K), (G' e0)[i]? = some sa → sa = .any ∨ G[i]? = some sa)
    (hp : PassesOwn (model X.prog X.w) X.A X.env X.xe := by exact PassesOwn.never) (hs : ∀ x, foldedSetIterable it X.env x = pure x := by intro _; rfl) :
    Ns X G (.For tg it body [] pos) (r.bind fun xs => forN f xs e0) G' := by
  have h := fs_for (pos := pos) (d := cNon (K := X.K)) hi ht hc (fun e x => (hb e x).f cNon) hl w hp hs
  refine ns_ofF ?_
  have e : (r.bind fun xs => forF (fun e x => (f e x).map Fl.nx) xs e0) = (r.bind fun xs => forN f xs e0).map (Fl.nx (ρ := Unit)) := by
    cases r with
    | none => rfl
    | some xs => exact forF_N xs e0
  rw [← e]
  exact h
theorem fs_while {t : Expr} {body : List Stmt} {d : Cod X.K ρ} {G' : ε → Ga X.K} {e0 : ε} {tt : ε → Option Bool} {f : ε → Option (Fl ε ρ)} (ht : ∀ e, Te X (G' e) t (tt e)) (hb : ∀ e, Fb X (G' e) body (f e) G' d) (hl : (G' e0).length = G.length) (w : ∀ (i : Nat) (sa : SA X.K), (G' e0)[i]? = some sa → sa = .any ∨ G[i]? = some sa)
    (hp : PassesOwn (model X.prog X.w) X.A X.env X.xe := by exact PassesOwn.never) : Fs X G (.While t body [] pos) (whileO tt f e0) G' d := fun u hu F0 H0 F H σ C D q => by
  obtain ⟨n, hn⟩ := whileO_some hu
  refine (ps_while hp pt_self pss_self).to ⟨fun m σ H => ∃ e Fi, whileF tt f m e = some u ∧ CtxOk F0 H0 (G' e) Fi H σ ∧ Same F Fi, ⟨n, e0, F, hn, C.weak hl w, Same.refl _⟩, ?_⟩
  rintro m σi Hi ⟨e, Fi, hf, Ci, si⟩
  cases m with
  | zero => cases hf
  | succ m =>
    unfold whileF at hf
    obtain ⟨b, hb', hk⟩ := bind1 hf
    refine ht e b hb' Fi Hi σi Ci.env _ fun F1 H1 g1 => ?_
    cases b with
    | false =>
      rw [if_neg Bool.false_ne_true] at hk ⊢
      cases hk
      exact q.nx e rfl F1 H1 σi (si.trans g1.ff) (Ci.grow g1)
    | true =>
      rw [if_pos rfl] at hk ⊢
      obtain ⟨o, ho, hk⟩ := bind1 hk
      refine ⟨fun σ' H' => ∃ e' F', whileF tt f m e' = some u ∧ CtxOk F0 H0 (G' e') F' H' σ' ∧ Same F F', fun σ' H' ⟨e', F', h1, h2, h3⟩ => ⟨m, Nat.lt_succ_self m, e', F', h1, h2, h3⟩, ?_⟩
      refine hb e o ho F0 H0 F1 H1 σi (Ci.grow g1) _ ⟨fun e' he F' H'' σ' z C' => ?_, fun e' he F' H'' σ' z C' => ?_, fun e' he F' H'' σ' z C' => ?_, fun b hb' v F' H'' g rv => ?_⟩
      · subst he; exact ⟨e', F', hk, C', (si.trans g1.ff).trans z⟩
      · subst he; cases hk; exact q.nx e' rfl F' H'' σ' ((si.trans g1.ff).trans z) C'
      · subst he; exact ⟨e', F', hk, C', (si.trans g1.ff).trans z⟩
      · subst hb'; cases hk; exact q.rt b rfl v F' H'' g rv
/-- a while whose body goes on -/
noncomputable def whileN {ε : Type} (t : ε → Option Bool) (f : ε → Option ε) (e : ε) : Option ε := (whileO (ρ := Unit) t (fun e => (f e).map Fl.nx) e).bind fun o => match o with
  | .nx e => some e
  | _ => none
theorem ns_while {t : Expr} {body : List Stmt} {G' : ε → Ga X.K} {e0 : ε} {tt : ε → Option Bool} {f : ε → Option ε} (ht : ∀ e, Te X (G' e) t (tt e)) (hb : ∀ e, Nb X (G' e) body (f e) G') (hl : (G' e0).length = G.length) (w : ∀ (i : Nat) (sa : SA X.K), (G' e0)[i]? = some sa → sa = .any ∨ G[i]? = some sa)
    (hp : PassesOwn (model X.prog X.w) X.A X.env X.xe := by exact PassesOwn.never) : Ns X G (.While t body [] pos) (whileN tt f e0) G' := fun u hu F0 H0 F H σ C D q => by
  unfold whileN at hu
  obtain ⟨o, ho, hk⟩ := bind1 hu
  cases o with
  | nx e =>
    cases hk
    exact fs_while (pos := pos) (d := cNon (K := X.K)) ht (fun e => (hb e).f cNon) hl w hp _ ho F0 H0 F H σ C D ⟨fun e he => (by cases he; exact q), fun e he => (by cases he), fun e he => (by cases he), fun a ha => (by cases ha)⟩
  | _ => cases hk

/-! ## dicts -/
/-- a dict that may be read there and then -/
def ExDB (X : Cx) (G : Ga X.K) (e : Expr) {κ α : Type} (kc : κ → Key) (c : Cod X.K α) (r : Option (List (κ × α))) : Prop :=
  ∀ a, r = some a → ∀ (F H : Hp) (σ : St), EnvOk G F H σ → ∀ Q : VK, (∀ p kvs F' H', Grow F H F' H' → Rd H' p (.dK kvs) → DReps kc c F' kvs a → Q (.ref p) H') → tE X e σ H Q
/-- a dict that is not changed any more -/
def cDic {K : PySem.W.Frag} {κ α : Type} (kc : κ → Key) (c : Cod K α) : Cod K (List (κ × α)) :=
  ⟨fun F v m => ∃ p kvs, v = .ref p ∧ Rd F p (.dK kvs) ∧ DReps kc c F kvs m, fun s ⟨p, kvs, e, h, r⟩ => ⟨p, kvs, e, h.elim (fun z => .inl (s _ _ z)) (fun ⟨o, z⟩ => .inr ⟨o, s _ _ z⟩), r.mono s⟩⟩
theorem rd_mono {F F' : Hp} (s : Same F F') {p : Addr} {u : HO} (h : Rd F p u) : Rd F' p u := h.elim (fun z => .inl (s _ _ z)) (fun ⟨o, z⟩ => .inr ⟨o, s _ _ z⟩)
theorem Ex.db {κ : Type} {e : Expr} {kc : κ → Key} {c : Cod X.K α} {r : Option (List (κ × α))} (h : Ex X G e (cDic kc c) r) : ExDB X G e kc c r := fun a ha F H σ E Q q =>
  h a ha F H σ E Q fun v F' H' g ⟨p, kvs, e2, hq, rp⟩ => by subst e2; exact q p kvs F' H' g (rd_mono g.fh hq) rp
theorem exdb_v (i : Nat) {κ : Type} {kc : κ → Key} {c : Cod X.K α} {a : List (κ × α)} {x : Str} {pos : Pos} (hG : G[i]? = some (.dic kc c a) := by rfl) (hN : X.N[i]? = some x := by rfl) (hv : Vis X.env.scope x := by first | exact Or.inl rfl | exact Or.inr (Or.inl rfl) | exact Or.inr (Or.inr rfl))
    (hd : (x == ("__debug__" : Str)) = false := by decide) (hcd : (x == ("__classdict__" : Str)) = false := by decide) : ExDB X G (.Name x pos) kc c (some a) := fun b hb F H σ E Q q => by
  cases hb
  obtain ⟨s, h1, p, kvs, e, h2, h3, h4⟩ := E.at_ i _ hG
  subst e
  exact (pe_var hN hv hd hcd).to ⟨.ref p, h1, q p kvs F H (.refl E.fh) (.inl h3) h4⟩
/-- keys: a code for them, as they are in the dict -/
structure KeyC {K : PySem.W.Frag} {κ : Type} (kc : κ → Key) (c : Cod K κ) : Prop where
  rep : ∀ {F : Hp} {v : V} {k : κ}, c.rep F v k → v = kV (kc k)
  inj : ∀ {a b : κ}, kc a = kc b → a = b
theorem kc_int {K : PySem.W.Frag} : KeyC (K := K) (fun i : Int => Sum.inl i) cInt := ⟨fun h => h, fun h => Sum.inl.inj h⟩
theorem kc_str {K : PySem.W.Frag} : KeyC (K := K) (fun l : List Nat => Sum.inr (tx l)) cStr := ⟨fun h => h.1, fun h => tx_inj (Sum.inr.inj h)⟩
/-- what a dict holds under a key -/
def dget {κ α : Type} [DecidableEq κ] (m : List (κ × α)) (k : κ) : Option α := (m.find? fun kv => decide (kv.1 = k)).map (·.2)
def dput {κ α : Type} [DecidableEq κ] (m : List (κ × α)) (k : κ) (v : α) : List (κ × α) :=
  if (m.any fun kv => decide (kv.1 = k)) = true then m.map fun kv => if kv.1 = k then (kv.1, v) else kv else m ++ [(k, v)]
theorem dreps_get {K : PySem.W.Frag} {κ : Type} [DecidableEq κ] {kc : κ → Key} {ck : Cod K κ} {c : Cod K α} (hk : KeyC kc ck) {F : Hp} : ∀ {kvs : List (Key × V)} {m : List (κ × α)}, DReps kc c F kvs m → ∀ k : κ, (dget m k = none ∧ valV kvs (kc k) = none) ∨ ∃ a v, dget m k = some a ∧ valV kvs (kc k) = some v ∧ c.rep F v a
  | _, _, .nil, k => .inl ⟨rfl, rfl⟩
  | kv :: kvs, a :: m, .cons r t, k => by
    by_cases h : a.1 = k
    · refine .inr ⟨a.2, kv.2, ?_, ?_, r.2⟩
      · unfold dget; rw [List.find?_cons_of_pos (by simpa using h)]; rfl
      · exact valV_pos (by rw [r.1, h])
    · have h1 : dget (a :: m) k = dget m k := by unfold dget; rw [List.find?_cons_of_neg (by simpa using h)]
      have h2 : valV (kv :: kvs) (kc k) = valV kvs (kc k) := valV_neg (by rw [r.1]; exact fun z => h (hk.inj z))
      rw [h1, h2]
      exact dreps_get hk t k
theorem dreps_any {K : PySem.W.Frag} {κ : Type} [DecidableEq κ] {kc : κ → Key} {ck : Cod K κ} {c : Cod K α} (hk : KeyC kc ck) {F : Hp} (k : κ) : ∀ {kvs : List (Key × V)} {m : List (κ × α)}, DReps kc c F kvs m → (kvs.any fun kv => decide (kv.1 = kc k)) = (m.any fun kv => decide (kv.1 = k))
  | _, _, .nil => rfl
  | kv :: kvs, a :: m, .cons r t => by
    rw [List.any_cons, List.any_cons, dreps_any hk k t, r.1]
    congr 1
    exact decide_eq_decide.mpr ⟨fun z => hk.inj z, fun z => by rw [z]⟩
theorem dreps_map {K : PySem.W.Frag} {κ : Type} [DecidableEq κ] {kc : κ → Key} {ck : Cod K κ} {c : Cod K α} (hk : KeyC kc ck) {F : Hp} (k : κ) {v : V} {a : α} (rv : c.rep F v a) : ∀ {kvs : List (Key × V)} {m : List (κ × α)}, DReps kc c F kvs m → DReps kc c F (kvs.map fun kv => if kv.1 = kc k then (kv.1, v) else kv) (m.map fun kv => if kv.1 = k then (kv.1, a) else kv)
  | _, _, .nil => .nil
  | kv :: kvs, b :: m, .cons r t => by
    refine .cons ?_ (dreps_map hk k rv t)
    show (if kv.1 = kc k then (kv.1, v) else kv).1 = kc (if b.1 = k then (b.1, a) else b).1 ∧ c.rep F (if kv.1 = kc k then (kv.1, v) else kv).2 (if b.1 = k then (b.1, a) else b).2
    by_cases h : b.1 = k
    · rw [if_pos h, if_pos (by rw [r.1, h])]; exact ⟨r.1, rv⟩
    · rw [if_neg h, if_neg (by rw [r.1]; exact fun z => h (hk.inj z))]; exact r
theorem dreps_app {K : PySem.W.Frag} {κ ι : Type} {kc : κ → ι} {c : Cod K α} {F : Hp} : ∀ {kvs ws : List (ι × V)} {m n : List (κ × α)}, DReps kc c F kvs m → DReps kc c F ws n → DReps kc c F (kvs ++ ws) (m ++ n)
  | _, _, _, _, .nil, s => s
  | _, _, _, _, .cons r t, s => .cons r (dreps_app t s)
theorem dreps_put {K : PySem.W.Frag} {κ : Type} [DecidableEq κ] {kc : κ → Key} {ck : Cod K κ} {c : Cod K α} (hk : KeyC kc ck) {F : Hp} (k : κ) {v : V} {a : α} (rv : c.rep F v a) {kvs : List (Key × V)} {m : List (κ × α)} (r : DReps kc c F kvs m) : DReps kc c F (putK kvs (kc k) v) (dput m k a) := by
  unfold putK dput
  rw [dreps_any hk k r]
  split
  · exact dreps_map hk k rv r
  · exact dreps_app r (.cons ⟨rfl, rv⟩ .nil)
/-- d[k] = v, d a dict of one's own -/
noncomputable def putG {κ α : Type} [DecidableEq κ] (m : List (κ × α)) (k : κ) (v : α) : Option (List (κ × α)) := gd (m.length < sizeLine) (dput m k v)
theorem ns_dput (i : Nat) {κ : Type} [DecidableEq κ] {kc : κ → Key} {ck : Cod X.K κ} {c : Cod X.K α} {m : List (κ × α)} {x : Str} {k v : Expr} {p' p2 : Pos} {rk : Option κ} {rv : Option α} (hu : X.A.units + 64 < cLine) (hk : KeyC kc ck) (hke : Ex X G k ck rk) (hve : Ex X G v c rv) (hG : G[i]? = some (.dic kc c m) := by rfl) (hN : X.N[i]? = some x := by rfl) (hv : Vis X.env.scope x := by first | exact Or.inl rfl | exact Or.inr (Or.inl rfl) | exact Or.inr (Or.inr rfl))
    (hd : (x == ("__debug__" : Str)) = false := by decide) (hcd : (x == ("__classdict__" : Str)) = false := by decide) (hs : swapsWith v (some (.Subscript (.Name x p') k p2)) pos.line X.env = pure false := by rfl) :
    Ns X G (.Assign [.Subscript (.Name x p') k p2] v pos) (rv.bind fun a => rk.bind fun k => putG m k a) (fun z => G.set i (.dic kc c z)) := fun u hu' F0 H0 F H σ C D q => by
  obtain ⟨a, rfl, h1⟩ := bind1 hu'
  obtain ⟨k, rfl, h2⟩ := bind1 h1
  obtain ⟨hz, h2⟩ := gd_some h2
  cases h2
  refine (ps_dput (by omega) (pe_var hN hv hd hcd) pe_self pe_self hs).to (hve a rfl F H σ C.env _ fun w F1 H1 g1 rw' => ?_)
  obtain ⟨s, e1, p, kvs, e, f2, f3, f4⟩ := (C.grow g1).env.at_ i _ hG
  subst e
  refine ⟨.ref p, e1, hke k rfl F1 H1 σ (C.grow g1).env _ fun y F2 H2 g2 ry => ?_⟩
  have C2 := C.grow (g1.trans g2)
  have f3' := g2.hh _ _ f3
  have f2' := g2.new p f2 (by rw [f3]; exact fun z => by cases z)
  have ey := hk.rep ry
  subst ey
  refine ⟨p, _, rfl, DPut.k f3' (by rw [f4.length]; exact hz), ?_⟩
  exact q F2 _ σ (g1.trans g2).ff (C2.wr hG rfl e1 f2' fun H' e => ⟨p, _, rfl, f2', e, dreps_put hk k (c.mono g2.ff rw') (f4.mono g2.ff)⟩)
/-- d[k] -/
theorem ex_dget {κ : Type} [DecidableEq κ] {kc : κ → Key} {ck : Cod X.K κ} {c : Cod X.K α} {d k : Expr} {r : Option (List (κ × α))} {rk : Option κ} (hu : X.A.units + 64 < cLine) (hk : KeyC kc ck) (hd : ExDB X G d kc c r) (hke : Ex X G k ck rk) (hs : NoSl k := by exact fun _ _ => rfl) :
    Ex X G (.Subscript d k pos) c (r.bind fun m => rk.bind fun k => dget m k) := fun u hu' F H σ E Q q => by
  obtain ⟨m, rfl, h1⟩ := bind1 hu'
  obtain ⟨k, rfl, h2⟩ := bind1 h1
  refine (pe_dget (by omega) pe_self pe_self hs).to (hd m rfl F H σ E _ fun p kvs F1 H1 g1 hr rm => hke k rfl F1 H1 σ (E.grow g1) _ fun y F2 H2 g2 ry => ?_)
  have ey := hk.rep ry
  subst ey
  rcases dreps_get hk (rm.mono g2.ff) k with ⟨h3, _⟩ | ⟨a, v, h3, h4, h5⟩
  · rw [h3] at h2; cases h2
  · rw [h3] at h2; cases h2
    exact ⟨p, v, rfl, .inl ⟨kvs, kc k, rd_mono g2.hh hr, rfl, h4.symm⟩, q v F2 H2 (g1.trans g2) h5⟩
/-- k in d, k not in d -/
theorem ex_din {κ : Type} [DecidableEq κ] {kc : κ → Key} {ck : Cod X.K κ} {c : Cod X.K α} {d k : Expr} {r : Option (List (κ × α))} {rk : Option κ} (hu : X.A.units + 64 < cLine) (hk : KeyC kc ck) (hke : Ex X G k ck rk) (hd : ExDB X G d kc c r) (hm : behindInMarks .In d = false := by rfl) :
    Ex X G (.Compare k [.In] [d] pos) cBool (rk.bind fun k => r.bind fun m => some (dget m k).isSome) := fun u hu' F H σ E Q q => by
  obtain ⟨k, rfl, h1⟩ := bind1 hu'
  obtain ⟨m, rfl, h2⟩ := bind1 h1
  cases h2
  refine (pe_cmp (pc_din (by omega) pe_self pe_self) hm).to (hke k rfl F H σ E _ fun y F1 H1 g1 ry => hd m rfl F1 H1 σ (E.grow g1) _ fun p kvs F2 H2 g2 hr rm => ?_)
  have ey := hk.rep ry
  subst ey
  rcases dreps_get hk rm k with ⟨h3, h4⟩ | ⟨a, v, h3, h4, h5⟩
  · exact ⟨p, none, rfl, .inl ⟨kvs, kc k, hr, rfl, h4.symm⟩, q _ F2 H2 (g1.trans g2) (by rw [h3]; rfl)⟩
  · exact ⟨p, some v, rfl, .inl ⟨kvs, kc k, hr, rfl, h4.symm⟩, q _ F2 H2 (g1.trans g2) (by rw [h3]; rfl)⟩
theorem ex_dnin {κ : Type} [DecidableEq κ] {kc : κ → Key} {ck : Cod X.K κ} {c : Cod X.K α} {d k : Expr} {r : Option (List (κ × α))} {rk : Option κ} (hu : X.A.units + 64 < cLine) (hk : KeyC kc ck) (hke : Ex X G k ck rk) (hd : ExDB X G d kc c r) (hm : behindInMarks .NotIn d = false := by rfl) :
    Ex X G (.Compare k [.NotIn] [d] pos) cBool (rk.bind fun k => r.bind fun m => some (!(dget m k).isSome)) := fun u hu' F H σ E Q q => by
  obtain ⟨k, rfl, h1⟩ := bind1 hu'
  obtain ⟨m, rfl, h2⟩ := bind1 h1
  cases h2
  refine (pe_cmp (pc_dnotin (by omega) pe_self pe_self) hm).to (hke k rfl F H σ E _ fun y F1 H1 g1 ry => hd m rfl F1 H1 σ (E.grow g1) _ fun p kvs F2 H2 g2 hr rm => ?_)
  have ey := hk.rep ry
  subst ey
  rcases dreps_get hk rm k with ⟨h3, h4⟩ | ⟨a, v, h3, h4, h5⟩
  · exact ⟨p, none, rfl, .inl ⟨kvs, kc k, hr, rfl, h4.symm⟩, q _ F2 H2 (g1.trans g2) (by rw [h3]; rfl)⟩
  · exact ⟨p, some v, rfl, .inl ⟨kvs, kc k, hr, rfl, h4.symm⟩, q _ F2 H2 (g1.trans g2) (by rw [h3]; rfl)⟩
/-- a test of a comparison that is not made by values -/
theorem te_din {κ : Type} [DecidableEq κ] {kc : κ → Key} {ck : Cod X.K κ} {c : Cod X.K α} {d k : Expr} {r : Option (List (κ × α))} {rk : Option κ} (hu : X.A.units + 64 < cLine) (hk : KeyC kc ck) (hke : Ex X G k ck rk) (hd : ExDB X G d kc c r) (hm : behindInMarks .In d = false := by rfl) :
    Te X G (.Compare k [.In] [d] pos) (rk.bind fun k => r.bind fun m => some (dget m k).isSome) := fun u hu' F H σ E Q q => by
  obtain ⟨k, rfl, h1⟩ := bind1 hu'
  obtain ⟨m, rfl, h2⟩ := bind1 h1
  cases h2
  refine (pt_cmp (pc_din (by omega) pe_self pe_self) hm).to (hke k rfl F H σ E _ fun y F1 H1 g1 ry => hd m rfl F1 H1 σ (E.grow g1) _ fun p kvs F2 H2 g2 hr rm => ?_)
  have ey := hk.rep ry
  subst ey
  rcases dreps_get hk rm k with ⟨h3, h4⟩ | ⟨a, v, h3, h4, h5⟩
  · exact ⟨p, none, rfl, .inl ⟨kvs, kc k, hr, rfl, h4.symm⟩, _, rfl, by rw [h3] at q; exact q F2 H2 (g1.trans g2)⟩
  · exact ⟨p, some v, rfl, .inl ⟨kvs, kc k, hr, rfl, h4.symm⟩, _, rfl, by rw [h3] at q; exact q F2 H2 (g1.trans g2)⟩
theorem te_dnin {κ : Type} [DecidableEq κ] {kc : κ → Key} {ck : Cod X.K κ} {c : Cod X.K α} {d k : Expr} {r : Option (List (κ × α))} {rk : Option κ} (hu : X.A.units + 64 < cLine) (hk : KeyC kc ck) (hke : Ex X G k ck rk) (hd : ExDB X G d kc c r) (hm : behindInMarks .NotIn d = false := by rfl) :
    Te X G (.Compare k [.NotIn] [d] pos) (rk.bind fun k => r.bind fun m => some (!(dget m k).isSome)) := fun u hu' F H σ E Q q => by
  obtain ⟨k, rfl, h1⟩ := bind1 hu'
  obtain ⟨m, rfl, h2⟩ := bind1 h1
  cases h2
  refine (pt_cmp (pc_dnotin (by omega) pe_self pe_self) hm).to (hke k rfl F H σ E _ fun y F1 H1 g1 ry => hd m rfl F1 H1 σ (E.grow g1) _ fun p kvs F2 H2 g2 hr rm => ?_)
  have ey := hk.rep ry
  subst ey
  rcases dreps_get hk rm k with ⟨h3, h4⟩ | ⟨a, v, h3, h4, h5⟩
  · exact ⟨p, none, rfl, .inl ⟨kvs, kc k, hr, rfl, h4.symm⟩, _, rfl, by rw [h3] at q; exact q F2 H2 (g1.trans g2)⟩
  · exact ⟨p, some v, rfl, .inl ⟨kvs, kc k, hr, rfl, h4.symm⟩, _, rfl, by rw [h3] at q; exact q F2 H2 (g1.trans g2)⟩
/-- d.get(k, x) -/
theorem ex_dget2 {κ : Type} [DecidableEq κ] {kc : κ → Key} {ck : Cod X.K κ} {c : Cod X.K α} {d k z : Expr} {apos cpos : Pos} {r : Option (List (κ × α))} {rk : Option κ} {rz : Option α} (hu : X.A.units + 64 < cLine) (hk : KeyC kc ck) (hd : ExDB X G d kc c r) (hke : Ex X G k ck rk) (hz : Ex X G z c rz) (m2 : M2 X d "get" apos k z cpos := by constructor <;> rfl) :
    Ex X G (.Call (.Attribute d "get" apos) [k, z] [] cpos) c (r.bind fun m => rk.bind fun k => rz.bind fun z => some ((dget m k).getD z)) := fun u hu' F H σ E Q q => by
  obtain ⟨m, k, z, rfl, rfl, rfl, h2⟩ := bind3 hu'
  cases h2
  refine (pe_dget2 (by omega) pe_self pe_self pe_self m2).to (hd m rfl F H σ E _ fun p kvs F1 H1 g1 hr rm => ⟨p, rfl, .inl ⟨kvs, hr⟩, hke k rfl F1 H1 σ (E.grow g1) _ fun y F2 H2 g2 ry => hz z rfl F2 H2 σ (E.grow (g1.trans g2)) _ fun w F3 H3 g3 rw' => ?_⟩)
  have ey := hk.rep ry
  subst ey
  rcases dreps_get hk (rm.mono (g2.trans g3).ff) k with ⟨h3, h4⟩ | ⟨a, v, h3, h4, h5⟩
  · exact ⟨none, .inl ⟨kvs, kc k, rd_mono (g2.trans g3).hh hr, rfl, h4.symm⟩, q _ F3 H3 ((g1.trans g2).trans g3) (by rw [h3]; exact rw')⟩
  · exact ⟨some v, .inl ⟨kvs, kc k, rd_mono (g2.trans g3).hh hr, rfl, h4.symm⟩, q _ F3 H3 ((g1.trans g2).trans g3) (by rw [h3]; exact h5)⟩
/-- a dict of one's own is handed out -/
theorem rb_retD (i : Nat) {κ : Type} {kc : κ → Key} {c : Cod X.K α} {m : List (κ × α)} {x : Str} {p' : Pos} {rest : List Stmt} (hG : G[i]? = some (.dic kc c m) := by rfl) (hN : X.N[i]? = some x := by rfl) (hv : Vis X.env.scope x := by first | exact Or.inl rfl | exact Or.inr (Or.inl rfl) | exact Or.inr (Or.inr rfl))
    (hd : (x == ("__debug__" : Str)) = false := by decide) (hcd : (x == ("__classdict__" : Str)) = false := by decide) : Rb X G (.Return (some (.Name x p')) pos :: rest) (cDic kc c) (some m) := fun u hu F0 H0 F H σ C D q => by
  cases hu
  obtain ⟨s, h1, p, kvs, e, h2, h3, h4⟩ := C.env.at_ i _ hG
  subst e
  have n0 := C.new i _ p hG rfl h1
  refine (pss_cons (ps_ret (pe_var hN hv hd hcd)) pss_never).to ⟨.ref p, h1, q (.ref p) (L2.upd F p (.dK kvs)) H ⟨C.g.ff.trans (same_upd h2), C.g.hh, fun b o z => ?_, fun b k1 k2 => ?_⟩ ⟨p, kvs, rfl, .inl upd_same, h4.mono (same_upd h2)⟩⟩
  · by_cases hb : b = p
    · subst hb; rw [upd_same] at z; rw [h3]; exact z
    · rw [upd_ne hb] at z; exact C.g.fh b o z
  · rw [upd_ne (fun z => by subst z; exact k2 n0)]; exact C.g.new b k1 k2
end
end M

namespace M
open PySem PySem.Spec L2

/-! ## a def's body -/
/-- what is known of the parameters -/
class RSA {K : PySem.W.Frag} {τ : Type} (r : Row K τ) (sas : outParam (τ → List (SA K))) : Prop where
  len : ∀ {F : Hp} {vs : List V} {a : τ}, r.rep F vs a → (sas a).length = vs.length
  ok : ∀ {F H : Hp} {vs : List V} {a : τ}, r.rep F vs a → ∀ (i : Nat) (sa : SA K), (sas a)[i]? = some sa → sa.isOwn = false ∧ ∃ v, vs[i]? = some v ∧ SlotOk F H sa (some v)
section
variable {K : PySem.W.Frag} {α τ ρ : Type}
instance {c : Cod K α} : RSA (rOne c) (fun a => [.val c a]) := ⟨fun ⟨v, e, r⟩ => by rw [e]; rfl, fun ⟨v, e, r⟩ i sa h => by
  subst e
  cases i with
  | zero => cases h; exact ⟨rfl, v, rfl, v, rfl, r⟩
  | succ i => cases h⟩
instance {c : Cod K α} {r : Row K τ} {sas : τ → List (SA K)} [x : RSA r sas] : RSA (rCons c r) (fun a => .val c a.1 :: sas a.2) := ⟨fun ⟨v, ws, e, h, t⟩ => by rw [e, List.length_cons, List.length_cons, x.len t], fun ⟨v, ws, e, h, t⟩ i sa hi => by
  subst e
  cases i with
  | zero => cases hi; exact ⟨rfl, v, rfl, v, rfl, h⟩
  | succ i =>
    rw [List.getElem?_cons_succ] at hi
    obtain ⟨h1, w, h2, h3⟩ := x.ok t i sa hi
    exact ⟨h1, w, by rw [List.getElem?_cons_succ]; exact h2, h3⟩⟩
theorem start_env {r : Row K τ} {sas : τ → List (SA K)} {n : Nat} [hl : RLen r n] [hs : RSA r sas] {N : List Str} {F H : Hp} {vs : List V} {t : τ} (rp : r.rep F vs t) (hF : Same F H) : CtxOk F H (sas t ++ List.replicate (N.length - n) .any) F H (L2.start N vs) := by
  have noown : ∀ (i : Nat) (sa : SA K), (sas t ++ List.replicate (N.length - n) .any)[i]? = some sa → sa.isOwn = false := fun i sa hi => by
    by_cases hlt : i < vs.length
    · rw [List.getElem?_append_left (by rw [hs.len rp]; exact hlt)] at hi
      exact (hs.ok (H := H) rp i sa hi).1
    · rw [List.getElem?_append_right (by rw [hs.len rp]; omega), List.getElem?_replicate] at hi
      split at hi
      · cases hi; rfl
      · cases hi
  refine ⟨⟨?_, fun i sa hi => ?_, fun i j sa sb p h1 h2 o1 o2 _ _ => ?_, hF⟩, .refl hF, fun i sa p h o _ => ?_⟩
  · unfold L2.start
    rw [List.length_append, List.length_append, List.length_map, List.length_replicate, List.length_replicate, hs.len rp, hl.len rp]
  · by_cases hlt : i < vs.length
    · rw [List.getElem?_append_left (by rw [hs.len rp]; exact hlt)] at hi
      obtain ⟨_, v, h1, h2⟩ := hs.ok rp i sa hi
      refine ⟨some v, ?_, h2⟩
      unfold L2.start
      rw [List.getElem?_append_left (by rw [List.length_map]; exact hlt), List.getElem?_map, h1]
      rfl
    · rw [List.getElem?_append_right (by rw [hs.len rp]; omega), List.getElem?_replicate] at hi
      split at hi
      · rename_i hlt2
        cases hi
        refine ⟨none, ?_, trivial⟩
        unfold L2.start
        rw [List.getElem?_append_right (by rw [List.length_map]; omega), List.getElem?_replicate, List.length_map, hl.len rp]
        rw [hs.len rp, hl.len rp] at hlt2
        rw [if_pos hlt2]
      · cases hi
  · rw [noown i sa h1] at o1; cases o1
  · rw [noown i sa h] at o; cases o
/-- the context of a def's body, nothing raised -/
abbrev CxF (P : Program) (w : World) (K : PySem.W.Frag) (mg : Str → Option Value) (base : Heap) (N : List Str) (qual : Str) (st : Stmt) (a : Addr) (cdv : Value) (A : Around) (outer : List Env) (s : Shared) (H : Hp) (E : XK) : Cx :=
  (cxOf CX0 P w K mg base N qual (defScope st) a cdv A outer s H E).nox
theorem fn_mk {P : Program} {w : World} {mg : Str → Option Value} {base : Heap} {x qual : Str} {st : Stmt} {a : Addr} {fd : FuncData} {N ps : List Str} {k n : Nat} {rw' : Row K τ} {c : Cod K ρ} {f : τ → Option ρ} {sas : τ → List (SA K)} [hl : RLen rw' n] [hs : RSA rw' sas]
    (Fu : Fun K x qual st a fd) (S : FnScope N ps (defScope st)) (hb : Binds K fd ps []) (hm : mg x = some (.ref a))
    (body : ∀ (cdv : Value) (A : Around) (outer : List Env) (s : Shared) (H : Hp) (E : XK), Room k (CxF P w K mg base N qual st a cdv A outer s H E).A → ∀ t : τ, Rb (CxF P w K mg base N qual st a cdv A outer s H E) (sas t ++ List.replicate (N.length - n) .any) (defBody st) c (f t)) (hn : n = ps.length := by rfl) : Fn P w K mg base (k + 1) x rw' c f := by
  refine ⟨a, fd, ps, Fu.ok S (fun vs H Q E h => ?_) (fun cdv A outer s H vs Q E hr h => ?_), hm, Fu.kp, hb⟩
  · obtain ⟨t, u, F, _, _, rp, _⟩ := h
    rw [hl.len rp, hn]
  · obtain ⟨t, u, F, hu, hF, rp, q⟩ := h
    exact ⟨_, pss_self, body cdv A outer s H E hr t u hu F H F H (L2.start N vs) (start_env (K := K) (r := rw') (sas := sas) (n := n) (N := N) rp hF) _ q⟩
theorem Fn.mono {P : Program} {w : World} {mg : Str → Option Value} {base : Heap} {j k : Nat} {x : Str} {rw' : Row K τ} {c : Cod K ρ} {f : τ → Option ρ} (h : Fn P w K mg base j x rw' c f) (hk : j ≤ k) : Fn P w K mg base k x rw' c f := by
  obtain ⟨a, fd, ps, h1, h2, h3, h4⟩ := h.ex
  exact ⟨a, fd, ps, h1.mono hk, h2, h3, h4⟩
/-- another function, where the first tells -/
theorem Fn.imp {P : Program} {w : World} {mg : Str → Option Value} {base : Heap} {k : Nat} {x : Str} {rw' : Row K τ} {c : Cod K ρ} {f g : τ → Option ρ} (h : Fn P w K mg base k x rw' c f) (hi : ∀ a u, g a = some u → f a = some u) : Fn P w K mg base k x rw' c g := by
  obtain ⟨a, fd, ps, h1, h2, h3, h4⟩ := h.ex
  exact ⟨a, fd, ps, h1.imp fun vs H Q E ⟨a, u, F, z, r⟩ => ⟨a, u, F, hi a u z, r⟩, h2, h3, h4⟩
/-- the law itself -/
theorem law_sp {f : List Int → Option Bool} (h : ∀ ns : List Int, ns.length ≤ 63 → f ns = some true) {H : Hp} {a : Addr} {ns : List Int} (hn : ns.length ≤ 63) (hS : SqL K H a (ns.map V.int)) : spOf (rOne (cLst (cInt (K := K)))) cBool f [.ref a] H (fun v _ => v = .bl true) (fun _ _ _ => False) := by
  refine ⟨ns, true, H, h ns hn, Same.refl _, ⟨.ref a, rfl, a, ns.map V.int, rfl, hS, ?_, ?_⟩, fun v F' H' _ r => r⟩
  · have : ∀ l : List Int, Reps (cInt (K := K)) H (l.map V.int) l := by
      intro l
      induction l with
      | nil => exact .nil
      | cons x l ih => exact .cons rfl ih
    exact this ns
  · exact Nat.le_of_lt (small1000 (by omega))
end
end M
namespace M
open PySem PySem.Spec L2
section
variable {X : Cx} {G : Ga X.K} {α ρ ε : Type}
theorem Rb.eq {sts : List Stmt} {c : Cod X.K ρ} {r r' : Option ρ} (h : Rb X G sts c r) (e : r = r' := by rfl) : Rb X G sts c r' := by rw [← e]; exact h
theorem Nb.eq {sts : List Stmt} {G' : ε → Ga X.K} {r r' : Option ε} (h : Nb X G sts r G') (e : r = r' := by rfl) : Nb X G sts r' G' := by rw [← e]; exact h
theorem Ns.eq {st : Stmt} {G' : ε → Ga X.K} {r r' : Option ε} (h : Ns X G st r G') (e : r = r' := by rfl) : Ns X G st r' G' := by rw [← e]; exact h
theorem Fb.eq {sts : List Stmt} {G' : ε → Ga X.K} {c : Cod X.K ρ} {r r' : Option (Fl ε ρ)} (h : Fb X G sts r G' c) (e : r = r' := by rfl) : Fb X G sts r' G' c := by rw [← e]; exact h
theorem Ex.eq {e : Expr} {c : Cod X.K α} {r r' : Option α} (h : Ex X G e c r) (q : r = r' := by rfl) : Ex X G e c r' := by rw [← q]; exact h
theorem ExL.eq {e : Expr} {c : Cod X.K α} {r r' : Option (List α)} (h : ExL X G e c r) (q : r = r' := by rfl) : ExL X G e c r' := by rw [← q]; exact h
theorem Te.eq {e : Expr} {r r' : Option Bool} (h : Te X G e r) (q : r = r' := by rfl) : Te X G e r' := by rw [← q]; exact h
end
end M
namespace M
open PySem PySem.Spec L2
section
variable {X : Cx} {G : Ga X.K} {α β ρ ε : Type} {pos : Pos}
/-! comprehensions and loops over one name -/
theorem exl_c1 (i : Nat) {elt iter : Expr} {ifs : List Expr} {scope : Scope} {x : Str} {tpos : Pos} {c : Cod X.K α} {d : Cod X.K β} {r : Option (List α)} {p : α → Option Bool} {g : α → Option β} (hc : X.calm = true) (hN : X.N.Nodup) (hi : ExJ X G (.Name x tpos) iter c r) (ok : BlkOk X.N X.env.scope scope [(x, i)])
    (hp : ∀ s H C cl fp v, Ts (Blk X scope s H C cl fp) ((wipeG G [i]).set i (.val c v)) ifs (p v)) (he : ∀ s H C cl fp v, Ex (Blk X scope s H C cl fp) ((wipeG G [i]).set i (.val c v)) elt d (g v))
    (hx : scope.names.lookup x = some .local ∨ scope.names.lookup x = some .cell := by first | exact Or.inl rfl | exact Or.inr rfl)
    (hs : ∀ x, foldedSetIterable iter X.env x = pure x := by intro _; rfl) :
    ExC X G (.ListComp elt [⟨.Name x tpos, iter, ifs, 0⟩] scope pos) d (r.bind fun xs => lcM (lcF p g) xs) := by
  have hx2 : ∀ s H C cl fp, Loc (Blk X scope s H C cl fp).env.scope x ∧ ((Blk X scope s H C cl fp).fn x = true ∨ (Blk X scope s H C cl fp).env.scope.names.lookup x = some .local) := fun s H C cl fp => by
    rcases hx with k | k
    · have := lookup_relS_keep (sc := X.env.scope) (by decide) k
      exact ⟨.inl this, .inr this⟩
    · have := lookup_relS_keep (sc := X.env.scope) (by decide) k
      exact ⟨.inr this, .inl (by show (scope.names.lookup x == some NameKind.cell) = true; rw [k]; rfl)⟩
  exact exl_lc (own := [(x, i)]) (set := fun v G => G.set i (.val c v)) hc hN hi ok (fun s H C cl fp => tg_name (X := Blk X scope s H C cl fp) i hN (ok.ix (x, i) (by simp)) (hx2 s H C cl fp).1 (hx2 s H C cl fp).2) hp he hs
theorem exl_c1P (i : Nat) {elt iter : Expr} {scope : Scope} {x : Str} {tpos : Pos} {c : Cod X.K α} {d : Cod X.K β} {r : Option (List α)} {h : α → β} (hc : X.calm = true) (hN : X.N.Nodup) (hi : ExJ X G (.Name x tpos) iter c r) (ok : BlkOk X.N X.env.scope scope [(x, i)])
    (he : ∀ s H C cl fp v, Ex (Blk X scope s H C cl fp) ((wipeG G [i]).set i (.val c v)) elt d (some (h v)))
    (hx : scope.names.lookup x = some .local ∨ scope.names.lookup x = some .cell := by first | exact Or.inl rfl | exact Or.inr rfl)
    (hs : ∀ x, foldedSetIterable iter X.env x = pure x := by intro _; rfl) :
    ExC X G (.ListComp elt [⟨.Name x tpos, iter, [], 0⟩] scope pos) d (r.bind fun xs => some (xs.map h)) := by
  have z := exl_c1 (pos := pos) i hc hN hi ok (fun s H C cl fp x => ts_no) he hx hs
  rw [show (fun xs => lcM (lcF (fun _ => some true) fun x => some (h x)) xs) = fun xs => some (xs.map h) from funext lcM_map] at z
  exact z
theorem exl_c1F (i : Nat) {elt iter t : Expr} {scope : Scope} {x : Str} {tpos : Pos} {c : Cod X.K α} {d : Cod X.K β} {r : Option (List α)} {k : α → Bool} {h : α → β} (hc : X.calm = true) (hN : X.N.Nodup) (hi : ExJ X G (.Name x tpos) iter c r) (ok : BlkOk X.N X.env.scope scope [(x, i)])
    (hp : ∀ s H C cl fp v, Te (Blk X scope s H C cl fp) ((wipeG G [i]).set i (.val c v)) t (some (k v))) (he : ∀ s H C cl fp v, Ex (Blk X scope s H C cl fp) ((wipeG G [i]).set i (.val c v)) elt d (some (h v)))
    (hx : scope.names.lookup x = some .local ∨ scope.names.lookup x = some .cell := by first | exact Or.inl rfl | exact Or.inr rfl)
    (hs : ∀ x, foldedSetIterable iter X.env x = pure x := by intro _; rfl) :
    ExC X G (.ListComp elt [⟨.Name x tpos, iter, [t], 0⟩] scope pos) d (r.bind fun xs => some ((xs.filter k).map h)) := by
  have z := exl_c1 (pos := pos) i hc hN hi ok (fun s H C cl fp x => ts_if (hp s H C cl fp x)) he hx hs
  rw [show (fun xs => lcM (lcF (fun x => some (k x)) fun x => some (h x)) xs) = fun xs => some ((xs.filter k).map h) from funext lcM_filter] at z
  exact z
end
end M

namespace M
open PySem PySem.Spec L2
open PySem.AutoSeq1 (wpAny_loadPart')
/-! ## tuple * int, any int -/
theorem tuple_mul1 (l : Addr) (items : Array Value) (n : Nat) (dd : Option Addr) (sl : Array (Option Value)) (x : Int) (u : Tok) (c0 : (decide (x < -(2 ^ 63)) || decide (x ≥ 2 ^ 63)) = false) (c1 : (items.isEmpty || x == 1) = true) :
    Meets (Builtin.«tuple.__mul__» ⟨[.ref l, .int x u], []⟩) (fun _ R s => s.heap.get? l = some { cls := .type "tuple", dict := dd, data := .seq items n, slots := sl } ∧
      R (.ok (.ret (Value.ref l))) s) :=
  .of_wp fun prog w A R s h => by
    obtain ⟨hp, g, d, tk, os⟩ := s
    obtain ⟨hl, h⟩ := h
    have f1 := AutoSeq1.idx_int
    wp_walk using wpAny_loadPart' hl
    repeat (first
      | (refine wpAny_ite_false (decide_eq_false (by rw [c0]; exact Bool.false_ne_true)) ?_; wp_walk using wpAny_loadPart' hl)
      | (refine wpAny_ite_true (decide_eq_true c1) ?_; wp_walk using wpAny_loadPart' hl))
    exact ⟨_, rfl, h⟩
theorem tuple_mul0 (l : Addr) (items : Array Value) (n : Nat) (dd : Option Addr) (sl : Array (Option Value)) (x : Int) (u : Tok) (c0 : (decide (x < -(2 ^ 63)) || decide (x ≥ 2 ^ 63)) = false) (c1 : (items.isEmpty || x == 1) = false) (c2 : (decide (x ≤ 0) || items.isEmpty) = true) :
    Meets (Builtin.«tuple.__mul__» ⟨[.ref l, .int x u], []⟩) (fun _ R s => s.heap.get? l = some { cls := .type "tuple", dict := dd, data := .seq items n, slots := sl } ∧
      R (.ok (.ret (Value.ref s.heap.objs.size))) { s with heap := s.heap.push { cls := Value.type "tuple", data := Data.seq #[] }, toks := s.toks }) :=
  .of_wp fun prog w A R s h => by
    obtain ⟨hp, g, d, tk, os⟩ := s
    obtain ⟨hl, h⟩ := h
    have f1 := AutoSeq1.idx_int
    wp_walk using wpAny_loadPart' hl
    repeat (first
      | (refine wpAny_ite_false (decide_eq_false (by rw [c0]; exact Bool.false_ne_true)) ?_; wp_walk using wpAny_loadPart' hl)
      | (refine wpAny_ite_false (decide_eq_false (by rw [c1]; exact Bool.false_ne_true)) ?_; wp_walk using wpAny_loadPart' hl)
      | (refine wpAny_ite_true (decide_eq_true c2) ?_; wp_walk using wpAny_loadPart' hl))
    exact ⟨_, rfl, h⟩
section
variable {X : Cx} {G : Ga X.K} {α β γ τ ρ ε : Type}
/-- xs * k -/
def rep {α : Type} (xs : List α) (k : Int) : List α := (List.replicate k.toNat xs).flatten
theorem op_repA : OpR X (binaryOp .Mult) (fun x y H Q => ∃ l k xs, x = .ref l ∧ y = .int k ∧ SqT X.K H l xs ∧ -1000 ≤ k ∧ k ≤ 1000 ∧ xs.length ≤ 1000 ∧
    ((xs = [] ∨ k = 1) → Q (.ref l) H) ∧ (¬ (xs = [] ∨ k = 1) → ∀ p, H p = none → Q (.ref p) (upd H p (.tup (List.replicate k.toNat xs).flatten)))) := by
  intro pins s σ H x y v u Q I rx ry h
  obtain ⟨l, k, xs, rfl, rfl, hT, h1, h2, hz, q1, q2⟩ := h
  cases rx
  obtain ⟨t, rfl⟩ := ry
  obtain ⟨its, r, ⟨⟨cls, dd, data, sl⟩, ho, hc, n, hd⟩, hs⟩ := I.tuple hT
  simp only at hc hd
  subst hc hd
  have hle : its.length = xs.length := r.length.symm
  have hi : its.toArray.isEmpty = decide (xs = []) := by
    cases r with
    | nil => rfl
    | cons a b => rfl
  have c0 : (decide (k < -(2 ^ 63)) || decide (k ≥ 2 ^ 63)) = false := by
    rw [decide_eq_false (by omega), decide_eq_false (by omega)] <;> rfl
  have go : ∀ {Sp : Spec}, Meets (Builtin.«tuple.__mul__» ⟨[.ref l, .int k t], []⟩) Sp → Sp X.A (wants (EP X pins σ Q) X.xe) s → wpAny (model X.prog X.w) X.A (binaryOp .Mult (.ref l) (.int k t)) (EP X pins σ Q) X.xe s := fun m hsp =>
    PySem.wpAny_binaryOp_repeat_ref (T := "tuple") (U := "int") (by decide) ⟨_, ho, rfl⟩ (fun s' => typeIs_int s' k t) noFill_tuple_mul F.fills_int_mul F.slot_int_rmul repeat_tuple F.slot_int_index.lookup
      (call_meets F.slot_int_rmul (typeIs_int s k t) F.entry_int_rmul (F.args_int_rmul_2 _ _) (int_rmul_tuple k t l its.toArray n dd sl)
        ⟨ho, rfl, ⟨_, ho, rfl⟩, call_meets F.slot_tuple_mul ⟨_, ho, rfl⟩ F.entry_tuple_mul (F.args_tuple_mul_2 _ _) m hsp⟩)
  by_cases hx : xs = [] ∨ k = 1
  · refine go (tuple_mul1 l its.toArray n dd sl k t c0 ?_) ⟨ho, .ref l, H, I, rfl, q1 hx⟩
    rw [hi]
    rcases hx with e | e
    · rw [e]; rfl
    · rw [e, Bool.or_eq_true]; exact .inr rfl
  · have hne : xs ≠ [] := fun e => hx (.inl e)
    have hk1 : k ≠ 1 := fun e => hx (.inr e)
    have c1 : (its.toArray.isEmpty || k == 1) = false := by
      rw [hi, decide_eq_false hne, Bool.false_or]
      exact beq_eq_false_iff_ne.mpr hk1
    by_cases hk : k ≤ 0
    · refine go (tuple_mul0 l its.toArray n dd sl k t c0 c1 ?_) ⟨ho, ?_⟩
      · rw [decide_eq_true hk, Bool.true_or]
      · have e0 : (List.replicate k.toNat xs).flatten = [] := by
          rw [show k.toNat = 0 by omega]; rfl
        have q3 := q2 hx s.heap.objs.size (I.hok.fresh (Nat.le_refl _))
        rw [e0] at q3
        exact ⟨.ref s.heap.objs.size, _, I.laid (t' := s.toks) (o := .tup []) (fun b ob q => Heap.get?_push_of_some _ q) (Nat.le_refl _) ⟨Nat.zero_le _, [], .nil, PyProof.Rows.IsTup.new _ _⟩, rfl, q3⟩
    · exact op_repT pins s σ H (.ref l) (.int k) _ _ Q I rfl ⟨t, rfl⟩ ⟨l, k, xs, rfl, rfl, hT, hne, by omega, h2, hz, q2 hx⟩
noncomputable def repG {α : Type} (xs : List α) (k : Int) : Option (List α) := gd (-1000 ≤ k ∧ k ≤ 1000 ∧ xs.length ≤ 1000) (rep xs k)
theorem reps_rep {K : PySem.W.Frag} {F : Hp} {c : Cod K α} {vs : List V} {xs : List α} (r : Reps c F vs xs) : ∀ n : Nat, Reps c F (List.replicate n vs).flatten (List.replicate n xs).flatten
  | 0 => .nil
  | n + 1 => by
    rw [List.replicate_succ, List.replicate_succ, List.flatten_cons, List.flatten_cons]
    exact r.append (reps_rep r n)
theorem len_rep (xs : List α) (n : Nat) : (List.replicate n xs).flatten.length = n * xs.length := by
  induction n with
  | zero => simp
  | succ n ih => rw [List.replicate_succ, List.flatten_cons, List.length_append, ih, Nat.succ_mul, Nat.add_comm]
theorem o_repT {c : Cod X.K α} : Op2 X (binaryOp .Mult) (cTup c) cInt (cTup c) repG :=
  ⟨_, op_repA, fun i j u x y F H Q e rx ry s q => by
    obtain ⟨h, e⟩ := gd_some e
    subst e
    obtain ⟨p, vs, rfl, hq, r⟩ := rx
    have hl := r.length
    have hz : (rep i j).length ≤ sizeLine := by
      unfold rep
      rw [len_rep, sizeLine_eq]
      have : j.toNat * i.length ≤ 1000 * 1000 := Nat.mul_le_mul (by omega) h.2.2
      omega
    refine ⟨p, j, vs, rfl, ry, same_seqT s hq, h.1, h.2.1, by rw [hl]; exact h.2.2, fun hw => ?_, fun _ l hl' => ?_⟩
    · have e : rep i j = i := by
        rcases hw with hw | hw
        · have : i = [] := List.eq_nil_of_length_eq_zero (by rw [← hl, hw]; rfl)
          rw [this]; unfold rep; simp
        · subst hw; unfold rep; simp
      exact q _ F H (.refl s) ⟨p, vs, rfl, hq, by rw [e]; exact r⟩
    · exact q _ _ _ (.fz s hl') ⟨l, _, rfl, .of upd_same, ⟨(reps_rep r.r j.toNat).mono (same_upd (s.free hl')), hz⟩⟩⟩
/-- t + u -/
theorem o_catT {c : Cod X.K α} : Op2 X (binaryOp .Add) (cTup c) (cTup c) (cTup c) catG :=
  ⟨_, op_catA, fun i j u x y F H Q e rx ry s q => by
    obtain ⟨h, e⟩ := gd_some e
    subst e
    obtain ⟨p, vs, rfl, hq, r⟩ := rx
    obtain ⟨p', ws, rfl, hq', r'⟩ := ry
    have l1 := r.length
    have l2 := r'.length
    refine ⟨p, p', vs, ws, rfl, rfl, same_seqT s hq, same_seqT s hq', by rw [l1, l2]; exact h, fun hw => ?_, fun _ hw => ?_, fun _ _ l hl' => ?_⟩
    · have : i = [] := List.eq_nil_of_length_eq_zero (by rw [← l1, hw]; rfl)
      subst this
      exact q _ F H (.refl s) ⟨p', ws, rfl, hq', r'⟩
    · have : j = [] := List.eq_nil_of_length_eq_zero (by rw [← l2, hw]; rfl)
      subst this
      rw [List.append_nil] at q
      exact q _ F H (.refl s) ⟨p, vs, rfl, hq, r⟩
    · exact q _ _ _ (.fz s hl') ⟨l, _, rfl, .of upd_same, ⟨(r.r.append r'.r).mono (same_upd (s.free hl')), by rw [List.length_append]; exact h⟩⟩⟩
end
/-! ## t[::-1] -/
namespace Rv
open HT
variable {prog : Program} {w : World} {A : Around} {E : Value → Shared → Prop} {s : Shared}
theorem sliceApplied_rev {sl : Addr} {t : Tok} {n : Nat} {Q : Int × Int × Nat → Shared → Prop} (hs : s.heap.IsSliceOf sl .none .none (.int (-1) t))
    (h : Q ((n : Int) - 1, -1, n) s) : wpAny (model prog w) A (Builtin.Slice.sliceApplied (.ref sl) (pure (n : Int))) Q E s := by
  obtain ⟨os, hos, hcs, hds⟩ := id hs
  unfold Builtin.Slice.sliceApplied Builtin.Slice.sliceFields
  refine wpAny_bind (wpAny_bind (wpAny_field hos hds (x := .none) rfl (wpAny_bind (wpAny_field hos hds (x := .none) rfl (wpAny_bind (wpAny_field hos hds (x := .int (-1) t) rfl (wpAny_pure ?_)))))))
  refine wpAny_bind (PyProof.Rows.slicePart_int ?_)
  show wpAny _ _ (if ((-1 : Int) == 0) = true then _ else _) _ _ s
  rw [if_neg (by decide)]
  refine wpAny_bind (PyProof.Rows.slicePart_none (wpAny_bind (PyProof.Rows.slicePart_none (wpAny_bind (wpAny_pure ?_)))))
  show wpAny _ _ (pure ((n : Int) - 1, (-1 : Int), Builtin.Slice.slicePlaces ((n : Int) - 1) (-1) (-1))) _ _ s
  have e : Builtin.Slice.slicePlaces ((n : Int) - 1) (-1) (-1) = n := by
    unfold Builtin.Slice.slicePlaces
    rw [if_neg (by decide)]
    split
    · rw [show (-(-1) : Int) = 1 from rfl, Int.ediv_one]; omega
    · omega
  rw [e]
  exact wpAny_pure h
theorem fm_congr {α β : Type} {f g : α → Option β} : ∀ {l : List α}, (∀ x ∈ l, f x = g x) → l.filterMap f = l.filterMap g
  | [], _ => rfl
  | x :: l, h => by
    rw [List.filterMap_cons, List.filterMap_cons, h x List.mem_cons_self, fm_congr fun y hy => h y (List.mem_cons_of_mem _ hy)]
theorem pick_rev (xs : Array Value) : ((List.range xs.size).filterMap fun (m : Nat) => xs[(((xs.size : Nat) : Int) - 1 + (m : Int) * (-1)).toNat]?) = xs.toList.reverse := by
  have e : ((List.range xs.size).filterMap fun (m : Nat) => xs[(((xs.size : Nat) : Int) - 1 + (m : Int) * (-1)).toNat]?) = ((List.range xs.size).map fun m => xs.size - 1 - m).filterMap (xs[·]?) := by
    rw [List.filterMap_map]
    apply fm_congr
    intro m hm
    have := List.mem_range.mp hm
    show xs[_]? = xs[xs.size - 1 - m]?
    congr 1
    omega
  rw [e, PySem.W.krv_range, List.filterMap_reverse, PySem.W.krv_all]
theorem getItem_tuple_rev {t sl : Addr} {items : Array Value} {tk : Tok} {Q : Value → Shared → Prop} (ht : PyProof.Rows.IsTup s.heap t items) (hs : s.heap.IsSliceOf sl .none .none (.int (-1) tk))
    (h : Q (.ref s.heap.objs.size) { s with heap := s.heap.push { cls := .type "tuple", data := .seq items.toList.reverse.toArray } })
    (hsz : items.size ≤ sizeLine) : wpAny (model prog w) A (getItem (.ref t) (.ref sl)) Q E s := by
  have htake : sizeOk (.seq items.toList.reverse.toArray) := by
    show items.toList.reverse.toArray.size ≤ sizeLine
    rw [List.size_toArray, List.length_reverse, Array.length_toList]
    exact hsz
  obtain ⟨os, hos, hcs, hds⟩ := id hs
  have hTs : s.TypeIs (.ref sl) "slice" := ⟨os, hos, hcs⟩
  unfold getItem
  try with_reducible refine wpAny_holding ?_
  first | refine wpAny_bind (wpAny_pure ?_) | skip
  refine wpAny_bind (wpAny_sequenceKey ht.typeIs (by decide) ?_)
  refine wpAny_bind (wpAny_callSpecial?_slot (name := Str.ofString "__getitem__") ht.typeIs PyProof.Rows.slot_tuple_getitem
    (wpAny_call_entry PyProof.Rows.slot_tuple_getitem ht.typeIs PyProof.Rows.entry_tuple_getitem ?_ (PyProof.Rows.args_tuple_getitem _ _)))
  show wpAny _ _ (Builtin.Tuple.tupleItemsOf (.ref t) >>= _) _ _ s
  refine wpAny_bind (PyProof.Rows.tupleItemsOf_ ht ?_)
  refine wpAny_bind (wpAny_typeOf hTs ?_)
  rw [if_pos (by decide)]
  refine wpAny_bind (sliceApplied_rev hs ?_)
  have hno : ¬ (((((items.size : Nat) : Int) - 1) == 0 && (-1 : Int) == 1 && items.size == items.size) = true) := by
    intro q
    rw [Bool.and_eq_true, Bool.and_eq_true] at q
    exact absurd q.1.2 (by decide)
  show wpAny _ _ (if ((((items.size : Nat) : Int) - 1) == 0 && (-1 : Int) == 1 && items.size == items.size) = true then _ else _) _ _ s
  rw [if_neg hno, pick_rev]
  first
    | exact wpAny_bind (m := Builtin.Tuple.tupleExact _) (wpAny_newObj_type (wpAny_pure ⟨_, rfl, wpAny_pure h⟩) htake)
    | exact wpAny_bind (m := Builtin.Tuple.tupleExact _) (wpAny_newObj_type (wpAny_bind (wpAny_pure (wpAny_pure ⟨_, rfl, wpAny_pure h⟩))) htake)
    | exact wpAny_bind (wpAny_bind (m := Builtin.Tuple.tupleExact _) (wpAny_newObj_type (wpAny_pure (wpAny_pure ⟨_, rfl, wpAny_pure h⟩)) htake))
    | exact wpAny_bind (wpAny_bind (m := Builtin.Tuple.tupleExact _) (wpAny_newObj_type (wpAny_pure ⟨_, rfl, wpAny_pure h⟩) htake))
end Rv
section
variable {X : Cx} {G : Ga X.K} {α β γ τ ρ ε : Type}
theorem pe_revT {e : Expr} {te : TE} {k : Nat} {p1 p2 p3 pos : Pos} (he : PE X e te) : PE X (.Subscript e (.Slice none none (some (.UnaryOp .USub (.Constant (.int 1) k p1) p2)) p3) pos) (fun σ H Q => te σ H fun x H1 => ∃ a xs, x = .ref a ∧ SqT X.K H1 a xs ∧ ∀ p, H1 p = none → Q (.ref p) (upd H1 p (.tup xs.reverse))) := by
  refine ⟨fun pins s σ H Q I h => ?_⟩
  refine PyProof.Rows.Subscript_ (thn (he.run pins s σ H _ I h) fun v s1 ⟨x, H1, I1, r1, q1⟩ => ?_)
  obtain ⟨a, xs, ex, hx, q⟩ := q1
  subst ex
  cases r1
  have hst : PO X (some (.UnaryOp .USub (.Constant (.int 1) k p1) p2)) (tPart (tUn (rU fun i => .int (-i)) (tC (.int 1)))) := po_some (pe_un un_neg pe_int)
  refine wpAny_Slice (thn (po_none.run pins s1 σ H1 (fun o H2 => o = none ∧ H2 = H1) I1 ⟨rfl, rfl⟩) fun vl s2 ⟨l, H2, I2, pl, el, e2⟩ => ?_)
  subst el e2
  refine thn (po_none.run pins s2 σ H2 (fun o H3 => o = none ∧ H3 = H2) I2 ⟨rfl, rfl⟩) fun vu s3 ⟨u, H3, I3, pu, eu, e3⟩ => ?_
  subst eu e3
  refine thn (hst.run pins s3 σ H3 (fun o H4 => o = some (-1) ∧ H4 = H3) I3 ⟨1, rfl, -1, rfl, rfl, rfl⟩) fun vs s4 ⟨o, H4, I4, ps, eo, e4⟩ => ?_
  subst eo e4
  have I5 : Inv X pins σ H4 { s4 with heap := s4.heap.push { cls := .type "slice", data := .fields #[vl, vu, vs] } } := I4.kept (t' := s4.toks) fun b ob q => Heap.get?_push_of_some _ q
  obtain ⟨its, r, ht, hz⟩ := I5.tuple hx
  have hlen := r.length
  show wpAny (model X.prog X.w) X.A (PyProof.Rows.subscriptTail e (.Slice none none (some (.UnaryOp .USub (.Constant (.int 1) k p1) p2)) p3) (.ref a) (.ref s4.heap.objs.size)) (EP X pins σ Q) X.xe { s4 with heap := s4.heap.push { cls := .type "slice", data := .fields #[vl, vu, vs] } }
  refine PyProof.Rows.tail_any (ops := [.ref a, .ref s4.heap.objs.size]) ht.typeIs PyProof.Rows.slot_tuple_getitem.lookup ?_ (by with_unfolding_all rfl)
  cases pl
  cases pu
  cases ps
  refine Rv.getItem_tuple_rev ht (Heap.IsSliceOf.new _ _ _ _) ?_ (by rw [List.size_toArray]; omega)
  refine ⟨.ref _, _, I5.laid (t' := s4.toks) (o := .tup xs.reverse) (fun b ob q => Heap.get?_push_of_some _ q) (Nat.le_refl _) ?_, rfl, q _ (I5.hok.fresh (Nat.le_refl _))⟩
  exact ⟨by rw [List.length_reverse]; exact hz, _, r.reverse, PyProof.Rows.IsTup.new _ _⟩
theorem ex_revT {e : Expr} {k : Nat} {p1 p2 p3 pos : Pos} {c : Cod X.K α} {r : Option (List α)} (h : Ex X G e (cTup c) r) : Ex X G (.Subscript e (.Slice none none (some (.UnaryOp .USub (.Constant (.int 1) k p1) p2)) p3) pos) (cTup c) (r.bind fun x => Option.some x.reverse) := fun u hu F H σ E Q q => by
  cases r with
  | none => cases hu
  | some xs =>
    cases hu
    refine (pe_revT pe_self).to (h xs rfl F H σ E _ fun v F' H' g ⟨p, vs, e, hq, rp⟩ => ?_)
    subst e
    exact ⟨p, vs, rfl, same_seqT g.fh hq, fun l hl => q _ _ _ (g.trans (.fz g.fh hl)) ⟨l, _, rfl, .of upd_same, ⟨(rp.r.reverse).mono (same_upd (g.fh.free hl)), by rw [List.length_reverse]; exact rp.z⟩⟩⟩
theorem exl_revL {e : Expr} {k : Nat} {p1 p2 p3 pos : Pos} {c : Cod X.K α} {r : Option (List α)} (h : ExB X G e c r) : ExL X G (.Subscript e (.Slice none none (some (.UnaryOp .USub (.Constant (.int 1) k p1) p2)) p3) pos) c (r.bind fun x => Option.some x.reverse) := fun u hu F H σ E Q q => by
  cases r with
  | none => cases hu
  | some xs =>
    cases hu
    refine (pe_revL pe_self).to (h xs rfl F H σ E _ fun p vs F' H' g hq rp => ?_)
    exact ⟨p, vs, rfl, hq, fun l hl => q l _ F' _ (g.trans (.mt g.fh hl)) (g.hh.free hl) (g.fh.free hl) upd_same ⟨rp.r.reverse, by rw [List.length_reverse]; exact rp.z⟩⟩
end
end M

namespace M
open PySem PySem.Spec L2
section
variable {X : Cx} {G : Ga X.K} {α β γ τ ρ ε : Type}
/-! ## texts by their methods -/
theorem m_endswith : Mt1 X "str.endswith" cStr cStr cBool (fun a b => some (b.isSuffixOf a)) :=
  ⟨_, mt_endswith, fun i j u x y F H Q e rx ry s q => by
    cases e
    refine ⟨tx i, tx j, rx.1, by rw [ry.1], ?_⟩
    have e : Txt.endswith (tx i) (tx j) = j.isSuffixOf i := by
      unfold Txt.endswith
      rw [PySem.StrLaws.subAt_eq, tx_toList, tx_toList, tx_len, tx_len, Nat.zero_add, Bool.eq_iff_iff]
      rw [List.isSuffixOf_iff_suffix]
      simp only [ge_iff_le, Bool.and_eq_true, decide_eq_true_eq, beq_iff_eq]
      constructor
      · rintro ⟨h1, h2⟩
        rw [List.take_of_length_le (by rw [List.length_drop]; omega)] at h2
        refine ⟨i.take (i.length - j.length), ?_⟩
        have z := List.take_append_drop (i.length - j.length) i
        rw [h2] at z
        exact z
      · rintro ⟨t, rfl⟩
        rw [List.length_append]
        refine ⟨by omega, ?_⟩
        rw [show t.length + j.length - j.length = t.length by omega, List.drop_left, List.take_length]
    rw [e]
    exact gt_fin s q rfl⟩
theorem m_startswith : Mt1 X "str.startswith" cStr cStr cBool (fun a b => some (b.isPrefixOf a)) :=
  ⟨_, mt_startswith, fun i j u x y F H Q e rx ry s q => by
    cases e
    refine ⟨tx i, tx j, rx.1, by rw [ry.1], ?_⟩
    have e : Txt.startswith (tx i) (tx j) = j.isPrefixOf i := by
      unfold Txt.startswith
      rw [PySem.StrLaws.subAt_eq, tx_toList, tx_toList, tx_len, tx_len, Nat.zero_add, Bool.eq_iff_iff]
      rw [List.isPrefixOf_iff_prefix]
      simp only [ge_iff_le, Bool.and_eq_true, decide_eq_true_eq, beq_iff_eq, List.drop_zero]
      constructor
      · rintro ⟨h1, h2⟩
        rw [← h2]; exact List.take_prefix _ _
      · rintro ⟨t, rfl⟩
        rw [List.length_append]
        exact ⟨by omega, List.take_left⟩
    rw [e]
    exact gt_fin s q rfl⟩
/-- sep.join(xs) -/
def joinT (sep : List Nat) : List (List Nat) → List Nat
  | [] => []
  | [p] => p
  | p :: q :: r => p ++ (sep ++ joinT sep (q :: r))
theorem joinT_eq (sep : List Nat) : ∀ xs, joinT sep xs = TL.joinL sep xs
  | [] => rfl
  | [_] => rfl
  | p :: q :: r => by show p ++ (sep ++ joinT sep (q :: r)) = p ++ (sep ++ TL.joinL sep (q :: r)); rw [joinT_eq sep (q :: r)]
theorem joinT_mem (sep : List Nat) : ∀ (xs : List (List Nat)) (c : Nat), c ∈ joinT sep xs → c ∈ sep ∨ ∃ x ∈ xs, c ∈ x
  | [], _, h => by cases h
  | [p], c, h => .inr ⟨p, by simp, h⟩
  | p :: q :: r, c, h => by
    have h : c ∈ p ++ (sep ++ joinT sep (q :: r)) := h
    rcases List.mem_append.mp h with h | h
    · exact .inr ⟨p, by simp, h⟩
    · rcases List.mem_append.mp h with h | h
      · exact .inl h
      · rcases joinT_mem sep (q :: r) c h with h | ⟨x, hx, h⟩
        · exact .inl h
        · exact .inr ⟨x, List.mem_cons_of_mem _ hx, h⟩
theorem joinT_len (sep : List Nat) : ∀ xs : List (List Nat), (joinT sep xs).length ≤ (xs.map List.length).sum + xs.length * sep.length
  | [] => Nat.zero_le _
  | [p] => by simp [joinT]
  | p :: q :: r => by
    have ih := joinT_len sep (q :: r)
    show (p ++ (sep ++ joinT sep (q :: r))).length ≤ ((p :: q :: r).map List.length).sum + (q :: r).length.succ * sep.length
    rw [List.length_append, List.length_append, List.map_cons, List.sum_cons, Nat.succ_mul]
    omega
noncomputable def joinG (sep : List Nat) (xs : List (List Nat)) : Option (List Nat) := gd ((xs.map List.length).sum + xs.length * sep.length ≤ 16777216) (joinT sep xs)
theorem reps_str {F : Hp} : ∀ {vs : List V} {xs : List (List Nat)}, Reps (cStr (K := X.K)) F vs xs → vs = (xs.map tx).map V.str
  | _, _, .nil => rfl
  | _, _, .cons r t => by rw [r.1, reps_str t]; rfl
theorem reps_all {F : Hp} {c : Cod X.K α} {P : α → Prop} (h : ∀ v a, c.rep F v a → P a) : ∀ {vs : List V} {xs : List α}, Reps c F vs xs → ∀ x ∈ xs, P x
  | _, _, .nil, x, hx => by cases hx
  | _, _, .cons r t, x, hx => by
    rcases List.mem_cons.mp hx with e | hx
    · subst e; exact h _ _ r
    · exact reps_all h t x hx
theorem txt_join (a : List Nat) (xs : List (List Nat)) : Txt.join (tx a) (xs.map tx) = tx (joinT a xs) := by
  have e : Txt.join (tx a) (xs.map tx) = Str.join (tx a) (xs.map tx) := by
    exact PySem.StrLaws.glued_eq_join _ _
  rw [e]
  have h := TL.tl_join (tx a) (xs.map tx)
  rw [List.map_map] at h
  have h2 : (fun x => TL.tl (tx x)) = (id : List Nat → List Nat) := funext fun l => tx_toList l
  rw [show (TL.tl ∘ tx) = (id : List Nat → List Nat) from h2, List.map_id] at h
  rw [joinT_eq]
  have h3 : TL.tl (tx a) = a := tx_toList a
  rw [h3] at h
  rw [← h]
  unfold TL.tl tx
  simp
theorem ex_join {o e : Expr} {apos pos : Pos} {r1 : Option (List Nat)} {r2 : Option (List (List Nat))} (ho : Ex X G o cStr r1) (he : ExB X G e cStr r2)
    (hs : starEach [e] X.env = (false, eval e X.env) :: starEach [] X.env := by rfl) (hbase : attributeBase o "join" X.env (eval o X.env) = eval o X.env := by rfl)
    (hfew : ((backTo pos (starEach [e] X.env)).all (fun x => !x.1) && (backToKw pos (keywordEach [] X.env)).all (fun x => x.1.isSome)
      && decide ([e].length + ([] : List Keyword).length + (if ([] : List Keyword).isEmpty then 0 else 1) < 30)) = true := by rfl)
    (hline : (apos.endLine == pos.line) = true := by rfl) (hplain : (backTo pos (starEach [] X.env)).any (·.1) = false := by rfl) :
    Ex X G (.Call (.Attribute o "join" apos) [e] [] pos) cStr (r1.bind fun a => r2.bind fun xs => joinG a xs) := fun u hu F H σ E Q q => by
  obtain ⟨a, rfl, hu1⟩ := bind1 hu
  obtain ⟨xs, rfl, hu2⟩ := bind1 hu1
  obtain ⟨hz, hu3⟩ := gd_some hu2
  subst hu3
  refine (pe_bm PySem.F.plainAttrs_str PySem.F.slot_str_join PySem.F.type_str_join mt_join pe_self (pa_cons pe_self pa_nil hs) hbase hfew hline hs hplain).to (ho a rfl F H σ E _ fun x F1 H1 g1 rx => ⟨by rw [rx.1]; rfl, he xs rfl F1 H1 σ (E.grow g1) _ fun p vs F2 H2 g2 hq rp => ?_⟩)
  have ev := reps_str rp.r
  subst ev
  refine ⟨tx a, p, xs.map tx, rx.1, rfl, .inl hq, ?_, ?_⟩
  · rw [List.map_map, List.length_map, tx_len]
    have : (Str.length ∘ tx) = List.length := funext fun l => tx_len l
    rw [show ((fun x : Str => x.length) ∘ tx) = List.length from this]
    exact hz
  · rw [txt_join]
    refine q _ F2 H2 (g1.trans g2) ⟨rfl, Nat.le_trans (joinT_len a xs) (by rw [sizeLine_eq]; exact hz), fun c hc => ?_⟩
    rcases joinT_mem a xs c hc with h | ⟨x, hx, h⟩
    · exact rx.2.cps c h
    · exact (reps_all (c := cStr (K := X.K)) (P := StrOk) (fun v a r => r.2) rp.r x hx).cps c h
/-- a text of the module's top -/
theorem ex_gs {x : Str} {pos : Pos} {l : List Nat} (h : ∃ t, X.mg x = some (.str (tx l) t)) (ok : StrOk l) (hg : Gl X x := by rfl) (hd : (x == ("__debug__" : Str)) = false := by decide) : Ex X G (.Name x pos) cStr (some l) := fun u hu F H σ E Q q => by
  cases hu
  obtain ⟨t, ht⟩ := h
  exact (pe_glob (v := .str (tx l)) hg ht ⟨t, rfl⟩ hd).to (q _ F H (.refl E.fh) ⟨rfl, ok⟩)

/-! ## blocks' ends -/
inductive Wk {K : PySem.W.Frag} : Ga K → Ga K → Prop
  | nil : Wk [] []
  | any {a : SA K} {g g' : Ga K} : Wk g' g → Wk (.any :: g') (a :: g)
  | same {a : SA K} {g g' : Ga K} : Wk g' g → Wk (a :: g') (a :: g)
theorem Wk.len {K : PySem.W.Frag} {g g' : Ga K} (h : Wk g' g) : g'.length = g.length := by
  induction h with
  | nil => rfl
  | any _ ih => rw [List.length_cons, List.length_cons, ih]
  | same _ ih => rw [List.length_cons, List.length_cons, ih]
theorem Wk.at_ {K : PySem.W.Frag} {g g' : Ga K} (h : Wk g' g) : ∀ (i : Nat) (sa : SA K), g'[i]? = some sa → sa = .any ∨ g[i]? = some sa := by
  induction h with
  | nil => intro i sa h; simp at h
  | any _ ih =>
    intro i sa h
    cases i with
    | zero => simp at h; exact .inl h.symm
    | succ i => rw [List.getElem?_cons_succ] at h ⊢; exact ih i sa h
  | same _ ih =>
    intro i sa h
    cases i with
    | zero => exact .inr h
    | succ i => rw [List.getElem?_cons_succ] at h ⊢; exact ih i sa h
theorem nb_e (e0 : ε) {G' : ε → Ga X.K} (w : Wk (G' e0) G) : Nb X G [] (some e0) G' := nb_end w.len w.at_
theorem fb_e (e0 : ε) {G' : ε → Ga X.K} {c : Cod X.K ρ} (w : Wk (G' e0) G) : Fb X G [] (some (.nx e0)) G' c := fb_end w.len w.at_
theorem fb_b (e0 : ε) {pos : Pos} {rest : List Stmt} {G' : ε → Ga X.K} {c : Cod X.K ρ} (w : Wk (G' e0) G) : Fb X G (.Break pos :: rest) (some (.bk e0)) G' c := fb_brk w.len w.at_
theorem fb_c (e0 : ε) {pos : Pos} {rest : List Stmt} {G' : ε → Ga X.K} {c : Cod X.K ρ} (w : Wk (G' e0) G) : Fb X G (.Continue pos :: rest) (some (.ct e0)) G' c := fb_cnt w.len w.at_
/-- if t: A, where A breaks or continues -/
theorem fb_ifX {t : Expr} {A : List Stmt} {rest : List Stmt} {pos : Pos} {c : Cod X.K ρ} {G' : ε → Ga X.K} {rt : Option Bool} {r1 r2 : Option (Fl ε ρ)} (ht : Te X G t rt) (ha : Fb X G A r1 G' c) (hb : Fb X G rest r2 G' c) (hx : ∀ e, r1 ≠ some (.nx e)) : Fb X G (.If t A [] pos :: rest) (rt.bind fun k => if k = true then r1 else r2) G' c := fun u hu F0 H0 F H σ C D q => by
  obtain ⟨k, rfl, hk⟩ := bind1 hu
  refine (pss_cons (ps_if pt_self pss_self pss_nil) pss_self).to (ht k rfl F H σ C.env _ fun F1 H1 g => ?_)
  cases k with
  | true =>
    rw [if_pos rfl] at hk
    refine ha u hk F0 H0 F1 H1 σ (C.grow g) _ ⟨fun e he => ?_, (q.from g.ff).bk, (q.from g.ff).ct, q.rt⟩
    subst he
    exact absurd hk (hx e)
  | false => exact hb u hk F0 H0 F1 H1 σ (C.grow g) D (q.from g.ff)

/-! ## what the top leaves -/
structure Bt (mg : Str → Option Value) : Prop where
  len : mg "len" = none
  tuple : mg "tuple" = none
  range : mg "range" = none
  int : mg "int" = none
  bool : mg "bool" = none
  str : mg "str" = none
  abs : mg "abs" = none
  isinstance : mg "isinstance" = none
  enumerate : mg "enumerate" = none
  all : mg "all" = none
  any : mg "any" = none
  min : mg "min" = none
  max : mg "max" = none
  sum : mg "sum" = none
  sorted : mg "sorted" = none
  set : mg "set" = none
  list : mg "list" = none
  dict : mg "dict" = none
  zip : mg "zip" = none
/-- a def of the text -/
structure Df (K : PySem.W.Frag) (mg : Str → Option Value) (x : Str) (st : Stmt) (ps : List Str) : Prop where
  ex : ∃ (a : Addr) (fd : FuncData), Fun K x x st a fd ∧ Binds K fd ps [] ∧ mg x = some (.ref a)
theorem fn_df {P : Program} {w : World} {K : PySem.W.Frag} {mg : Str → Option Value} {base : Heap} {x : Str} {st : Stmt} {N ps : List Str} {n : Nat} (k : Nat) {rw' : Row K τ} {c : Cod K ρ} {f : τ → Option ρ} {sas : τ → List (SA K)} [hl : RLen rw' n] [hs : RSA rw' sas]
    (d : Df K mg x st ps) (S : FnScope N ps (defScope st))
    (body : ∀ (a : Addr) (cdv : Value) (A : Around) (outer : List Env) (s : Shared) (H : Hp) (E : XK), Room k (CxF P w K mg base N x st a cdv A outer s H E).A → ∀ t : τ, Rb (CxF P w K mg base N x st a cdv A outer s H E) (sas t ++ List.replicate (N.length - n) .any) (defBody st) c (f t)) (hn : n = ps.length := by rfl) : Fn P w K mg base (k + 1) x rw' c f := by
  obtain ⟨a, fd, F, b, m⟩ := d.ex
  exact fn_mk F S b m (body a) hn
end
end M

namespace M
open PySem PySem.Spec L2
/-! ## data that may be compared -/
def cE {K : PySem.W.Frag} : Cod K PyData := ⟨fun F v d => Dp K F v d ∧ d.canLay0 = true ∧ d.depth ≤ 64, fun s h => ⟨dp_mono s _ _ h.1, h.2⟩⟩
section
variable {X : Cx} {G : Ga X.K} {α β γ τ ρ ε : Type}
theorem Ex.e {e : Expr} {c : Cod X.K α} {d : α → PyData} {n : Nat} [x : Dat c d n] {r : Option α} (h : Ex X G e c r) (hn : n ≤ 64 := by decide) : Ex X G e cE (r.bind fun x => Option.some (d x)) := fun u hu F H σ E Q q => by
  cases r with
  | none => cases hu
  | some a => cases hu; exact h a rfl F H σ E Q fun v F' H' g rp => q v F' H' g ⟨x.dp rp, x.lay rp, Nat.le_trans (x.dep a) hn⟩
theorem Ex.eD {e : Expr} {r : Option PyData} (h : Ex X G e cE r) : Ex X G e cD r := fun u hu F H σ E Q q => h u hu F H σ E Q fun v F' H' g rp => q v F' H' g rp.1
def isNonD : PyData → Bool
  | .none => true
  | _ => false
theorem ed_isN {e : Expr} {r : Option PyData} {j : Nat} {pos pos' : Pos} (h : Ex X G e cE r) : Ex X G (.Compare e [.Is] [.Constant .none j pos'] pos) cBool (r.bind fun x => Option.some (isNonD x)) := fun b hb F H σ E Q q => by
  cases r with
  | none => cases hb
  | some d =>
    cases hb
    refine (pe_cmp (pc_isN pe_self)).to (h d rfl F H σ E _ fun v F' H' g rp => q _ F' H' g ?_)
    have hd := rp.1
    cases hd <;> rfl
theorem o_eqE (hu : X.A.units + 64 < cLine) : Op2 X (compareOp .Eq) cE cE cBool (fun i j => some (PyData.eqv i j)) :=
  ⟨_, op_eqD hu, fun i j u v w F H Q e rx ry s q => by
    cases e
    refine ⟨i, j, dp_mono s _ _ rx.1, dp_mono s _ _ ry.1, ?_, ?_, gt_fin s q rfl⟩
    · show (PyData.canLay0 _ && decide _) = true
      rw [rx.2.1, decide_eq_true rx.2.2]; rfl
    · show (PyData.canLay0 _ && decide _) = true
      rw [ry.2.1, decide_eq_true ry.2.2]; rfl⟩
def lenD : PyData → Option Int
  | .tuple xs => some (xs.length : Int)
  | _ => none
theorem b_lenE : Bi X (.builtin "len") (rOne cE) cInt lenD :=
  ⟨_, call_len_seq, fun a u vs F H Q e ⟨v, h1, h2⟩ s q => by
    subst h1
    cases a with
    | tuple ds =>
      cases e
      obtain ⟨hd, _⟩ := h2
      cases hd with
      | tup hs ha =>
        refine ⟨_, _, rfl, .inr (same_seqT s hs), gt_fin s q ?_⟩
        have : ∀ {vs : List V} {ds : List PyData}, DpAll X.K F vs ds → vs.length = ds.length := fun {vs ds} h => by
          induction ds generalizing vs with
          | nil => cases h; rfl
          | cons d ds ih => cases h with | cons _ h => rw [List.length_cons, List.length_cons, ih h]
        rw [this ha]; rfl
    | _ => cases e⟩
def ixD (d : PyData) (i : Int) : Option PyData := match d with
  | .tuple xs => atI xs i
  | _ => none
theorem dpAll_get {K : PySem.W.Frag} {F : Hp} : ∀ {vs : List V} {ds : List PyData} {i : Nat} {d : PyData}, DpAll K F vs ds → ds[i]? = some d → ∃ v, vs[i]? = some v ∧ Dp K F v d
  | _, [], _, _, _, e => by simp at e
  | _, d0 :: ds, 0, d, .cons h _, e => by simp at e; subst e; exact ⟨_, rfl, h⟩
  | _, d0 :: ds, i + 1, d, .cons _ t, e => by
    obtain ⟨v, h1, h2⟩ := dpAll_get (i := i) (d := d) t (by simpa using e)
    exact ⟨v, by simpa using h1, h2⟩
theorem dpAll_len {K : PySem.W.Frag} {F : Hp} : ∀ {vs : List V} {ds : List PyData}, DpAll K F vs ds → vs.length = ds.length
  | _, [], h => by cases h; rfl
  | _, d :: ds, .cons _ h => by rw [List.length_cons, List.length_cons, dpAll_len h]
theorem lay_mem : ∀ {ds : List PyData} {d : PyData}, PyData.canLayAll0 ds = true → d ∈ ds → d.canLay0 = true
  | d0 :: ds, d, h, hm => by
    have h : (PyData.canLay0 d0 && PyData.canLayAll0 ds) = true := h
    rw [Bool.and_eq_true] at h
    rcases List.mem_cons.mp hm with e | hm
    · subst e; exact h.1
    · exact lay_mem h.2 hm
theorem dep_mem : ∀ {ds : List PyData} {d : PyData}, d ∈ ds → d.depth ≤ PyData.depthAll ds
  | d0 :: ds, d, hm => by
    show _ ≤ max _ _
    rcases List.mem_cons.mp hm with e | hm
    · subst e; exact Nat.le_max_left _ _
    · exact Nat.le_trans (dep_mem hm) (Nat.le_max_right _ _)
theorem ed_ix {a b : Expr} {pos : Pos} {r1 : Option PyData} {r2 : Option Int} (ha : Ex X G a cE r1) (hb : Ex X G b cInt r2) (hs : PlainIx b := by exact fun _ _ => rfl) : Ex X G (.Subscript a b pos) cE (r1.bind fun d => r2.bind fun i => ixD d i) := fun u hu F H σ E Q q =>
  (pe_ix ix_tup pe_self pe_self hs).to (two ha hb hu E fun d i x y F' H' e g rx ry => by
    cases d with
    | tuple ds =>
      have e : atI ds i = some u := e
      obtain ⟨hd, hl, hz⟩ := rx
      cases hd with
      | tup hq hal =>
        rename_i p vs
        unfold atI at e
        cases ei : ixN ds.length i with
        | none => rw [ei] at e; cases e
        | some j =>
          rw [ei] at e
          have e : ds[j]? = some u := e
          obtain ⟨v, h1, h2⟩ := dpAll_get hal e
          have hm := List.mem_of_getElem? e
          refine ⟨p, vs, i, v, rfl, ry, same_seqT g.fh hq, ?_, q v F' H' g ⟨h2, lay_mem hl hm, ?_⟩⟩
          · unfold atI
            rw [dpAll_len hal, ei]
            exact h1
          · have hz : PyData.depthAll ds + 1 ≤ 64 := hz
            have := dep_mem hm
            omega
    | _ => cases e)
theorem ed_isi {e : Expr} {T : Str} {Tn : String} {p p2 pos : Pos} {r : Option PyData} (ht : ∀ d : PyData, (∀ kvs, d ≠ .dict kvs) → kitB (tyD d) Tn = some (isTy Tn d)) (ha : Ex X G e cE r) (hm : X.mg "isinstance" = none) (hmT : X.mg T = none) (hvT : bootBuiltins T = some (.type Tn))
    (hg : Gl X "isinstance" := by rfl) (hgT : Gl X T := by rfl) (hnT : T ≠ "__name__" := by decide) (hdT : (T == ("__debug__" : Str)) = false := by decide)
    (hs : starEach (e :: [.Name T p2]) X.env = (false, eval e X.env) :: starEach [.Name T p2] X.env := by rfl) (hs2 : starEach [.Name T p2] X.env = (false, eval (.Name T p2) X.env) :: starEach [] X.env := by rfl) (hpl : (backTo pos (starEach [.Name T p2] X.env)).any (·.1) = false := by rfl) :
    Ex X G (.Call (.Name "isinstance" p) [e, .Name T p2] [] pos) cBool (r.bind fun x => Option.some (isTy Tn x)) := ex_isi (x := T) ht ha.eD hm hmT hvT hg hgT hnT hdT hs hs2 hpl
end
/-! ## a law's own comparison -/
mutual
/-- no list within; tuples of at most 1000 items -/
def noL : PyData → Bool
  | .list _ => false
  | .dict _ => false
  | .tuple xs => decide (xs.length ≤ 1000) && noLs xs
  | _ => true
def noLs : List PyData → Bool
  | [] => true
  | x :: xs => noL x && noLs xs
end
/-- the law's own comparison is only asked where both are the same -/
noncomputable def isG (n : Nat) (v d : PyData) : Option Bool := gd (v = d ∧ noL d = true ∧ d.depth ≤ n) true
theorem isG_self {n : Nat} {d : PyData} (h : noL d = true) (hd : d.depth ≤ n) : isG n d d = some true := gd_ok ⟨rfl, h, hd⟩
theorem isG_eq {n : Nat} {v d : PyData} (h : noL d = true) (hd : d.depth ≤ n) (e : v = d) : isG n v d = some true := by subst e; exact isG_self h hd
theorem isG_some {n : Nat} {v d : PyData} {u : Bool} (h : isG n v d = some u) : v = d ∧ noL d = true ∧ d.depth ≤ n ∧ u = true := by
  obtain ⟨h1, h2⟩ := gd_some h
  exact ⟨h1.1, h1.2.1, h1.2.2, h2.symm⟩
theorem noLs_mem : ∀ {xs : List PyData} {d : PyData}, noLs xs = true → d ∈ xs → noL d = true
  | x :: xs, d, h, hm => by
    have h : (noL x && noLs xs) = true := h
    rw [Bool.and_eq_true] at h
    rcases List.mem_cons.mp hm with e | hm
    · subst e; exact h.1
    · exact noLs_mem h.2 hm
theorem noLs_of : ∀ {xs : List PyData}, (∀ d ∈ xs, noL d = true) → noLs xs = true
  | [], _ => rfl
  | x :: xs, h => by
    show (noL x && noLs xs) = true
    rw [h x List.mem_cons_self, noLs_of fun d hd => h d (List.mem_cons_of_mem _ hd)]; rfl
mutual
theorem eqv_noL : ∀ d : PyData, noL d = true → PyData.eqv d d = true
  | .none, _ => rfl
  | .bool b, _ => by simp [PyData.eqv]
  | .int i, _ => by simp [PyData.eqv]
  | .str x, _ => by simp [PyData.eqv]
  | .list _, h => by cases h
  | .dict _, h => by cases h
  | .tuple xs, h => by
    have h : (decide (xs.length ≤ 1000) && noLs xs) = true := h
    rw [Bool.and_eq_true] at h
    show PyData.eqvAll xs xs = true
    exact eqv_noLs xs h.2
theorem eqv_noLs : ∀ xs : List PyData, noLs xs = true → PyData.eqvAll xs xs = true
  | [], _ => rfl
  | x :: xs, h => by
    have h : (noL x && noLs xs) = true := h
    rw [Bool.and_eq_true] at h
    show (PyData.eqv x x && PyData.eqvAll xs xs) = true
    rw [eqv_noL x h.1, eqv_noLs xs h.2]; rfl
end
theorem mapO_all {α β : Type} {g : α → Option β} {h : α → β} : ∀ {xs : List α}, (∀ x ∈ xs, g x = some (h x)) → mapO g xs = some (xs.map h)
  | [], _ => rfl
  | x :: xs, k => by
    have ih := mapO_all (g := g) (h := h) (xs := xs) fun y hy => k y (List.mem_cons_of_mem _ hy)
    show ((lcF (fun _ => some true) g x).bind fun o => (mapO g xs).bind fun ys => some (o.toList ++ ys)) = _
    rw [ih]
    unfold lcF
    rw [k x List.mem_cons_self]
    rfl
theorem rng0 (n : Nat) : rng 0 (n : Int) = (List.range n).map fun (k : Nat) => (k : Int) := by
  unfold rng
  rw [show ((n : Int) - 0).toNat = n by omega]
  exact List.map_congr_left fun k _ => by omega
/-- tuples of one length, item by item -/
theorem isG_items {n : Nat} {xs : List PyData} (h : noL (.tuple xs) = true) (hd : (PyData.tuple xs).depth ≤ n + 1) :
    ((rngG 0 (xs.length : Int)).bind fun is => mapO (fun v => ((ixD (.tuple xs) v).bind fun a => (ixD (.tuple xs) v).bind fun b => some (a, b)).bind fun t => isG n t.1 t.2) is) = some (xs.map fun _ => true) := by
  have h : (decide (xs.length ≤ 1000) && noLs xs) = true := h
  rw [Bool.and_eq_true, decide_eq_true_eq] at h
  have hr : rngG 0 (xs.length : Int) = some (rng 0 xs.length) := gd_ok ⟨by omega, by omega, by omega, by omega, by omega⟩
  rw [hr]
  show mapO _ _ = _
  rw [rng0, mapO_all (h := fun _ => true)]
  · rw [List.map_map]
    congr 1
    apply List.ext_getElem
    · simp
    · intro i h1 h2; simp
  · intro v hv
    obtain ⟨k, hk, rfl⟩ := List.mem_map.mp hv
    have hk := List.mem_range.mp hk
    have e : ixD (.tuple xs) (k : Int) = some xs[k] := by
      show atI xs (k : Int) = _
      rw [atI_nat (List.getElem?_eq_getElem hk)]
    rw [e]
    show isG n xs[k] xs[k] = some true
    have hm : xs[k] ∈ xs := List.getElem_mem hk
    refine isG_self (noLs_mem h.2 hm) ?_
    have hd : PyData.depthAll xs + 1 ≤ n + 1 := hd
    have := dep_mem hm
    omega
section
variable {X : Cx} {G : Ga X.K} {α β γ τ ρ ε : Type}
/-! ## by written numbers -/
theorem ex_mulR {e : Expr} {k : Int} {j : Nat} {p pos : Pos} {r : Option Int} (h : Ex X G e cInt r) (hk : k.natAbs < 2 ^ 64 := by decide) : Ex X G (.BinOp e .Mult (.Constant (.int k) j p) pos) cInt (r.bind fun i => Option.some (i * k)) := fun u hu F H σ E Q q => by
  cases r with
  | none => cases hu
  | some i => cases hu; exact ex_op o_mul h ex_int _ (gd_ok (.inr hk)) F H σ E Q q
theorem ex_mulL {e : Expr} {k : Int} {j : Nat} {p pos : Pos} {r : Option Int} (h : Ex X G e cInt r) (hk : k.natAbs < 2 ^ 64 := by decide) : Ex X G (.BinOp (.Constant (.int k) j p) .Mult e pos) cInt (r.bind fun i => Option.some (k * i)) := fun u hu F H σ E Q q => by
  cases r with
  | none => cases hu
  | some i => cases hu; exact ex_op o_mul ex_int h _ (gd_ok (.inl hk)) F H σ E Q q
theorem ex_divC {e : Expr} {k : Int} {j : Nat} {p pos : Pos} {r : Option Int} (h : Ex X G e cInt r) (hk : 0 < k ∧ k < 1073741824 := by decide) : Ex X G (.BinOp e .FloorDiv (.Constant (.int k) j p) pos) cInt (r.bind fun i => Option.some (i / k)) := fun u hu F H σ E Q q => by
  cases r with
  | none => cases hu
  | some i => cases hu; exact ex_op o_div h ex_int _ (gd_ok hk) F H σ E Q q
theorem ex_modC {e : Expr} {k : Int} {j : Nat} {p pos : Pos} {r : Option Int} (h : Ex X G e cInt r) (hk : 0 < k := by decide) : Ex X G (.BinOp e .Mod (.Constant (.int k) j p) pos) cInt (r.bind fun i => Option.some (i % k)) := fun u hu F H σ E Q q => by
  cases r with
  | none => cases hu
  | some i => cases hu; exact ex_op o_mod h ex_int _ (gd_ok hk) F H σ E Q q
theorem ex_powC {k m : Int} {j j' : Nat} {p p' pos : Pos} (v : Int) (hk : 0 ≤ m ∧ m ≤ 1000000 ∧ k.natAbs < 2 ^ 64 := by decide) (hv : k ^ m.toNat = v := by decide +kernel) : Ex X G (.BinOp (.Constant (.int k) j p) .Pow (.Constant (.int m) j' p') pos) cInt (some v) := fun u hu F H σ E Q q => by
  cases hu
  subst hv
  exact ex_op o_pow ex_int ex_int _ (gd_ok hk) F H σ E Q q
theorem te_isN {e : Expr} {c : Cod X.K α} {r : Option (Option α)} {j : Nat} {pos pos' : Pos} (h : Ex X G e (cOpt c) r) : Te X G (.Compare e [.Is] [.Constant .none j pos'] pos) (r.bind fun o => Option.some o.isNone) := fun b hb F H σ E Q q => by
  cases r with
  | none => cases hb
  | some o =>
    cases hb
    refine (pt_cmp (pc_isN pe_self)).to (h o rfl F H σ E _ fun v F' H' g rp => ⟨_, rfl, ?_⟩)
    cases o with
    | none => rw [show v = V.non from rp]; exact q F' H' g
    | some a => rw [decide_eq_false rp.1]; exact q F' H' g
theorem te_notN {e : Expr} {c : Cod X.K α} {r : Option (Option α)} {j : Nat} {pos pos' : Pos} (h : Ex X G e (cOpt c) r) : Te X G (.Compare e [.IsNot] [.Constant .none j pos'] pos) (r.bind fun o => Option.some o.isSome) := fun b hb F H σ E Q q => by
  cases r with
  | none => cases hb
  | some o =>
    cases hb
    refine (pt_cmp (pc_notN pe_self)).to (h o rfl F H σ E _ fun v F' H' g rp => ⟨_, rfl, ?_⟩)
    cases o with
    | none => rw [show v = V.non from rp]; exact q F' H' g
    | some a => rw [decide_eq_false rp.1]; exact q F' H' g
theorem td_isN {e : Expr} {r : Option PyData} {j : Nat} {pos pos' : Pos} (h : Ex X G e cE r) : Te X G (.Compare e [.Is] [.Constant .none j pos'] pos) (r.bind fun x => Option.some (isNonD x)) := fun b hb F H σ E Q q => by
  cases r with
  | none => cases hb
  | some d =>
    cases hb
    refine (pt_cmp (pc_isN pe_self)).to (h d rfl F H σ E _ fun v F' H' g rp => ⟨_, rfl, ?_⟩)
    have hd := rp.1
    cases hd <;> exact q F' H' g
theorem Rb.some {sts : List Stmt} {c : Cod X.K ρ} [n : NN c] {r : Option ρ} (h : Rb X G sts c r) : Rb X G sts (cOpt c) (r.bind fun x => Option.some (Option.some x)) := fun u hu F0 H0 F H σ C D q => by
  cases r with
  | none => cases hu
  | some a => cases hu; exact h a rfl F0 H0 F H σ C D fun v F' H' g rp => q v F' H' g ⟨n.nn rp, rp⟩
end
end M

namespace M
open PySem PySem.Spec L2
section
variable {X : Cx} {G : Ga X.K} {α β γ τ ρ ε δ : Type} {pos : Pos}
/-- a comprehension is stored -/
theorem ns_setC (i : Nat) {x : Str} {elt : Expr} {gs : List Comprehension} {scope : Scope} {p' cp : Pos} {c : Cod X.K α} {r : Option (List α)} (hN : X.N.Nodup) (he : ExC X G (.ListComp elt gs scope cp) c r) (hi : X.N[i]? = some x := by rfl) (hx : X.env.scope.names.lookup x = some .local := by rfl)
    (hk : X.env.scope.kind = .function := by rfl) (hl : (p'.line == cp.line) = true := by rfl) (ha : (scope.names.any fun (n, k) => n == x && (k == .local || k == .cell)) = false := by rfl) :
    Ns X G (.Assign [.Name x p'] (.ListComp elt gs scope cp) pos) r (fun a => G.set i (.own c a)) := fun u hu F0 H0 F H σ C D q => by
  obtain ⟨te, h1, h2, h3⟩ := he
  exact (h2 i x p' pos hi hx (sw_true hk hx hl ha)).to (h3 u hu F H σ C.env _ fun p vs F' H' g n f e2 rp => q F' H' _ g.ff (C.setO g n ⟨p, vs, rfl, f, e2, rp⟩))
theorem rb_none {sts : List Stmt} {c : Cod X.K ρ} : Rb X G sts c none := fun u hu => by cases hu
/-- an inner loop -/
def thenG {ε δ ρ : Type} (r : Option (Fl ε ρ)) (k : ε → Option (Fl δ ρ)) : Option (Fl δ ρ) := r.bind fun o => match o with
  | .nx e => k e
  | .rt a => some (.rt a)
  | .bk _ => none
  | .ct _ => none
theorem fb_consG {st : Stmt} {rest : List Stmt} {r : Option (Fl ε ρ)} {G1 : ε → Ga X.K} {c : Cod X.K ρ} {k : ε → Option (Fl δ ρ)} {G' : δ → Ga X.K} (h1 : Fs X G st r G1 c) (h2 : ∀ e, Fb X (G1 e) rest (k e) G' c) : Fb X G (st :: rest) (thenG r k) G' c := fun u hu F0 H0 F H σ C D q => by
  obtain ⟨o, rfl, hk⟩ := bind1 hu
  refine (pss_cons ps_self pss_self).to (h1 o rfl F0 H0 F H σ C _ ⟨fun e he F' H' σ' z C' => ?_, fun e he F' H' σ' z C' => ?_, fun e he F' H' σ' z C' => ?_, fun a ha v F' H' g rv => ?_⟩)
  · subst he; exact h2 e u hk F0 H0 F' H' σ' C' D (q.from z)
  · subst he; cases hk
  · subst he; cases hk
  · subst ha; cases hk; exact q.rt _ rfl v F' H' g rv
end

/-! the classes' facts as terms (where a scope's K is written in two ways no instance is found) -/
section
variable {K : PySem.W.Frag} {α β τ : Type}
theorem nn_int : NN (cInt (K := K)) := inferInstance
theorem nn_bool : NN (cBool (K := K)) := inferInstance
theorem nn_str : NN (cStr (K := K)) := inferInstance
theorem nn_tup {c : Cod K α} : NN (cTup c) := inferInstance
theorem nn_lst {c : Cod K α} : NN (cLst c) := inferInstance
theorem nn_row {c : Row K τ} : NN (cRow c) := inferInstance
theorem rlen_nil : RLen (rNil (K := K)) 0 := inferInstance
theorem rlen_one {c : Cod K α} : RLen (rOne c) 1 := inferInstance
theorem rlen_cons {c : Cod K α} {r : Row K τ} {n : Nat} (h : RLen r n) : RLen (rCons c r) (n + 1) := inferInstance
theorem rat_one {c : Cod K α} : RAt (rOne c) 0 c (fun a => a) := inferInstance
theorem rat_0 {c : Cod K α} {r : Row K τ} : RAt (rCons c r) 0 c (fun a => a.1) := inferInstance
theorem rat_s {c : Cod K α} {r : Row K τ} {k : Nat} {cb : Cod K β} {f : τ → β} (x : RAt r k cb f) : RAt (rCons c r) (k + 1) cb (fun a => f a.2) := inferInstance
theorem dat_int : Dat (cInt (K := K)) PyData.int 0 := inferInstance
theorem dat_bool : Dat (cBool (K := K)) PyData.bool 0 := inferInstance
theorem dat_non : Dat (cNon (K := K)) (fun _ => PyData.none) 0 := inferInstance
theorem dat_str : Dat (cStr (K := K)) (fun a => PyData.str (tx a)) 0 := inferInstance
theorem dat_tup {c : Cod K α} {d : α → PyData} {n : Nat} (x : Dat c d n) : Dat (cTup c) (fun a => PyData.tuple (a.map d)) (n + 1) := inferInstance
theorem dat_lst {c : Cod K α} {d : α → PyData} {n : Nat} (x : Dat c d n) : Dat (cLst c) (fun a => PyData.list (a.map d)) (n + 1) := inferInstance
theorem dat_row {r : Row K τ} {m : Nat} {ds : τ → List PyData} (y : DatR r ds m) : Dat (cRow r) (fun a => PyData.tuple (ds a)) (m + 1) := inferInstance
theorem datr_one {c : Cod K α} {d : α → PyData} {n : Nat} (x : Dat c d n) : DatR (rOne c) (fun a => [d a]) n := inferInstance
theorem datr_cons {c : Cod K α} {r : Row K τ} {d : α → PyData} {n m : Nat} {ds : τ → List PyData} (x : Dat c d n) (y : DatR r ds m) : DatR (rCons c r) (fun a => d a.1 :: ds a.2) (max n m) := inferInstance
theorem dat_opt {c : Cod K α} {d : α → PyData} {n : Nat} [z : DNN d] (x : Dat c d n) : Dat (cOpt c) (optD d) n := inferInstance
end
end M

namespace M
open PySem PySem.Spec L2
/-! ## the ends -/
/-- a def stands in the table -/
structure DK (K : PySem.W.Frag) (x : Str) (st : Stmt) : Prop where
  ex : ∃ (f : Addr) (oc : Value) (od an : Option Addr) (sl : Array (Option Value)) (kV dc pm cd ct : Value), PySem.W.nsIn K mainGlobals x = some (some (.ref f)) ∧
    K.lookup f = some ⟨oc, od, .func (PySem.W.fnOf x x (defArgs st) (defBody st) (defScope st) .none kV dc pm an cd ct), sl⟩ ∧ PySem.W.codeIn K cd x = true ∧ PySem.W.keepIn K (.ref f) = true
theorem dk_mk {K : PySem.W.Frag} {x : Str} {st : Stmt} {f : Addr} {oc : Value} {od an : Option Addr} {sl : Array (Option Value)} {kV dc pm cd ct : Value} (a : PySem.W.nsIn K mainGlobals x = some (some (.ref f)))
    (l : K.lookup f = some ⟨oc, od, .func (PySem.W.fnOf x x (defArgs st) (defBody st) (defScope st) .none kV dc pm an cd ct), sl⟩) (c : PySem.W.codeIn K cd x = true) (k : PySem.W.keepIn K (.ref f) = true) : DK K x st :=
  ⟨f, oc, od, an, sl, kV, dc, pm, cd, ct, a, l, c, k⟩
/-- each parameter is given -/
def BindOk (x : Str) (st : Stmt) (ps : List Str) : Prop := ∀ (kV doc pm : Value) (an : Option Addr) (cdv ct : Value) (us : List Value), us.length = ps.length → bindArgs (PySem.W.fnOf x x (defArgs st) (defBody st) (defScope st) .none kV doc pm an cdv ct) ⟨us, []⟩ = pure (ps.zip us)
theorem df_of {K : PySem.W.Frag} {mg : Str → Option Value} {h : Heap} {x : Str} {st : Stmt} {ps : List Str} (X : K.In h) (G : h.Ns mainGlobals mg) (d : DK K x st) (hb : BindOk x st ps) : Df K mg x st ps := by
  obtain ⟨f, oc, od, an, sl, kV, dc, pm, cd, ct, a, l, c, k⟩ := d.ex
  have F := fun_mk (st := st) l c k
  exact ⟨f, _, F, F.binds hb, PySem.W.mg_of X G a⟩
/-- a module's text -/
theorem gs_of {K : PySem.W.Frag} {mg : Str → Option Value} {h : Heap} {x s : Str} {l : List Nat} {t : Tok} (X : K.In h) (G : h.Ns mainGlobals mg) (a : PySem.W.nsIn K mainGlobals x = some (some (.str s t))) (e : s = tx l := by decide +kernel) : ∃ t, mg x = some (.str (tx l) t) :=
  ⟨t, by rw [← e]; exact PySem.W.mg_of X G a⟩
/-- the law itself -/
theorem law_mk {P : Program} {w : World} {K : PySem.W.Frag} {mg : Str → Option Value} {h : Heap} {st : Stmt} {N : List Str} {fa : Addr} {k : Nat} {f : List Int → Option Bool} (X : K.In h) (G : h.Ns mainGlobals mg) (hfa : mg "law" = some (.ref fa)) (d : DK K "law" st) (hb : BindOk "law" st ["script"])
    (S : FnScope N ["script"] (defScope st))
    (body : ∀ (base : Heap) (a : Addr) (cdv : Value) (A : Around) (outer : List Env) (s : Shared) (H : Hp) (E : XK), Room k (CxF P w K mg base N "law" st a cdv A outer s H E).A → ∀ t : List Int, Rb (CxF P w K mg base N "law" st a cdv A outer s H E) ([.val (cLst cInt) t] ++ List.replicate (N.length - 1) .any) (defBody st) cBool (f t)) :
    ∃ fd : FuncData, (∀ (s : Shared) (u : Value), BindsTo s fd ⟨[u], []⟩ [("script", u)]) ∧ ∀ base : Heap, K.In base → base.Ns mainGlobals mg → FnOk P w K mg base CX0 (k + 1) fa fd ["script"] (spOf (rOne (cLst (cInt (K := K)))) cBool f) := by
  obtain ⟨f0, oc, od, an, sl, kV, dc, pm, cd, ct, a, l, c, kp⟩ := d.ex
  have e := hfa.symm.trans (PySem.W.mg_of X G a)
  cases e
  have F := fun_mk (st := st) l c kp
  refine ⟨PySem.W.fnOf "law" "law" (defArgs st) (defBody st) (defScope st) .none kV dc pm an cd ct, fun s v => .of_eq (hb _ _ _ _ _ _ [v] rfl), fun base _ _ => ?_⟩
  refine F.ok S (fun vs H Q E h => ?_) (fun cdv A outer s H vs Q E hr h => ?_)
  · obtain ⟨t, u, F, _, _, rp, _⟩ := h
    obtain ⟨v, rfl, _⟩ := rp
    rfl
  · obtain ⟨t, u, F, hu, hF, rp, q⟩ := h
    exact ⟨_, pss_self, body base _ cdv A outer s H E hr t u hu F H F H (L2.start N vs) (start_env (K := K) (r := rOne (cLst cInt)) (sas := fun t => [.val (cLst cInt) t]) (n := 1) (N := N) rp hF) _ q⟩
/-- what the builtins are -/
structure BK (K : PySem.W.Frag) : Prop where
  len : PySem.W.nsIn K mainGlobals "len" = some none
  tuple : PySem.W.nsIn K mainGlobals "tuple" = some none
  range : PySem.W.nsIn K mainGlobals "range" = some none
  int : PySem.W.nsIn K mainGlobals "int" = some none
  bool : PySem.W.nsIn K mainGlobals "bool" = some none
  str : PySem.W.nsIn K mainGlobals "str" = some none
  abs : PySem.W.nsIn K mainGlobals "abs" = some none
  isinstance : PySem.W.nsIn K mainGlobals "isinstance" = some none
  enumerate : PySem.W.nsIn K mainGlobals "enumerate" = some none
  all : PySem.W.nsIn K mainGlobals "all" = some none
  any : PySem.W.nsIn K mainGlobals "any" = some none
  min : PySem.W.nsIn K mainGlobals "min" = some none
  max : PySem.W.nsIn K mainGlobals "max" = some none
  sum : PySem.W.nsIn K mainGlobals "sum" = some none
  sorted : PySem.W.nsIn K mainGlobals "sorted" = some none
  set : PySem.W.nsIn K mainGlobals "set" = some none
  list : PySem.W.nsIn K mainGlobals "list" = some none
  dict : PySem.W.nsIn K mainGlobals "dict" = some none
  zip : PySem.W.nsIn K mainGlobals "zip" = some none
theorem bt_of {K : PySem.W.Frag} {mg : Str → Option Value} {h : Heap} (X : K.In h) (G : h.Ns mainGlobals mg) (b : BK K) : Bt mg :=
  ⟨PySem.W.mg_none_of X G b.len, PySem.W.mg_none_of X G b.tuple, PySem.W.mg_none_of X G b.range, PySem.W.mg_none_of X G b.int, PySem.W.mg_none_of X G b.bool, PySem.W.mg_none_of X G b.str, PySem.W.mg_none_of X G b.abs, PySem.W.mg_none_of X G b.isinstance, PySem.W.mg_none_of X G b.enumerate,
   PySem.W.mg_none_of X G b.all, PySem.W.mg_none_of X G b.any, PySem.W.mg_none_of X G b.min, PySem.W.mg_none_of X G b.max, PySem.W.mg_none_of X G b.sum, PySem.W.mg_none_of X G b.sorted, PySem.W.mg_none_of X G b.set, PySem.W.mg_none_of X G b.list, PySem.W.mg_none_of X G b.dict, PySem.W.mg_none_of X G b.zip⟩
/-- a function that is asked for nothing -/
theorem fn_none {P : Program} {w : World} {K : PySem.W.Frag} {mg : Str → Option Value} {base : Heap} {x : Str} {st : Stmt} {N ps : List Str} {τ ρ : Type} {n : Nat} {rw' : Row K τ} {c : Cod K ρ} {sas : τ → List (SA K)} [hl : RLen rw' n] [hs : RSA rw' sas] (d : Df K mg x st ps) (S : FnScope N ps (defScope st)) (hn : n = ps.length := by rfl) (k : Nat) :
    Fn P w K mg base (k + 1) x rw' c (fun _ => none) := fn_df k d S (fun a cdv A outer s H E hr t => rb_none) hn
end M

namespace M
open PySem PySem.Spec L2
/-! # what a mirror tells: it tells something, and that is so -/
def Ok {α : Type} (r : Option α) (P : α → Prop) : Prop := ∃ a, r = some a ∧ P a
section
variable {α β γ ε ρ δ : Type}
theorem Ok.some {a : α} {P : α → Prop} (h : P a) : Ok (Option.some a) P := ⟨a, rfl, h⟩
theorem Ok.imp {r : Option α} {P Q : α → Prop} (h : Ok r P) (k : ∀ a, P a → Q a) : Ok r Q := let ⟨a, e, p⟩ := h; ⟨a, e, k a p⟩
theorem Ok.bind {r : Option α} {f : α → Option β} {P : α → Prop} {Q : β → Prop} (h : Ok r P) (k : ∀ a, P a → Ok (f a) Q) : Ok (r.bind f) Q := by
  obtain ⟨a, rfl, p⟩ := h
  exact k a p
theorem Ok.map {r : Option α} {f : α → β} {P : α → Prop} {Q : β → Prop} (h : Ok r P) (k : ∀ a, P a → Q (f a)) : Ok (r.map f) Q := by
  obtain ⟨a, rfl, p⟩ := h
  exact ⟨_, rfl, k a p⟩
theorem Ok.eq {r : Option α} {a : α} (h : Ok r (· = a)) : r = Option.some a := by obtain ⟨b, e, p⟩ := h; rw [e, p]
theorem Ok.of {r : Option α} {a : α} (h : r = Option.some a) : Ok r (· = a) := ⟨a, h, rfl⟩
theorem Ok.and {r : Option α} {P Q : α → Prop} (h : Ok r P) (k : Ok r Q) : Ok r (fun a => P a ∧ Q a) := by
  obtain ⟨a, e, p⟩ := h
  obtain ⟨b, e2, q⟩ := k
  rw [e] at e2; cases e2
  exact ⟨a, e, p, q⟩
theorem ok_gd {p : Prop} {x : α} {P : α → Prop} (h : p) (hx : P x) : Ok (gd p x) P := ⟨x, gd_ok h, hx⟩
theorem ok_ite {c : Prop} [Decidable c] {a b : Option α} {P : α → Prop} (h1 : c → Ok a P) (h2 : ¬ c → Ok b P) : Ok (if c then a else b) P := by
  by_cases h : c
  · rw [if_pos h]; exact h1 h
  · rw [if_neg h]; exact h2 h
theorem ok_tt {a b : Option α} {P : α → Prop} {c : Bool} (h : c = true) (h1 : Ok a P) : Ok (if c = true then a else b) P := by rw [if_pos h]; exact h1
theorem ok_ff {a b : Option α} {P : α → Prop} {c : Bool} (h : c = false) (h1 : Ok b P) : Ok (if c = true then a else b) P := by rw [h]; exact h1
/-! ### loops -/
theorem ok_forN_from {f : ε → α → Option ε} (I : Nat → ε → Prop) : ∀ {xs : List α} {k : Nat} {e : ε}, I k e → (∀ i x e, xs[i]? = Option.some x → I (k + i) e → Ok (f e x) (I (k + i + 1))) → Ok (forN f xs e) (I (k + xs.length))
  | [], k, e, h0, _ => ⟨e, rfl, h0⟩
  | x :: xs, k, e, h0, step => by
    obtain ⟨e1, h1, h2⟩ := step 0 x e rfl h0
    have ih := ok_forN_from I (xs := xs) (k := k + 1) (e := e1) h2 (fun i y e' hi hI => by
      have := step (i + 1) y e' (by rw [List.getElem?_cons_succ]; exact hi) (by rw [show k + (i + 1) = k + 1 + i by omega]; exact hI)
      rw [show k + (i + 1) + 1 = k + 1 + i + 1 by omega] at this
      exact this)
    show Ok ((f e x).bind fun e' => forN f xs e') _
    rw [h1]
    rw [List.length_cons, show k + (xs.length + 1) = k + 1 + xs.length by omega]
    exact ih
theorem ok_forN {f : ε → α → Option ε} {xs : List α} {e : ε} (I : Nat → ε → Prop) (h0 : I 0 e) (step : ∀ i x e, xs[i]? = Option.some x → I i e → Ok (f e x) (I (i + 1))) : Ok (forN f xs e) (I xs.length) := by
  have := ok_forN_from I (xs := xs) (k := 0) h0 (fun i x e hx hI => by
    rw [Nat.zero_add] at hI ⊢
    exact step i x e hx hI)
  rwa [Nat.zero_add] at this
/-- the four ends -/
def flP (N C B : ε → Prop) (R : ρ → Prop) : Fl ε ρ → Prop
  | .nx e => N e
  | .ct e => C e
  | .bk e => B e
  | .rt a => R a
theorem ok_forF_from {f : ε → α → Option (Fl ε ρ)} (I : Nat → ε → Prop) (B : ε → Prop) (R : ρ → Prop) : ∀ {xs : List α} {k : Nat} {e : ε}, I k e → (∀ i x e, xs[i]? = Option.some x → I (k + i) e → Ok (f e x) (flP (I (k + i + 1)) (I (k + i + 1)) B R)) → Ok (forF f xs e) (flP (fun e => I (k + xs.length) e ∨ B e) (fun _ => False) (fun _ => False) R)
  | [], k, e, h0, _ => ⟨.nx e, rfl, .inl h0⟩
  | x :: xs, k, e, h0, step => by
    obtain ⟨o, h1, h2⟩ := step 0 x e rfl h0
    have ih : ∀ e1, I (k + 1) e1 → Ok (forF f xs e1) (flP (fun e => I (k + (x :: xs).length) e ∨ B e) (fun _ => False) (fun _ => False) R) := fun e1 h => by
      have := ok_forF_from I B R (xs := xs) (k := k + 1) (e := e1) h (fun i y e' hi hI => by
        have := step (i + 1) y e' (by rw [List.getElem?_cons_succ]; exact hi) (by rw [show k + (i + 1) = k + 1 + i by omega]; exact hI)
        rw [show k + (i + 1) + 1 = k + 1 + i + 1 by omega] at this
        exact this)
      rw [List.length_cons, show k + (xs.length + 1) = k + 1 + xs.length by omega]
      exact this
    show Ok ((f e x).bind _) _
    rw [h1]
    cases o with
    | nx e1 => exact ih e1 h2
    | ct e1 => exact ih e1 h2
    | bk e1 => exact ⟨.nx e1, rfl, .inr h2⟩
    | rt a => exact ⟨.rt a, rfl, h2⟩
theorem ok_forF {f : ε → α → Option (Fl ε ρ)} {xs : List α} {e : ε} (I : Nat → ε → Prop) (B : ε → Prop) (R : ρ → Prop) (h0 : I 0 e) (step : ∀ i x e, xs[i]? = Option.some x → I i e → Ok (f e x) (flP (I (i + 1)) (I (i + 1)) B R)) : Ok (forF f xs e) (flP (fun e => I xs.length e ∨ B e) (fun _ => False) (fun _ => False) R) := by
  have := ok_forF_from I B R (xs := xs) (k := 0) h0 (fun i x e hx hI => by
    rw [Nat.zero_add] at hI ⊢
    exact step i x e hx hI)
  rwa [Nat.zero_add] at this
theorem ok_thenR {r : Option (Fl ε ρ)} {k : ε → Option ρ} {N : ε → Prop} {R : ρ → Prop} (h : Ok r (flP N (fun _ => False) (fun _ => False) R)) (hk : ∀ e, N e → Ok (k e) R) : Ok (thenR r k) R := by
  obtain ⟨o, rfl, h⟩ := h
  cases o with
  | nx e => exact hk e h
  | ct e => exact h.elim
  | bk e => exact h.elim
  | rt a => exact ⟨a, rfl, h⟩
theorem ok_thenG {r : Option (Fl ε ρ)} {k : ε → Option (Fl δ ρ)} {N : ε → Prop} {R : ρ → Prop} {P : Fl δ ρ → Prop} (h : Ok r (flP N (fun _ => False) (fun _ => False) R)) (hk : ∀ e, N e → Ok (k e) P) (hr : ∀ a, R a → P (.rt a)) : Ok (thenG r k) P := by
  obtain ⟨o, rfl, h⟩ := h
  cases o with
  | nx e => exact hk e h
  | ct e => exact h.elim
  | bk e => exact h.elim
  | rt a => exact ⟨.rt a, rfl, hr a h⟩
theorem ok_whileO {t : ε → Option Bool} {f : ε → Option (Fl ε ρ)} (I : ε → Prop) (m : ε → Nat) (N : ε → Prop) (R : ρ → Prop) : ∀ (n : Nat) (e : ε), m e ≤ n → I e →
    (∀ e, I e → Ok (t e) (fun b => if b = true then Ok (f e) (flP (fun e' => I e' ∧ m e' < m e) (fun e' => I e' ∧ m e' < m e) N R) else N e)) → Ok (whileO t f e) (flP N (fun _ => False) (fun _ => False) R)
  | n, e, hn, hI, step => by
    obtain ⟨b, h1, h2⟩ := step e hI
    rw [whileO_eq, h1]
    show Ok (if b = true then _ else _) _
    cases b with
    | false => exact ⟨.nx e, rfl, h2⟩
    | true =>
      obtain ⟨o, h3, h4⟩ := h2
      rw [if_pos rfl, h3]
      cases o with
      | nx e1 =>
        obtain ⟨h5, h6⟩ := h4
        match n, hn with
        | 0, hn => exact absurd h6 (by omega)
        | n + 1, hn => exact ok_whileO I m N R n e1 (by omega) h5 step
      | ct e1 =>
        obtain ⟨h5, h6⟩ := h4
        match n, hn with
        | 0, hn => exact absurd h6 (by omega)
        | n + 1, hn => exact ok_whileO I m N R n e1 (by omega) h5 step
      | bk e1 => exact ⟨.nx e1, rfl, h4⟩
      | rt a => exact ⟨.rt a, rfl, h4⟩
theorem ok_while {t : ε → Option Bool} {f : ε → Option (Fl ε ρ)} {e : ε} (I : ε → Prop) (m : ε → Nat) (N : ε → Prop) (R : ρ → Prop) (h0 : I e) (step : ∀ e, I e → Ok (t e) (fun b => if b = true then Ok (f e) (flP (fun e' => I e' ∧ m e' < m e) (fun e' => I e' ∧ m e' < m e) N R) else N e)) :
    Ok (whileO t f e) (flP N (fun _ => False) (fun _ => False) R) := ok_whileO I m N R (m e) e (Nat.le_refl _) h0 step
theorem ok_whileN {t : ε → Option Bool} {f : ε → Option ε} {e : ε} (I : ε → Prop) (m : ε → Nat) (N : ε → Prop) (h0 : I e) (step : ∀ e, I e → Ok (t e) (fun b => if b = true then Ok (f e) (fun e' => I e' ∧ m e' < m e) else N e)) : Ok (whileN t f e) N := by
  have h := ok_while (t := t) (f := fun e => (f e).map Fl.nx) (ρ := Unit) I m N (fun _ => False) h0 fun e hI => (step e hI).imp fun b hb => by
    cases b with
    | false => exact hb
    | true => exact Ok.map hb fun a ha => ha
  unfold whileN
  obtain ⟨o, h1, h2⟩ := h
  rw [h1]
  cases o with
  | nx e => exact ⟨e, rfl, h2⟩
  | ct e => exact h2.elim
  | bk e => exact h2.elim
  | rt a => exact h2.elim
/-! ### comprehensions -/
theorem ok_mapO {g : α → Option β} (P : Nat → β → Prop) : ∀ {xs : List α}, (∀ i x, xs[i]? = Option.some x → Ok (g x) (P i)) → Ok (mapO g xs) (fun ys => ys.length = xs.length ∧ ∀ i y, ys[i]? = Option.some y → P i y) := by
  intro xs
  induction xs generalizing P with
  | nil => intro _; exact ⟨[], rfl, rfl, fun i y h => by simp at h⟩
  | cons x xs ih =>
    intro h
    obtain ⟨y, e1, p1⟩ := h 0 x rfl
    obtain ⟨ys, e2, l2, p2⟩ := ih (P := fun i => P (i + 1)) (fun i z hz => h (i + 1) z (by rw [List.getElem?_cons_succ]; exact hz))
    refine ⟨y :: ys, ?_, by rw [List.length_cons, List.length_cons, l2], fun i z hz => ?_⟩
    · show ((lcF (fun _ => Option.some true) g x).bind fun o => (mapO g xs).bind fun ys => Option.some (o.toList ++ ys)) = _
      rw [e2]
      unfold lcF
      rw [e1]
      rfl
    · cases i with
      | zero => simp at hz; rw [← hz]; exact p1
      | succ i => rw [List.getElem?_cons_succ] at hz; exact p2 i z hz
/-- .. with a test -/
theorem lcM_filterMap {p : α → Option Bool} {g : α → Option β} {k : α → Bool} {h : α → β} : ∀ {xs : List α}, (∀ x ∈ xs, p x = Option.some (k x)) → (∀ x ∈ xs, k x = true → g x = Option.some (h x)) → lcM (lcF p g) xs = Option.some ((xs.filter k).map h)
  | [], _, _ => rfl
  | x :: xs, hp, hg => by
    have ih := lcM_filterMap (xs := xs) (fun y hy => hp y (List.mem_cons_of_mem _ hy)) (fun y hy => hg y (List.mem_cons_of_mem _ hy))
    show ((lcF p g x).bind fun o => (lcM (lcF p g) xs).bind fun ys => Option.some (o.toList ++ ys)) = _
    rw [ih]
    unfold lcF
    rw [hp x List.mem_cons_self]
    cases hk : k x with
    | true => rw [List.filter_cons_of_pos hk]; simp [hg x List.mem_cons_self hk]
    | false => rw [List.filter_cons_of_neg (by rw [hk]; exact Bool.false_ne_true)]; simp
/-! ### readings -/
theorem atI_of {xs : List α} {i : Int} (h0 : 0 ≤ i) (h1 : i < xs.length) : atI xs i = xs[i.toNat]? := by
  have hl : i.toNat < xs.length := by omega
  have e : ((i.toNat : Nat) : Int) = i := Int.toNat_of_nonneg h0
  rw [← e, atI_nat (List.getElem?_eq_getElem hl)]
  rw [e, List.getElem?_eq_getElem hl]
theorem ok_atI {xs : List α} {i : Int} (h0 : 0 ≤ i) (h1 : i < xs.length) : Ok (atI xs i) (fun v => xs[i.toNat]? = Option.some v) := by
  have hl : i.toNat < xs.length := by omega
  exact ⟨xs[i.toNat], by rw [atI_of h0 h1, List.getElem?_eq_getElem hl], List.getElem?_eq_getElem hl⟩
theorem ok_atI_all {xs : List α} {i : Int} {P : α → Prop} (h0 : 0 ≤ i) (h1 : i < xs.length) (h : ∀ x ∈ xs, P x) : Ok (atI xs i) P := (ok_atI h0 h1).imp fun a ha => h a (List.mem_of_getElem? ha)
theorem ok_chI {xs : List Nat} {i : Int} (h0 : 0 ≤ i) (h1 : i < xs.length) : Ok (chI xs i) (fun v => ∃ c, xs[i.toNat]? = Option.some c ∧ v = [c]) := by
  unfold chI
  exact (ok_atI h0 h1).map fun a ha => ⟨a, ha, rfl⟩
theorem ok_rng {lo hi : Int} (h : rngOk lo hi := by unfold rngOk; omega) : Ok (rngG lo hi) (· = rng lo hi) := ok_gd h rfl
theorem ok_rngD {hi lo : Int} (h : rngOk lo hi) : Ok (rngDG hi lo) (· = rngD hi lo) := ok_gd h rfl
theorem rng_get {lo hi : Int} {i : Nat} {x : Int} (h : (rng lo hi)[i]? = Option.some x) : x = lo + (i : Int) ∧ i < (hi - lo).toNat := by
  unfold rng at h
  rw [List.getElem?_map] at h
  have hl : i < (List.range (hi - lo).toNat).length := by
    by_cases hh : i < (List.range (hi - lo).toNat).length
    · exact hh
    · rw [List.getElem?_eq_none (by omega)] at h; cases h
  rw [List.length_range] at hl
  rw [List.getElem?_range hl] at h
  exact ⟨(Option.some.inj h).symm, hl⟩
theorem ok_cat {a b : List α} (h : a.length + b.length ≤ 1000000) : Ok (catG a b) (· = a ++ b) := ok_gd (by rw [sizeLine_eq]; omega) rfl
theorem ok_app {a : List α} {x : α} (h : a.length < 1000000) : Ok (appG a x) (· = a ++ [x]) := ok_gd (by rw [sizeLine_eq]; omega) rfl
theorem ok_mod {i j : Int} (h : 0 < j) : Ok (modG i j) (· = i % j) := ok_gd h rfl
theorem ok_div {i j : Int} (h : 0 < j) (h2 : j < 1000000) : Ok (divG i j) (· = i / j) := ok_gd ⟨h, by omega⟩ rfl
theorem cut_to {xs : List α} {k : Int} (h : 0 ≤ k) : cut xs none (Option.some k) = xs.take k.toNat := by
  unfold cut
  have e : k = ((k.toNat : Nat) : Int) := (Int.toNat_of_nonneg h).symm
  rw [e, HT.sIx_none, HT.sIx_nat, List.drop_zero, Nat.sub_zero, Int.toNat_natCast]
  by_cases hl : k.toNat ≤ xs.length
  · rw [Nat.min_eq_left hl]
  · rw [Nat.min_eq_right (by omega), List.take_of_length_le (Nat.le_refl _), List.take_of_length_le (by omega)]
theorem cut_from {xs : List α} {k : Int} (h : 0 ≤ k) : cut xs (Option.some k) none = xs.drop k.toNat := by
  unfold cut
  have e : k = ((k.toNat : Nat) : Int) := (Int.toNat_of_nonneg h).symm
  rw [e, HT.sIx_none, HT.sIx_nat, Int.toNat_natCast]
  by_cases hl : k.toNat ≤ xs.length
  · rw [Nat.min_eq_left hl, List.take_of_length_le (by rw [List.length_drop]; exact Nat.le_refl _)]
  · rw [Nat.min_eq_right (by omega), List.drop_of_length_le (Nat.le_refl _), List.drop_of_length_le (by omega), List.take_nil]
theorem cut_both {xs : List α} {i k : Int} (h0 : 0 ≤ i) (h : i ≤ k) : cut xs (Option.some i) (Option.some k) = (xs.drop i.toNat).take (k.toNat - i.toNat) := by
  unfold cut
  have e : k = ((k.toNat : Nat) : Int) := (Int.toNat_of_nonneg (by omega)).symm
  have e' : i = ((i.toNat : Nat) : Int) := (Int.toNat_of_nonneg h0).symm
  rw [e, e', HT.sIx_nat, HT.sIx_nat, Int.toNat_natCast, Int.toNat_natCast]
  by_cases hi : i.toNat ≤ xs.length
  · rw [Nat.min_eq_left hi]
    by_cases hk : k.toNat ≤ xs.length
    · rw [Nat.min_eq_left hk]
    · rw [Nat.min_eq_right (by omega), List.take_of_length_le (by rw [List.length_drop]; exact Nat.le_refl _), List.take_of_length_le (by rw [List.length_drop]; omega)]
  · rw [List.drop_of_length_le (i := min i.toNat xs.length) (by omega), List.drop_of_length_le (by omega), List.take_nil, List.take_nil]
theorem mod_lt {i j : Int} (h : 0 < j) : 0 ≤ i % j ∧ i % j < j := ⟨Int.emod_nonneg _ (by omega), Int.emod_lt_of_pos _ h⟩
end
end M

/-! # borders of strings: plain mathematics -/
namespace SM
/-- the greatest i in 1..n with p, or 0 -/
def top (p : Nat → Bool) : Nat → Nat
  | 0 => 0
  | n + 1 => if p (n + 1) = true then n + 1 else top p n
theorem top_le (p : Nat → Bool) : ∀ n, top p n ≤ n
  | 0 => Nat.le_refl _
  | n + 1 => by
    unfold top
    split
    · exact Nat.le_refl _
    · exact Nat.le_succ_of_le (top_le p n)
theorem top_max (p : Nat → Bool) : ∀ n b, 0 < b → b ≤ n → p b = true → b ≤ top p n
  | 0, b, h0, h1, _ => by omega
  | n + 1, b, h0, h1, hp => by
    unfold top
    split
    · exact h1
    · rename_i h
      by_cases e : b = n + 1
      · subst e; exact absurd hp h
      · exact top_max p n b h0 (by omega) hp
theorem top_ok (p : Nat → Bool) : ∀ n, top p n = 0 ∨ p (top p n) = true
  | 0 => .inl rfl
  | n + 1 => by
    unfold top
    split
    · rename_i h; exact .inr h
    · exact top_ok p n
/-- the prefix of length b is a suffix, and not all -/
def Bord (s : List Nat) (b : Nat) : Prop := b < s.length ∧ s.take b = s.drop (s.length - b)
def lb (s : List Nat) : Nat := top (fun b => decide (s.take b = s.drop (s.length - b))) (s.length - 1)
theorem bord0 {s : List Nat} (h : s ≠ []) : Bord s 0 := by
  refine ⟨List.length_pos_iff.mpr h, ?_⟩
  rw [List.take_zero, Nat.sub_zero, List.drop_of_length_le (Nat.le_refl _)]
theorem lb_bord {s : List Nat} (h : s ≠ []) : Bord s (lb s) := by
  have hp := List.length_pos_iff.mpr h
  rcases top_ok (fun b => decide (s.take b = s.drop (s.length - b))) (s.length - 1) with e | e
  · unfold lb; rw [e]; exact bord0 h
  · refine ⟨?_, of_decide_eq_true e⟩
    have := top_le (fun b => decide (s.take b = s.drop (s.length - b))) (s.length - 1)
    unfold lb
    omega
theorem lb_max {s : List Nat} {b : Nat} (h : Bord s b) : b ≤ lb s := by
  by_cases h0 : b = 0
  · omega
  · exact top_max _ _ b (by omega) (by have := h.1; omega) (decide_eq_true h.2)
theorem lb_eq {s : List Nat} {b : Nat} (h : Bord s b) (hm : ∀ c, Bord s c → c ≤ b) : lb s = b := by
  have hs : s ≠ [] := fun e => by subst e; exact absurd h.1 (by simp)
  exact Nat.le_antisymm (hm _ (lb_bord hs)) (lb_max h)
theorem lb_nil : lb [] = 0 := rfl
theorem lb_lt {s : List Nat} (h : s ≠ []) : lb s < s.length := (lb_bord h).1
/-- sign by sign -/
theorem bord_iff {s : List Nat} {b : Nat} : Bord s b ↔ b < s.length ∧ ∀ i, i < b → s[i]? = s[s.length - b + i]? := by
  constructor
  · rintro ⟨h1, h2⟩
    refine ⟨h1, fun i hi => ?_⟩
    have := congrArg (fun l : List Nat => l[i]?) h2
    simp only [List.getElem?_take, List.getElem?_drop, if_pos hi] at this
    exact this
  · rintro ⟨h1, h2⟩
    refine ⟨h1, List.ext_getElem? fun i => ?_⟩
    rw [List.getElem?_take, List.getElem?_drop]
    by_cases hi : i < b
    · rw [if_pos hi]; exact h2 i hi
    · rw [if_neg hi, List.getElem?_eq_none (by omega)]
theorem take_get {s : List Nat} {n i : Nat} (h : i < n) : (s.take n)[i]? = s[i]? := by rw [List.getElem?_take, if_pos h]
theorem len_take {s : List Nat} {n : Nat} (h : n ≤ s.length) : (s.take n).length = n := by rw [List.length_take]; omega
theorem bord_trans {s : List Nat} {b c : Nat} (h : Bord s b) (k : Bord (s.take b) c) : Bord s c := by
  rw [bord_iff] at h k ⊢
  obtain ⟨h1, h2⟩ := h
  rw [len_take (by omega)] at k
  obtain ⟨k1, k2⟩ := k
  refine ⟨by omega, fun i hi => ?_⟩
  have e1 := k2 i hi
  rw [take_get (by omega), take_get (by omega)] at e1
  have e2 := h2 (b - c + i) (by omega)
  rw [e1, e2]
  congr 1
  omega
theorem bord_sub {s : List Nat} {b c : Nat} (h : Bord s b) (k : Bord s c) (hc : c < b) : Bord (s.take b) c := by
  rw [bord_iff] at h k ⊢
  obtain ⟨h1, h2⟩ := h
  obtain ⟨k1, k2⟩ := k
  rw [len_take (by omega)]
  refine ⟨hc, fun i hi => ?_⟩
  rw [take_get (by omega), take_get (by omega), k2 i hi, h2 (b - c + i) (by omega)]
  congr 1
  omega
theorem bord_snoc {s : List Nat} {b c : Nat} : Bord (s ++ [c]) (b + 1) ↔ Bord s b ∧ s[b]? = some c := by
  rw [bord_iff, bord_iff, List.length_append, List.length_singleton]
  constructor
  · rintro ⟨h1, h2⟩
    have hb : b < s.length := by omega
    refine ⟨⟨hb, fun i hi => ?_⟩, ?_⟩
    · have e := h2 i (by omega)
      rw [List.getElem?_append_left (by omega), show s.length + 1 - (b + 1) + i = s.length - b + i by omega, List.getElem?_append_left (by omega)] at e
      exact e
    · have e := h2 b (by omega)
      rw [List.getElem?_append_left hb, show s.length + 1 - (b + 1) + b = s.length by omega, List.getElem?_append_right (Nat.le_refl _), Nat.sub_self] at e
      exact e
  · rintro ⟨⟨h1, h2⟩, h3⟩
    refine ⟨by omega, fun i hi => ?_⟩
    rw [List.getElem?_append_left (by omega), show s.length + 1 - (b + 1) + i = s.length - b + i by omega]
    by_cases hb : i < b
    · rw [List.getElem?_append_left (by omega)]; exact h2 i hb
    · have : i = b := by omega
      subst this
      rw [show s.length - i + i = s.length by omega, List.getElem?_append_right (Nat.le_refl _), Nat.sub_self]
      exact h3
theorem lb_hit {t : List Nat} {c L : Nat} (h : Bord t L) (hc : t[L]? = some c) (hm : ∀ b, Bord t b → L < b → t[b]? ≠ some c) : lb (t ++ [c]) = L + 1 := by
  refine lb_eq (bord_snoc.mpr ⟨h, hc⟩) fun d hd => ?_
  cases d with
  | zero => omega
  | succ d =>
    obtain ⟨h1, h2⟩ := bord_snoc.mp hd
    by_cases hl : L < d
    · exact absurd h2 (hm d h1 hl)
    · omega
theorem lb_miss {t : List Nat} {c : Nat} (hm : ∀ b, Bord t b → t[b]? ≠ some c) : lb (t ++ [c]) = 0 := by
  refine lb_eq (bord0 (by simp)) fun d hd => ?_
  cases d with
  | zero => omega
  | succ d =>
    obtain ⟨h1, h2⟩ := bord_snoc.mp hd
    exact absurd h2 (hm d h1)
theorem lb_pos {t : List Nat} {c : Nat} (h : lb (t ++ [c]) ≠ 0) : ∃ b, Bord t b ∧ t[b]? = some c ∧ lb (t ++ [c]) = b + 1 := by
  have hb := lb_bord (s := t ++ [c]) (by simp)
  obtain ⟨d, hd⟩ : ∃ d, lb (t ++ [c]) = d + 1 := ⟨lb (t ++ [c]) - 1, by omega⟩
  rw [hd] at hb
  obtain ⟨h1, h2⟩ := bord_snoc.mp hb
  exact ⟨d, h1, h2, hd⟩
/-! ## periods -/
/-- p is a period of s -/
def perB (s : List Nat) (p : Nat) : Bool := decide (s.drop p = s.take (s.length - p))
theorem per_bord {s : List Nat} {p : Nat} (h0 : 0 < p) (h1 : p ≤ s.length) : perB s p = true ↔ Bord s (s.length - p) := by
  unfold perB Bord
  rw [decide_eq_true_eq, show s.length - (s.length - p) = p by omega]
  exact ⟨fun h => ⟨by omega, h.symm⟩, fun h => h.2.symm⟩
theorem per_iff {s : List Nat} {p : Nat} : perB s p = true ↔ ∀ i, i < s.length - p → s[i]? = s[i + p]? := by
  unfold perB
  rw [decide_eq_true_eq]
  constructor
  · intro h i hi
    have := congrArg (fun l : List Nat => l[i]?) h
    simp only [List.getElem?_take, List.getElem?_drop, if_pos hi] at this
    rw [Nat.add_comm i p]; exact this.symm
  · intro h
    refine List.ext_getElem? fun i => ?_
    rw [List.getElem?_take, List.getElem?_drop]
    by_cases hi : i < s.length - p
    · rw [if_pos hi, h i hi, Nat.add_comm]
    · rw [if_neg hi, List.getElem?_eq_none (by omega)]
/-- the least period tells the longest border -/
theorem lb_of_least {s : List Nat} {p : Nat} (h0 : 0 < p) (h1 : p ≤ s.length) (hp : perB s p = true) (hm : ∀ q, 0 < q → q < p → perB s q = false) : lb s = s.length - p := by
  refine lb_eq ((per_bord h0 h1).mp hp) fun d hd => ?_
  have hdl := hd.1
  by_cases h : s.length - p < d
  · have k : perB s (s.length - d) = true := (per_bord (by omega) (by omega)).mpr (by rw [show s.length - (s.length - d) = d by omega]; exact hd)
    rw [hm (s.length - d) (by omega) (by omega)] at k
    cases k
  · omega
/-! ## how many letters may stand behind the borders -/
theorem least_bord {t : List Nat} {c b : Nat} (h : Bord t b) (hc : t[b]? = some c) (hm : ∀ d, Bord t d → d < b → t[d]? ≠ some c) : 2 * b + 1 ≤ t.length := by
  by_cases hl : 2 * b + 1 ≤ t.length
  · exact hl
  · exfalso
    have hb := h.1
    have hk := bord_iff.mp h
    -- p = |t| - b is a period, p ≤ b
    have e := hk.2 (b - (t.length - b)) (by omega)
    rw [show t.length - b + (b - (t.length - b)) = b by omega, hc] at e
    refine hm (b - (t.length - b)) ?_ (by omega) e
    refine bord_iff.mpr ⟨by omega, fun i hi => ?_⟩
    rw [hk.2 i (by omega), hk.2 (t.length - b + i) (by omega)]
    congr 1
    omega
/-- the least of them -/
theorem least_of {p : Nat → Prop} [DecidablePred p] : ∀ n, p n → ∃ m, m ≤ n ∧ p m ∧ ∀ k, k < m → ¬ p k := by
  intro n
  induction n using Nat.strongRecOn with
  | ind n ih =>
    intro h
    by_cases hk : ∃ k, k < n ∧ p k
    · obtain ⟨k, h1, h2⟩ := hk
      obtain ⟨m, h3, h4, h5⟩ := ih k h1 h2
      exact ⟨m, by omega, h4, h5⟩
    · exact ⟨n, Nat.le_refl _, h, fun k hk' hp => hk ⟨k, hk', hp⟩⟩
open Classical in
theorem few_letters : ∀ (n : Nat) (t : List Nat) (cs : List Nat), t.length = n → cs.Nodup → (∀ c ∈ cs, ∃ b, Bord t b ∧ t[b]? = some c) → 2 ^ cs.length ≤ n + 1 := by
  intro n
  induction n using Nat.strongRecOn with
  | ind n ih =>
    intro t cs hn nd h
    -- each letter's least border
    have hq : ∀ c ∈ cs, ∃ q, Bord t q ∧ t[q]? = some c ∧ ∀ d, Bord t d → d < q → t[d]? ≠ some c := fun c hc => by
      obtain ⟨b, h1, h2⟩ := h c hc
      obtain ⟨m, _, ⟨h4, h5⟩, h6⟩ := least_of (p := fun b => Bord t b ∧ t[b]? = some c) b ⟨h1, h2⟩
      exact ⟨m, h4, h5, fun d hd hl e => h6 d hl ⟨hd, e⟩⟩
    -- the letter whose least border is greatest
    have hmax : ∀ ds : List Nat, ds ≠ [] → (∀ c ∈ ds, c ∈ cs) → ∃ c ∈ ds, ∃ q, Bord t q ∧ t[q]? = some c ∧ (∀ d, Bord t d → d < q → t[d]? ≠ some c) ∧ ∀ c' ∈ ds, ∃ q', q' ≤ q ∧ Bord t q' ∧ t[q']? = some c' := by
      intro ds
      induction ds with
      | nil => intro h; exact absurd rfl h
      | cons d ds ih2 =>
        intro _ hs
        obtain ⟨q, h1, h2, h3⟩ := hq d (hs d List.mem_cons_self)
        by_cases hd : ds = []
        · subst hd
          exact ⟨d, List.mem_cons_self, q, h1, h2, h3, fun c' hc' => by
            rcases List.mem_cons.mp hc' with e | e
            · subst e; exact ⟨q, Nat.le_refl _, h1, h2⟩
            · cases e⟩
        · obtain ⟨c, hc, r, k1, k2, k3, k4⟩ := ih2 hd fun c hc => hs c (List.mem_cons_of_mem _ hc)
          by_cases hqr : q ≤ r
          · exact ⟨c, List.mem_cons_of_mem _ hc, r, k1, k2, k3, fun c' hc' => by
              rcases List.mem_cons.mp hc' with e | e
              · subst e; exact ⟨q, hqr, h1, h2⟩
              · exact k4 c' e⟩
          · exact ⟨d, List.mem_cons_self, q, h1, h2, h3, fun c' hc' => by
              rcases List.mem_cons.mp hc' with e | e
              · subst e; exact ⟨q, Nat.le_refl _, h1, h2⟩
              · obtain ⟨q', m1, m2, m3⟩ := k4 c' e
                exact ⟨q', by omega, m2, m3⟩⟩
    by_cases hcs : cs = []
    · subst hcs; simp
    · obtain ⟨c, hc, q, h1, h2, h3, h4⟩ := hmax cs hcs fun c hc => hc
      have hl := least_bord h1 h2 h3
      have hqn : q < n := by rw [← hn]; exact h1.1
      have := ih q hqn (t.take q) (cs.erase c) (len_take (by have := h1.1; omega)) (nd.erase c) (fun c' hc' => by
        have hne : c' ≠ c := fun e => by subst e; exact (List.Nodup.not_mem_erase nd) hc'
        obtain ⟨q', m1, m2, m3⟩ := h4 c' (List.mem_of_mem_erase hc')
        have hq' : q' < q := by
          rcases Nat.lt_or_eq_of_le m1 with e | e
          · exact e
          · subst e
            rw [h2] at m3
            exact absurd (Option.some.inj m3).symm hne
        refine ⟨q', bord_sub h1 m2 hq', ?_⟩
        rw [take_get hq']; exact m3)
      rw [List.length_erase_of_mem hc] at this
      have hpos : 0 < cs.length := List.length_pos_iff.mpr hcs
      rw [show cs.length = cs.length - 1 + 1 by omega, Nat.pow_succ]
      omega
end SM

/-! written by gen.py -/
namespace K72
open PySem PySem.Spec L2 M

def topS (i : Nat) : Stmt := PySem.Challenge.pw_wordmoot_k72_whole_periods_and_border_ro.main.body.getD i (.Pass ⟨0, 0, 0, 0⟩)

def c_LETTERS : List Nat := [97, 98, 99, 100, 101, 102, 103, 104, 105, 106, 107, 108, 109, 110, 111, 112, 113, 114, 115, 116, 117, 118, 119, 120, 121, 122]
theorem ok_LETTERS : StrOk c_LETTERS := ⟨Nat.le_of_lt (small1000 (by decide)), by decide⟩

abbrev n_periods_of : List Str := ["text", "p"]
abbrev s_periods_of : Stmt := topS 2
theorem sc_periods_of : FnScope n_periods_of ["text"] (defScope s_periods_of) := ⟨rfl, rfl, rfl, by decide +kernel, rfl, by decide +kernel, by decide +kernel⟩

abbrev n_borders_of : List Str := ["text", "at"]
abbrev s_borders_of : Stmt := topS 3
theorem sc_borders_of : FnScope n_borders_of ["text"] (defScope s_borders_of) := ⟨rfl, rfl, rfl, by decide +kernel, rfl, by decide +kernel, by decide +kernel⟩

abbrev n_border_row : List Str := ["text", "row", "at", "letter", "length"]
abbrev s_border_row : Stmt := topS 4
theorem sc_border_row : FnScope n_border_row ["text"] (defScope s_border_row) := ⟨rfl, rfl, rfl, by decide +kernel, rfl, by decide +kernel, by decide +kernel⟩

abbrev n_next_lengths : List Str := ["text", "row", "found", "length", "letter"]
abbrev s_next_lengths : Stmt := topS 5
theorem sc_next_lengths : FnScope n_next_lengths ["text", "row"] (defScope s_next_lengths) := ⟨rfl, rfl, rfl, by decide +kernel, rfl, by decide +kernel, by decide +kernel⟩

abbrev n_letter_for : List Str := ["text", "row", "length", "found", "letter"]
abbrev s_letter_for : Stmt := topS 6
theorem sc_letter_for : FnScope n_letter_for ["text", "row", "length"] (defScope s_letter_for) := ⟨rfl, rfl, rfl, by decide +kernel, rfl, by decide +kernel, by decide +kernel⟩

abbrev n_spelled_so_far : List Str := ["row", "text", "length", "letter"]
abbrev s_spelled_so_far : Stmt := topS 7
theorem sc_spelled_so_far : FnScope n_spelled_so_far ["row"] (defScope s_spelled_so_far) := ⟨rfl, rfl, rfl, by decide +kernel, rfl, by decide +kernel, by decide +kernel⟩

abbrev n_told_spelling : List Str := ["row", "text"]
abbrev s_told_spelling : Stmt := topS 8
theorem sc_told_spelling : FnScope n_told_spelling ["row"] (defScope s_told_spelling) := ⟨rfl, rfl, rfl, by decide +kernel, rfl, by decide +kernel, by decide +kernel⟩

abbrev n_first_fault : List Str := ["row", "text"]
abbrev s_first_fault : Stmt := topS 9
theorem sc_first_fault : FnScope n_first_fault ["row"] (defScope s_first_fault) := ⟨rfl, rfl, rfl, by decide +kernel, rfl, by decide +kernel, by decide +kernel⟩

abbrev n_law_cell : List Str := ["script", "k"]
abbrev s_law_cell : Stmt := topS 11
theorem sc_law_cell : FnScope n_law_cell ["script", "k"] (defScope s_law_cell) := ⟨rfl, rfl, rfl, by decide +kernel, rfl, by decide +kernel, by decide +kernel⟩

abbrev n_law_draws : List Str := ["cell", "count", "rest", "digits", "seed", "draws", "k", "mixed"]
abbrev s_law_draws : Stmt := topS 12
theorem sc_law_draws : FnScope n_law_draws ["cell", "count"] (defScope s_law_draws) := ⟨rfl, rfl, rfl, by decide +kernel, rfl, by decide +kernel, by decide +kernel⟩

abbrev n_law_is_integer : List Str := ["value"]
abbrev s_law_is_integer : Stmt := topS 13
theorem sc_law_is_integer : FnScope n_law_is_integer ["value"] (defScope s_law_is_integer) := ⟨rfl, rfl, rfl, by decide +kernel, rfl, by decide +kernel, by decide +kernel⟩

abbrev n_law_is : List Str := ["value", "due", "at"]
abbrev s_law_is : Stmt := topS 14
theorem sc_law_is : FnScope n_law_is ["value", "due"] (defScope s_law_is) := ⟨rfl, rfl, rfl, by decide +kernel, rfl, by decide +kernel, by decide +kernel⟩

abbrev n_law_bent : List Str := ["row", "draws", "most", "way", "at", "odd"]
abbrev s_law_bent : Stmt := topS 15
theorem sc_law_bent : FnScope n_law_bent ["row", "draws", "most"] (defScope s_law_bent) := ⟨rfl, rfl, rfl, by decide +kernel, rfl, by decide +kernel, by decide +kernel⟩

abbrev n_law_text : List Str := ["draws", "length", "letters", "way", "size", "text", "at", "k"]
abbrev s_law_text : Stmt := topS 16
theorem sc_law_text : FnScope n_law_text ["draws", "length", "letters"] (defScope s_law_text) := ⟨rfl, rfl, rfl, by decide +kernel, rfl, by decide +kernel, by decide +kernel⟩

abbrev n_law_periods : List Str := ["text", "found", "p", "at"]
abbrev s_law_periods : Stmt := topS 17
theorem sc_law_periods : FnScope n_law_periods ["text"] (defScope s_law_periods) := ⟨rfl, rfl, rfl, by decide +kernel, rfl, by decide +kernel, by decide +kernel⟩

abbrev n_law_border_row : List Str := ["text", "row", "at", "spans"]
abbrev s_law_border_row : Stmt := topS 18
theorem sc_law_border_row : FnScope n_law_border_row ["text"] (defScope s_law_border_row) := ⟨rfl, rfl, rfl, by decide +kernel, rfl, by decide +kernel, by decide +kernel⟩

abbrev n_law_last : List Str := ["text", "length"]
abbrev s_law_last : Stmt := topS 19
theorem sc_law_last : FnScope n_law_last ["text"] (defScope s_law_last) := ⟨rfl, rfl, rfl, by decide +kernel, rfl, by decide +kernel, by decide +kernel⟩

abbrev n_law_spelled : List Str := ["row", "text", "length", "good", "letter"]
abbrev s_law_spelled : Stmt := topS 20
theorem sc_law_spelled : FnScope n_law_spelled ["row"] (defScope s_law_spelled) := ⟨rfl, rfl, rfl, by decide +kernel, rfl, by decide +kernel, by decide +kernel⟩

abbrev n_law_right : List Str := ["text", "due", "p"]
abbrev s_law_right : Stmt := topS 21
theorem sc_law_right : FnScope n_law_right ["text"] (defScope s_law_right) := ⟨rfl, rfl, rfl, by decide +kernel, rfl, by decide +kernel, by decide +kernel⟩

abbrev n_law_row_right : List Str := ["row", "own", "fine"]
abbrev s_law_row_right : Stmt := topS 22
theorem sc_law_row_right : FnScope n_law_row_right ["row"] (defScope s_law_row_right) := ⟨rfl, rfl, rfl, by decide +kernel, rfl, by decide +kernel, by decide +kernel⟩

abbrev n_law : List Str := ["script", "k", "long", "draws", "part", "length", "text", "row", "rows", "turn", "at", "one", "draw", "number"]
abbrev s_law : Stmt := topS 23
theorem sc_law : FnScope n_law ["script"] (defScope s_law) := ⟨rfl, rfl, rfl, by decide +kernel, rfl, by decide +kernel, by decide +kernel⟩

noncomputable def f_periods_of (text : List Nat) : Option (List (Int)) :=
((((rngG (1 : Int) (((text).length : Int) + (1 : Int)))).bind fun xs2 => some (((xs2).filter (fun (v1 : Int) => (decide ((cut text (some v1) none) = (cut text none (some (((text).length : Int) - v1))))))).map (fun (v1 : Int) => v1)))).bind fun b3 => some (b3)

noncomputable def f_borders_of (text : List Nat) : Option (List (List Nat)) :=
((((rngG 0 ((text).length : Int))).bind fun xs5 => some (((xs5).filter (fun (v4 : Int) => (List.isSuffixOf (cut text none (some v4)) text))).map (fun (v4 : Int) => (cut text none (some v4)))))).bind fun b6 => some (b6)

noncomputable def f_border_row (text : List Nat) : Option (List (Int)) :=
let row_7 : List (Int) := ([] : List (Int))
(forN (fun (e9 : (List (Int))) (v11 : (Int) × (List Nat)) => (let row_10 := e9
let at__12 := v11.1
let letter_13 := v11.2
((if (decide ((0 : Int) < at__12)) = true then (atI row_10 (at__12 - (1 : Int))) else some ((0 : Int)))).bind fun length_14 => ((whileN (fun (e16 : (Int)) => (let length_17 := e16
(if (decide ((0 : Int) < at__12)) = true then (if (decide ((0 : Int) < length_17)) = true then (((chI text length_17)).bind fun b18 => some ((!decide (b18 = letter_13)))) else some false) else some false))) (fun (e16 : (Int)) => (let length_17 := e16
((atI row_10 (length_17 - (1 : Int)))).bind fun length_19 => (some (length_19)))) length_14).bind fun e20 => (let length_21 := e20
((((if (decide ((0 : Int) < at__12)) = true then (((chI text length_21)).bind fun b22 => some ((decide (b22 = letter_13)))) else some false)).bind fun k28 => if k28 = true then (let length_25 : Int := (length_21 + (1 : Int))
some (length_25)) else (some (length_21)))).bind fun e26 => (let length_27 := e26
(appG row_10 length_27).bind fun row_29 => (some (row_29))))))) ((enumI (chars text))) row_7).bind fun e30 => (let row_31 := e30
some (row_31))

noncomputable def f_next_lengths (text : List Nat) (row : List (Int)) : Option (List ((List Nat) × (Int))) :=
let found_32 : List ((List Nat) × (Int)) := ([] : List ((List Nat) × (Int)))
(if (decide (text = ([] : List Nat))) = true then (some (found_32)) else (((atI row (((text).length : Int) - (1 : Int)))).bind fun length_33 => (thenR (whileO (ρ := List ((List Nat) × (Int))) (fun (e35 : (List ((List Nat) × (Int))) × (Int)) => (let found_36 := e35.1
let length_37 := e35.2
some (true))) (fun (e35 : (List ((List Nat) × (Int))) × (Int)) => (let found_36 := e35.1
let length_37 := e35.2
((chI text length_37)).bind fun letter_38 => (((if (!(dget found_36 letter_38).isSome) = true then ((putG found_36 letter_38 (length_37 + (1 : Int))).bind fun found_41 => (some (found_41))) else (some (found_36)))).bind fun e42 => (let found_43 := e42
(if (decide (length_37 = (0 : Int))) = true then ((some (found_43)).map Fl.rt) else (((atI row (length_37 - (1 : Int)))).bind fun length_44 => (some (Fl.nx ((found_43, length_44)))))))))) (found_32, length_33)) fun (e45 : (List ((List Nat) × (Int))) × (Int)) => none)))

noncomputable def f_letter_for (text : List Nat) (row : List (Int)) (length : Int) : Option (Option (List Nat)) :=
((f_next_lengths (text) (row))).bind fun found_48 => (thenR (forF (ρ := Option (List Nat)) (fun (e50 : Unit) (v51 : List Nat) => (let letter_52 := v51
(if (decide (((dget found_48 letter_52).getD (0 : Int)) = length)) = true then ((some (some (letter_52))).map Fl.rt) else (some (Fl.nx (())))))) ((chars c_LETTERS)) ()) fun (e53 : Unit) => (some (none)))

noncomputable def f_spelled_so_far (row : List (Int)) : Option (List Nat) :=
let text_54 : List Nat := ([] : List Nat)
thenR (forF (ρ := List Nat) (fun (e56 : (List Nat)) (v58 : Int) => (let text_57 := e56
let length_59 := v58
((f_letter_for (text_57) (row) (length_59))).bind fun letter_60 => ((if (letter_60).isNone = true then ((some (text_57)).map Fl.rt) else ((((letter_60)).bind fun b62 => catG text_57 b62).bind fun text_61 => (some (Fl.nx (text_61)))))))) (row) text_54) fun (e63 : (List Nat)) => (let text_64 := e63
some (text_64))

noncomputable def f_told_spelling (row : List (Int)) : Option (Option (List Nat)) :=
((f_spelled_so_far (row))).bind fun text_65 => (some ((if (decide (((text_65).length : Int) = ((row).length : Int))) = true then some (text_65) else none)))

noncomputable def f_first_fault (row : List (Int)) : Option (Option (Int)) :=
((f_spelled_so_far (row))).bind fun text_66 => (some ((if (decide (((text_66).length : Int) = ((row).length : Int))) = true then none else some (((text_66).length : Int)))))

noncomputable def f_law_cell (script : List (Int)) (k : Int) : Option (Int) :=
(if (decide (k < ((script).length : Int))) = true then ((atI script k)) else (some (((5 * k) + (3 : Int)))))

noncomputable def f_law_draws (cell : Int) (count : Int) : Option (List (Int)) :=
let rest_67 : Int := (if cell < 0 then -cell else cell)
let digits_68 : Bool := (decide ((1000000000000000000 : Int) ≤ rest_67))
let seed_69 : Int := rest_67
let draws_70 : List (Int) := ([] : List (Int))
(((rngG 0 count)).bind fun xs103 => forN (fun (e72 : (Int) × (List (Int))) (v75 : Int) => (let rest_73 := e72.1
let draws_74 := e72.2
let k_76 := v75
((if (digits_68 && (decide ((0 : Int) < rest_73))) = true then ((appG draws_74 (rest_73 % 5040)).bind fun draws_89 => (let rest_90 : Int := (rest_73 / 5040)
some ((rest_90, draws_89)))) else (let mixed_91 : Int := ((((seed_69 * 48271) + ((k_76 + (1 : Int)) * 69621)) + (11 : Int)) % 2147483647)
(((((((mulG mixed_91 mixed_91)).bind fun b96 => some ((b96 + (40692 * (k_76 + (3 : Int))))))).bind fun b97 => some (b97))).bind fun b98 => some ((b98 % 2147483399))).bind fun mixed_92 => ((appG draws_74 ((mixed_92 / 64) % 5040)).bind fun draws_99 => (some ((rest_73, draws_99))))))).bind fun e100 => (let rest_101 := e100.1
let draws_102 := e100.2
some ((rest_101, draws_102))))) xs103 (rest_67, draws_70)).bind fun e104 => (let rest_105 := e104.1
let draws_106 := e104.2
some (draws_106))

noncomputable def f_law_is_integer (value : PyData) : Option (Bool) :=
some (((isTy "int" value) && (!(isTy "bool" value))))

noncomputable def f_law_is_step (isG : Nat → PyData → PyData → Option Bool) (value : PyData) (due : PyData) : Option (Bool) :=
(if (isNonD due) = true then (some ((isNonD value))) else ((if (isTy "bool" due) = true then (some (((isTy "bool" value) && (PyData.eqv value due)))) else ((if (isTy "int" due) = true then ((((f_law_is_integer (value))).bind fun k107 => if k107 = true then some ((PyData.eqv value due)) else some false)) else ((if (isTy "str" due) = true then (some (((isTy "str" value) && (PyData.eqv value due)))) else ((((if (!(isTy "tuple" value)) = true then some true else (((lenD value)).bind fun b108 => ((lenD due)).bind fun b109 => some ((!decide (b108 = b109)))))).bind fun k116 => if k116 = true then (some (false)) else (((((((lenD due)).bind fun b110 => rngG 0 b110)).bind fun xs114 => mapO (fun (v111 : Int) => ((((ixD value v111)).bind fun b112 => ((ixD due v111)).bind fun b113 => some ((b112, b113))).bind fun t => isG 0 t.1 t.2)) xs114)).bind fun b115 => some (((b115).all id))))))))))))

noncomputable def f_law_bent (row : List (Int)) (draws : List (Int)) (most : Int) : Option (List (Int)) :=
(((((atI draws (0 : Int))).bind fun b120 => some (b120))).bind fun b121 => some ((b121 % 6))).bind fun way_117 => (((((((atI draws (1 : Int))).bind fun b125 => some (b125))).bind fun b126 => modG b126 (((row).length : Int) + (1 : Int)))).bind fun at__122 => (((((((((((((atI draws (2 : Int))).bind fun b152 => some (b152))).bind fun b153 => modG b153 (most + (3 : Int)))).bind fun b154 => some ((b154 - (1 : Int))))).bind fun b155 => some ((b155 :: [(100000000000000000000 : Int), ((0 : Int) - (1 : Int))])))).bind fun b160 => (((((((atI draws (2 : Int))).bind fun b156 => some (b156))).bind fun b157 => some ((b157 / 60))).bind fun b158 => some ((b158 % 14))).bind fun b159 => some ((b159 / 6))).bind fun b161 => atI b160 b161)).bind fun odd_127 => ((if (decide (way_117 = (0 : Int))) = true then ((catG (cut row none (some at__122)) (cut row (some (at__122 + (1 : Int))) none))) else ((if (decide (way_117 = (1 : Int))) = true then ((((catG (cut row none (some at__122)) ([odd_127] : List (Int)))).bind fun b162 => catG b162 (cut row (some at__122) none))) else ((if (decide (way_117 < (4 : Int))) = true then ((((catG (cut row none (some at__122)) ([odd_127] : List (Int)))).bind fun b163 => catG b163 (cut row (some (at__122 + (1 : Int))) none))) else ((if (decide (way_117 = (4 : Int))) = true then some ((row).reverse) else (catG (cut row none (some at__122)) (cut row (some (if (at__122 - (1 : Int)) > (0 : Int) then (at__122 - (1 : Int)) else (0 : Int))) none))))))))))))

noncomputable def f_law_text (draws : List (Int)) (length : Int) (letters : List Nat) : Option (List Nat) :=
(((((atI draws (0 : Int))).bind fun b167 => some (b167))).bind fun b168 => some ((b168 % 4))).bind fun way_164 => ((((((((atI draws (1 : Int))).bind fun b173 => some (b173))).bind fun b174 => some ((b174 % 5))).bind fun b175 => some (((1 : Int) + b175)))).bind fun size_169 => (let text_176 : List Nat := ([] : List Nat)
(((rngG 0 length)).bind fun xs198 => forN (fun (e178 : (List Nat)) (v180 : Int) => (let text_179 := e178
let at__181 := v180
((if (decide (way_164 = (0 : Int))) = true then some (at__181) else (modG at__181 size_169))).bind fun k_182 => ((((((((((((((((modG k_182 (((draws).length : Int) - (2 : Int)))).bind fun b191 => some (((2 : Int) + b191)))).bind fun b192 => atI draws b192)).bind fun b193 => some (b193))).bind fun b194 => some ((b194 / 5))).bind fun b195 => modG b195 ((letters).length : Int))).bind fun b196 => chI letters b196)).bind fun b197 => catG text_179 b197)).bind fun text_183 => (some (text_183))))) xs198 text_176).bind fun e199 => (let text_200 := e199
((if ((decide (way_164 = (2 : Int))) && (decide ((0 : Int) < length))) = true then ((((((((atI draws (1 : Int))).bind fun b226 => some (b226))).bind fun b227 => some ((b227 / 7))).bind fun b228 => modG b228 length)).bind fun at__222 => ((((((((((((((atI draws (0 : Int))).bind fun b236 => some (b236))).bind fun b237 => some ((b237 / 9))).bind fun b238 => modG b238 ((letters).length : Int))).bind fun b239 => chI letters b239)).bind fun b240 => catG (cut text_200 none (some at__222)) b240)).bind fun b241 => catG b241 (cut text_200 (some (at__222 + (1 : Int))) none))).bind fun text_229 => (some (text_229)))) else (some (text_200)))).bind fun e242 => (let text_243 := e242
some (text_243)))))

noncomputable def f_law_periods (text : List Nat) : Option (List (Int)) :=
let found_244 : List (Int) := ([] : List (Int))
(((rngG (1 : Int) (((text).length : Int) + (1 : Int)))).bind fun xs261 => forN (fun (e246 : (List (Int))) (v248 : Int) => (let found_247 := e246
let p_249 := v248
(((((((rngG 0 (((text).length : Int) - p_249))).bind fun xs253 => mapO (fun (v250 : Int) => (((chI text v250)).bind fun b251 => ((chI text (v250 + p_249))).bind fun b252 => some ((decide (b251 = b252))))) xs253)).bind fun b254 => some (((b254).all id))).bind fun k260 => if k260 = true then ((appG found_247 p_249).bind fun found_257 => (some (found_257))) else (some (found_247)))).bind fun e258 => (let found_259 := e258
some (found_259)))) xs261 found_244).bind fun e262 => (let found_263 := e262
some (found_263))

noncomputable def f_law_border_row (text : List Nat) : Option (List (Int)) :=
let row_264 : List (Int) := ([] : List (Int))
(((rngG 0 ((text).length : Int))).bind fun xs274 => forN (fun (e266 : (List (Int))) (v268 : Int) => (let row_267 := e266
let at__269 := v268
((f_law_periods ((cut text none (some (at__269 + (1 : Int))))))).bind fun spans_270 => ((((((atI spans_270 (0 : Int))).bind fun b272 => some (((at__269 + (1 : Int)) - b272)))).bind fun b273 => appG row_267 b273).bind fun row_271 => (some (row_271))))) xs274 row_264).bind fun e275 => (let row_276 := e275
some (row_276))

noncomputable def f_law_last (text : List Nat) : Option (Int) :=
thenR (((rngDG (((text).length : Int) - (1 : Int)) (0 : Int))).bind fun xs281 => forF (ρ := Int) (fun (e278 : Unit) (v279 : Int) => (let length_280 := v279
(if (decide ((cut text none (some length_280)) = (cut text (some (((text).length : Int) - length_280)) none))) = true then ((some (length_280)).map Fl.rt) else (some (Fl.nx (())))))) xs281 ()) fun (e282 : Unit) => (some ((0 : Int)))

noncomputable def f_law_spelled (row : List (Int)) : Option (List Nat) :=
let text_283 : List Nat := ([] : List Nat)
thenR (forF (ρ := List Nat) (fun (e285 : (List Nat)) (v287 : Int) => (let text_286 := e285
let length_288 := v287
((lcM (lcF (fun (v292 : List Nat) => (((((catG text_286 v292)).bind fun t => f_law_last (t))).bind fun b293 => some ((decide (b293 = length_288))))) (fun (v292 : List Nat) => some (v292))) (chars ([97, 98, 99, 100, 101, 102] : List Nat)))).bind fun good_289 => ((if (decide (((good_289).length : Int) = (0 : Int))) = true then ((some (text_286)).map Fl.rt) else (((((atI good_289 (0 : Int))).bind fun b296 => catG text_286 b296)).bind fun text_294 => (some (Fl.nx (text_294)))))))) (row) text_283) fun (e297 : (List Nat)) => (let text_298 := e297
some (text_298))

noncomputable def f_law_right (text : List Nat) : Option (Bool) :=
((f_law_periods (text))).bind fun due_299 => (((((((((f_periods_of (text))).bind fun b300 => some (((fun a => PyData.tuple (a.map PyData.int)) (b300)))).bind fun b301 => some ((b301, ((fun a => PyData.tuple (a.map PyData.int)) (due_299))))).bind fun t => isG 8 t.1 t.2)).bind fun b302 => some ((!b302))).bind fun k312 => if k312 = true then (some (false)) else (((((((((f_borders_of (text))).bind fun b303 => some (((fun a => PyData.tuple (a.map (fun a => PyData.str (tx a)))) (b303)))).bind fun b305 => some ((b305, ((fun a => PyData.tuple (a.map (fun a => PyData.str (tx a)))) ((((due_299).reverse).map (fun (v304 : Int) => (cut text none (some (((text).length : Int) - v304)))))))))).bind fun t => isG 8 t.1 t.2)).bind fun b306 => some ((!b306))).bind fun k311 => if k311 = true then (some (false)) else ((((((f_border_row (text))).bind fun b307 => some (((fun a => PyData.tuple (a.map PyData.int)) (b307)))).bind fun b309 => (((f_law_border_row (text))).bind fun b308 => some (((fun a => PyData.tuple (a.map PyData.int)) (b308)))).bind fun b310 => some ((b309, b310))).bind fun t => isG 8 t.1 t.2))))))

noncomputable def f_law_row_right (row : List (Int)) : Option (Bool) :=
((f_law_spelled (row))).bind fun own_313 => (let fine_314 : Bool := (decide (((own_313).length : Int) = ((row).length : Int)))
(((if fine_314 = true then (((f_law_border_row (own_313))).bind fun b315 => some ((!decide (b315 = row)))) else some false)).bind fun k322 => if k322 = true then (some (false)) else (((((((((f_told_spelling (row))).bind fun b316 => some (((optD (fun a => PyData.str (tx a))) (b316)))).bind fun b317 => some ((b317, (if fine_314 = true then ((fun a => PyData.str (tx a)) (own_313)) else ((fun _ => PyData.none) (())))))).bind fun t => isG 8 t.1 t.2)).bind fun b318 => some ((!b318))).bind fun k321 => if k321 = true then (some (false)) else ((((((f_first_fault (row))).bind fun b319 => some (((optD PyData.int) (b319)))).bind fun b320 => some ((b320, (if fine_314 = true then ((fun _ => PyData.none) (())) else (PyData.int (((own_313).length : Int))))))).bind fun t => isG 8 t.1 t.2))))))

noncomputable def f_law (script : List (Int)) : Option (Bool) :=
thenR (((rngG 0 (3 : Int))).bind fun xs413 => forF (ρ := Bool) (fun (e324 : Unit) (v325 : Int) => (let k_326 := v325
(((((f_law_cell (script) ((2 * k_326)))).bind fun b329 => some ((b329, (20 : Int)))).bind fun t => f_law_draws (t.1) (t.2))).bind fun draws_327 => ((((((f_law_cell (script) (((2 * k_326) + (1 : Int))))).bind fun b332 => some ((b332, (24 : Int)))).bind fun t => f_law_draws (t.1) (t.2))).bind fun part_330 => ((((((((atI draws_327 (0 : Int))).bind fun b337 => some (b337))).bind fun b338 => some ((b338 % 8))).bind fun b339 => atI ([(9 : Int), (16 : Int), (5 : Int), (12 : Int), (3 : Int), (1 : Int), (0 : Int), (14 : Int)] : List (Int)) b339)).bind fun length_333 => ((((((((((((atI draws_327 (1 : Int))).bind fun b346 => some (b346))).bind fun b347 => some ((b347 % 4))).bind fun b348 => atI ([([97, 98] : List Nat), ([97, 98, 99] : List Nat), ([97] : List Nat), ([120, 121, 122] : List Nat)] : List (List Nat)) b348)).bind fun b349 => some ((length_333, b349))).bind fun b350 => some ((part_330, b350))).bind fun t => f_law_text (t.1) (t.2.1) (t.2.2))).bind fun text_340 => (((((((f_law_right (text_340))).bind fun b351 => some ((!b351))).bind fun k358 => if k358 = true then some true else ((((((((((((atI draws_327 (2 : Int))).bind fun b352 => some (b352))).bind fun b353 => some ((b353 % 7))).bind fun b354 => some ((some b354))).bind fun b355 => some ((cut text_340 none b355)))).bind fun b356 => catG text_340 b356)).bind fun t => f_law_right (t))).bind fun b357 => some ((!b357)))).bind fun k412 => if k412 = true then ((some (false)).map Fl.rt) else (((f_law_border_row (text_340))).bind fun row_359 => ((((((catG row_359 (cut row_359 (some (-(1 : Int))) none))).bind fun b366 => (((catG (cut row_359 none (some (-(1 : Int)))) ([((text_340).length : Int)] : List (Int)))).bind fun b364 => (((catG row_359 ([(0 : Int)] : List (Int)))).bind fun b362 => (((catG ([(0 : Int)] : List (Int)) row_359)).bind fun b361 => some ((b361 :: []))).bind fun b363 => some ((b362 :: b363))).bind fun b365 => some ((b364 :: b365))).bind fun b367 => some ((b366 :: b367))).bind fun b368 => some (((row_359).reverse :: b368))).bind fun b369 => some ((row_359 :: b369))).bind fun rows_360 => ((((rngG 0 (4 : Int))).bind fun xs377 => forN (fun (e371 : (List (List (Int)))) (v373 : Int) => (let rows_372 := e371
let turn_374 := v373
(((f_law_bent (row_359) ((cut draws_327 (some ((3 : Int) + (3 * turn_374))) (some ((6 : Int) + (3 * turn_374))))) (((text_340).length : Int)))).bind fun b376 => appG rows_372 b376).bind fun rows_375 => (some (rows_375)))) xs377 rows_360).bind fun e378 => (let rows_379 := e378
((((((atI draws_327 (15 : Int))).bind fun b383 => some (b383))).bind fun b384 => modG b384 (length_333 + (1 : Int)))).bind fun at__380 => ((((((catG (cut row_359 none (some at__380)) (((cut row_359 (some at__380) (some (at__380 + (1 : Int))))).map (fun (v386 : Int) => (v386 + (1 : Int)))))).bind fun b387 => catG b387 (cut row_359 (some (at__380 + (1 : Int))) none))).bind fun b388 => appG rows_379 b388).bind fun rows_385 => ((((((repG ([(0 : Int)] : List (Int)) (length_333 - at__380))).bind fun b390 => catG (cut row_359 none (some at__380)) b390)).bind fun b391 => appG rows_385 b391).bind fun rows_389 => (((((mapO (fun (v393 : Int) => (modG (v393 / 3) ((1 : Int) + (v393 % 3)))) (cut part_330 none (some length_333)))).bind fun b394 => some (b394)).bind fun b395 => appG rows_389 b395).bind fun rows_392 => (((((((rngG 0 length_333)).bind fun xs402 => mapO (fun (v397 : Int) => ((((((((atI part_330 v397)).bind fun b398 => some (b398))).bind fun b399 => some ((b399 % 9))).bind fun b400 => some ((decide ((0 : Int) < b400))))).bind fun k401 => if k401 = true then some ((v397 / 2)) else some (((0 : Int) - v397)))) xs402)).bind fun b403 => some (b403)).bind fun b404 => appG rows_392 b404).bind fun rows_396 => (thenG (forF (ρ := Bool) (fun (e406 : Unit) (v407 : List (Int)) => (let one_408 := v407
((((f_law_row_right (one_408))).bind fun b409 => some ((!b409))).bind fun k410 => if k410 = true then ((some (false)).map Fl.rt) else (some (Fl.nx (())))))) (rows_396) ()) fun (e411 : Unit) => (some (Fl.nx (()))))))))))))))))))) xs413 ()) fun (e414 : Unit) => ((((((((((f_law_cell (script) ((6 : Int)))).bind fun b420 => some ((b420, (30 : Int)))).bind fun t => f_law_draws (t.1) (t.2))).bind fun xs422 => some ((xs422).map (fun (v421 : Int) => (if (decide ((0 : Int) < (v421 % 4))) = true then ([97] : List Nat) else ([98] : List Nat)))))).bind fun b423 => joinG ([] : List Nat) b423)).bind fun long_415 => (((((((f_law_row_right (([(0 : Int), (0 : Int), (1 : Int), (2 : Int), (0 : Int)] : List (Int))))).bind fun b424 => some ((!b424))).bind fun k428 => if k428 = true then some true else ((((f_law_row_right (([(0 : Int), (0 : Int), (1 : Int), (1 : Int)] : List (Int))))).bind fun b425 => some ((!b425))).bind fun k427 => if k427 = true then some true else ((f_law_row_right (([(1 : Int)] : List (Int))))).bind fun b426 => some ((!b426))))).bind fun k429 => if k429 = true then (some (false)) else ((f_law_right (long_415))))))

section
variable {P : Program} {w : World} {K : PySem.W.Frag} {mg : Str → Option Value} {base : Heap}

theorem ok_periods_of (b : Bt mg) (d : Df K mg "periods_of" s_periods_of ["text"]) : Fn P w K mg base 1 "periods_of" (rOne cStr) (cTup cInt) f_periods_of :=
  fn_df 0 d sc_periods_of fun a cdv A outer s H E hr t => Rb.eq (rb_ret (ex_bitb b_tupL (ExL.b (ExC.l (exl_c1F (c := cInt) (d := cInt) 1 rfl sc_periods_of.nd (ExI.j (i_range2 ex_int (ex_op o_add (ex_bi b_lenS (ea_one (ex_v 0)) b.len) ex_int) b.range)) (blkOk_by (N := n_periods_of) (sc := defScope s_periods_of) (by decide +kernel)) (fun s H C cl fp v1 => by exact (te_cmp o_eqS (ex_slS (ex_v 0) (.yes (ex_v 1)) .no) (ex_slS (ex_v 0) .no (.yes (ex_op o_sub (ex_bi b_lenS (ea_one (ex_v 0)) b.len) (ex_v 1)))))) (fun s H C cl fp v1 => by exact (ex_v 1))))) b.tuple))

theorem ok_borders_of (b : Bt mg) (d : Df K mg "borders_of" s_borders_of ["text"]) : Fn P w K mg base 1 "borders_of" (rOne cStr) (cTup cStr) f_borders_of :=
  fn_df 0 d sc_borders_of fun a cdv A outer s H E hr t => Rb.eq (rb_ret (ex_bitb b_tupL (ExL.b (ExC.l (exl_c1F (c := cInt) (d := cStr) 1 rfl sc_borders_of.nd (ExI.j (i_range1 (ex_bi b_lenS (ea_one (ex_v 0)) b.len) b.range)) (blkOk_by (N := n_borders_of) (sc := defScope s_borders_of) (by decide +kernel)) (fun s H C cl fp v4 => by exact (te_val (ex_sm1 m_endswith PySem.F.slot_str_endswith PySem.F.type_str_endswith (ex_v 0) (ex_slS (ex_v 0) .no (.yes (ex_v 1)))))) (fun s H C cl fp v4 => by exact (ex_slS (ex_v 0) .no (.yes (ex_v 1))))))) b.tuple))

theorem ok_border_row (b : Bt mg) (d : Df K mg "border_row" s_border_row ["text"]) : Fn P w K mg base 1 "border_row" (rOne cStr) (cTup cInt) f_border_row :=
  fn_df 0 d sc_border_row fun a cdv A outer s H E hr t => Rb.eq (rb_cons (ns_setL 1 sc_border_row.nd (exl_disp (c := cInt) el_nil)) fun row_7 => (rb_cons (ns_for (G' := fun (e8 : (List (Int))) => [.val cStr t, .own cInt e8, .any, .any, .any]) (e0 := row_7) (i_enumS (ex_v 0) b.enumerate) (tg_tup (hl := (rlen_cons rlen_one)) rfl (tgs_cons (tg_name 2 sc_border_row.nd) (tgs_one (tg_name 3 sc_border_row.nd)))) rfl (fun e9 v11 => (nb_cons (ns_set 4 sc_border_row.nd (ex_if (te_cmp o_gt (ex_v 2) ex_int) (ex_ixL (exb_v 1) (ex_op o_sub (ex_v 2) ex_int)) ex_int)) fun length_14 => (nb_cons (ns_while (G' := fun (e15 : (Int)) => [.val cStr t, .own cInt e9, .val cInt v11.1, .val cStr v11.2, .val cInt e15]) (e0 := length_14) (fun e16 => (Tw.te (tw_and (te_cmp o_gt (ex_v 2) ex_int) (tw_and (te_cmp o_gt (ex_v 4) ex_int) (tw_and1 (te_cmp o_neS (ex_ixS (ex_v 0) (ex_v 4)) (ex_v 3))))))) (fun e16 => (nb_cons (ns_set 4 sc_border_row.nd (ex_ixL (exb_v 1) (ex_op o_sub (ex_v 4) ex_int))) fun length_19 => (nb_e (length_19) (Wk.same (Wk.same (Wk.same (Wk.same (Wk.same Wk.nil)))))))) (Wk.same (Wk.same (Wk.same (Wk.same (Wk.same Wk.nil))))).len (Wk.same (Wk.same (Wk.same (Wk.same (Wk.same Wk.nil))))).at_) fun e20 => (nb_cons (ns_if (G' := fun (e24 : (Int)) => [.val cStr t, .own cInt e9, .val cInt v11.1, .val cStr v11.2, .val cInt e24]) (Tw.te (tw_and (te_cmp o_gt (ex_v 2) ex_int) (tw_and1 (te_cmp o_eqS (ex_ixS (ex_v 0) (ex_v 4)) (ex_v 3))))) (nb_cons (ns_aug 4 sc_border_row.nd o_iadd ex_int) fun length_25 => (nb_e (length_25) (Wk.same (Wk.same (Wk.same (Wk.same (Wk.same Wk.nil))))))) (nb_e (e20) (Wk.same (Wk.same (Wk.same (Wk.same (Wk.same Wk.nil))))))) fun e26 => (nb_cons (ns_app 1 (ex_v 4)) fun row_29 => (nb_e (row_29) (Wk.same (Wk.same (Wk.any (Wk.any (Wk.any Wk.nil))))))))))) (Wk.same (Wk.same (Wk.any (Wk.any (Wk.any Wk.nil))))).len (Wk.same (Wk.same (Wk.any (Wk.any (Wk.any Wk.nil))))).at_) fun e30 => (rb_fz 1 (rb_ret (ex_bitb b_tupL (Ex.b (ex_v 1)) b.tuple)))))

theorem ok_next_lengths (b : Bt mg) (d : Df K mg "next_lengths" s_next_lengths ["text", "row"]) : Fn P w K mg base 1 "next_lengths" (rCons cStr (rOne (cTup cInt))) (cDic (fun l : List Nat => Sum.inr (tx l)) cInt) (fun t => f_next_lengths t.1 t.2) :=
  fn_df 0 d sc_next_lengths fun a cdv A outer s H E hr t => Rb.eq (rb_cons (ns_setD 2 (fun l : List Nat => Sum.inr (tx l)) cInt sc_next_lengths.nd) fun found_32 => (rb_if (B := []) (te_cmp o_eqS (ex_v 0) (ex_str [])) (rb_retD 2) (rb_cons (ns_set 3 sc_next_lengths.nd (ex_ixT (ex_v 1) (ex_op o_sub (ex_bi b_lenS (ea_one (ex_v 0)) b.len) ex_int))) fun length_33 => (rb_consF (fs_while (d := (cDic (fun l : List Nat => Sum.inr (tx l)) cInt)) (G' := fun (e34 : (List ((List Nat) × (Int))) × (Int)) => [.val cStr t.1, .val (cTup cInt) t.2, .dic (fun l : List Nat => Sum.inr (tx l)) cInt e34.1, .val cInt e34.2, .any]) (e0 := (found_32, length_33)) (fun e35 => (te_val ex_bool)) (fun e35 => (fb_cons (ns_set 4 sc_next_lengths.nd (ex_ixS (ex_v 0) (ex_v 3))) fun letter_38 => (fb_cons (ns_if (G' := fun (e40 : (List ((List Nat) × (Int)))) => [.val cStr t.1, .val (cTup cInt) t.2, .dic (fun l : List Nat => Sum.inr (tx l)) cInt e40, .val cInt e35.2, .val cStr letter_38]) (te_dnin hr.units kc_str (ex_v 4) (exdb_v 2)) (nb_cons (ns_dput 2 hr.units kc_str (ex_v 4) (ex_op o_add (ex_v 3) ex_int)) fun found_41 => (nb_e (found_41) (Wk.same (Wk.same (Wk.same (Wk.same (Wk.same Wk.nil))))))) (nb_e (e35.1) (Wk.same (Wk.same (Wk.same (Wk.same (Wk.same Wk.nil))))))) fun e42 => (fb_ifR (te_cmp o_eqI (ex_v 3) ex_int) (rb_retD 2) (fb_cons (ns_set 3 sc_next_lengths.nd (ex_ixT (ex_v 1) (ex_op o_sub (ex_v 3) ex_int))) fun length_44 => (fb_e ((e42, length_44)) (Wk.same (Wk.same (Wk.same (Wk.same (Wk.any Wk.nil))))))))))) (Wk.same (Wk.same (Wk.same (Wk.same (Wk.any Wk.nil))))).len (Wk.same (Wk.same (Wk.same (Wk.same (Wk.any Wk.nil))))).at_) fun e45 => rb_none))))

theorem ok_letter_for (b : Bt mg) (d : Df K mg "letter_for" s_letter_for ["text", "row", "length"]) (h_LETTERS : ∃ t, mg "LETTERS" = some (.str (tx c_LETTERS) t)) (h_next_lengths : Fn P w K mg base 1 "next_lengths" (rCons cStr (rOne (cTup cInt))) (cDic (fun l : List Nat => Sum.inr (tx l)) cInt) (fun t => f_next_lengths t.1 t.2)) : Fn P w K mg base 2 "letter_for" (rCons cStr (rCons (cTup cInt) (rOne cInt))) (cOpt cStr) (fun t => f_letter_for t.1 t.2.1 t.2.2) :=
  fn_df 1 d sc_letter_for fun a cdv A outer s H E hr t => Rb.eq (rb_cons (ns_set 3 sc_letter_for.nd (ex_call h_next_lengths (hr.mono (by decide)) (ea_cons (ex_v 0) (ea_one (ex_v 1))))) fun found_48 => (rb_consF (fs_for (d := (cOpt cStr)) (G' := fun (e49 : Unit) => [.val cStr t.1, .val (cTup cInt) t.2.1, .val cInt t.2.2, .val (cDic (fun l : List Nat => Sum.inr (tx l)) cInt) found_48, .any]) (e0 := ()) (i_str (ex_gs h_LETTERS ok_LETTERS)) (tg_name 4 sc_letter_for.nd) rfl (fun e50 v51 => (fb_ifR (te_cmp o_eqI (ex_dget2 hr.units kc_str (Ex.db (ex_v 3)) (ex_v 4) ex_int) (ex_v 2)) (rb_ret (Ex.some (n := nn_str) (ex_v 4))) (fb_e (()) (Wk.same (Wk.same (Wk.same (Wk.same (Wk.any Wk.nil)))))))) (Wk.same (Wk.same (Wk.same (Wk.same (Wk.any Wk.nil))))).len (Wk.same (Wk.same (Wk.same (Wk.same (Wk.any Wk.nil))))).at_) fun e53 => (rb_ret ex_nonO)))

theorem ok_spelled_so_far (b : Bt mg) (d : Df K mg "spelled_so_far" s_spelled_so_far ["row"]) (h_letter_for : Fn P w K mg base 2 "letter_for" (rCons cStr (rCons (cTup cInt) (rOne cInt))) (cOpt cStr) (fun t => f_letter_for t.1 t.2.1 t.2.2)) : Fn P w K mg base 3 "spelled_so_far" (rOne (cTup cInt)) cStr f_spelled_so_far :=
  fn_df 2 d sc_spelled_so_far fun a cdv A outer s H E hr t => Rb.eq (rb_cons (ns_set 1 sc_spelled_so_far.nd (ex_str [])) fun text_54 => (rb_consF (fs_for (d := cStr) (G' := fun (e55 : (List Nat)) => [.val (cTup cInt) t, .val cStr e55, .any, .any]) (e0 := text_54) (i_tup (ex_v 0)) (tg_name 2 sc_spelled_so_far.nd) rfl (fun e56 v58 => (fb_cons (ns_set 3 sc_spelled_so_far.nd (ex_call h_letter_for (hr.mono (by decide)) (ea_cons (ex_v 1) (ea_cons (ex_v 0) (ea_one (ex_v 2)))))) fun letter_60 => (fb_ifR (te_isN (ex_v 3)) (rb_ret (ex_v 1)) (fb_cons (ns_aug 1 sc_spelled_so_far.nd o_icatS (Ex.get (ex_v 3))) fun text_61 => (fb_e (text_61) (Wk.same (Wk.same (Wk.any (Wk.any Wk.nil))))))))) (Wk.same (Wk.same (Wk.any (Wk.any Wk.nil)))).len (Wk.same (Wk.same (Wk.any (Wk.any Wk.nil)))).at_) fun e63 => (rb_ret (ex_v 1))))

theorem ok_told_spelling (b : Bt mg) (d : Df K mg "told_spelling" s_told_spelling ["row"]) (h_spelled_so_far : Fn P w K mg base 3 "spelled_so_far" (rOne (cTup cInt)) cStr f_spelled_so_far) : Fn P w K mg base 4 "told_spelling" (rOne (cTup cInt)) (cOpt cStr) f_told_spelling :=
  fn_df 3 d sc_told_spelling fun a cdv A outer s H E hr t => Rb.eq (rb_cons (ns_set 1 sc_told_spelling.nd (ex_call h_spelled_so_far (hr.mono (by decide)) (ea_one (ex_v 0)))) fun text_65 => (rb_ret (ex_ifP (te_cmp o_eqI (ex_bi b_lenS (ea_one (ex_v 1)) b.len) (ex_bi b_lenT (ea_one (ex_v 0)) b.len)) (Ex.some (n := nn_str) (ex_v 1)) ex_nonO)))

theorem ok_first_fault (b : Bt mg) (d : Df K mg "first_fault" s_first_fault ["row"]) (h_spelled_so_far : Fn P w K mg base 3 "spelled_so_far" (rOne (cTup cInt)) cStr f_spelled_so_far) : Fn P w K mg base 4 "first_fault" (rOne (cTup cInt)) (cOpt cInt) f_first_fault :=
  fn_df 3 d sc_first_fault fun a cdv A outer s H E hr t => Rb.eq (rb_cons (ns_set 1 sc_first_fault.nd (ex_call h_spelled_so_far (hr.mono (by decide)) (ea_one (ex_v 0)))) fun text_66 => (rb_ret (ex_ifP (te_cmp o_eqI (ex_bi b_lenS (ea_one (ex_v 1)) b.len) (ex_bi b_lenT (ea_one (ex_v 0)) b.len)) ex_nonO (Ex.some (n := nn_int) (ex_bi b_lenS (ea_one (ex_v 1)) b.len)))))

theorem ok_law_cell (b : Bt mg) (d : Df K mg "_law_cell" s_law_cell ["script", "k"]) : Fn P w K mg base 1 "_law_cell" (rCons (cLst cInt) (rOne cInt)) cInt (fun t => f_law_cell t.1 t.2) :=
  fn_df 0 d sc_law_cell fun a cdv A outer s H E hr t => Rb.eq (rb_if (B := []) (te_cmp o_lt (ex_v 1) (ex_bib b_lenL (Ex.b (ex_v 0)) b.len)) (rb_ret (ex_ixL (Ex.b (ex_v 0)) (ex_v 1))) (rb_ret (ex_op o_add (ex_mulL (ex_v 1)) ex_int)))

theorem ok_law_draws (b : Bt mg) (d : Df K mg "_law_draws" s_law_draws ["cell", "count"]) : Fn P w K mg base 1 "_law_draws" (rCons cInt (rOne cInt)) (cLst cInt) (fun t => f_law_draws t.1 t.2) :=
  fn_df 0 d sc_law_draws fun a cdv A outer s H E hr t => Rb.eq (rb_cons (ns_set 2 sc_law_draws.nd (ex_bi b_abs (ea_one (ex_bt b_int (ea_one (ex_v 0)) b.int)) b.abs)) fun rest_67 => (rb_cons (ns_set 3 sc_law_draws.nd (ex_cmp o_ge (ex_v 2) (ex_powC 1000000000000000000))) fun digits_68 => (rb_cons (ns_set 4 sc_law_draws.nd (ex_v 2)) fun seed_69 => (rb_cons (ns_setL 5 sc_law_draws.nd (exl_disp (c := cInt) el_nil)) fun draws_70 => (rb_cons (ns_for (G' := fun (e71 : (Int) × (List (Int))) => [.val cInt t.1, .val cInt t.2, .val cInt e71.1, .val cBool digits_68, .val cInt seed_69, .own cInt e71.2, .any, .any]) (e0 := (rest_67, draws_70)) (i_range1 (ex_v 1) b.range) (tg_name 6 sc_law_draws.nd) rfl (fun e72 v75 => (nb_cons (ns_if (G' := fun (e88 : (Int) × (List (Int))) => [.val cInt t.1, .val cInt t.2, .val cInt e88.1, .val cBool digits_68, .val cInt seed_69, .own cInt e88.2, .val cInt v75, .any]) (Tw.te (tw_andP (te_val (ex_v 3)) (tw_and1 (te_cmp o_gt (ex_v 2) ex_int)))) (nb_cons (ns_app 5 (ex_modC (ex_bt b_int (ea_one (ex_v 2)) b.int))) fun draws_89 => (nb_cons (ns_set 2 sc_law_draws.nd (ex_divC (ex_v 2))) fun rest_90 => (nb_e ((rest_90, draws_89)) (Wk.same (Wk.same (Wk.same (Wk.same (Wk.same (Wk.same (Wk.same (Wk.any Wk.nil))))))))))) (nb_cons (ns_set 7 sc_law_draws.nd (ex_modC (ex_bt b_int (ea_one (ex_op o_add (ex_op o_add (ex_mulR (ex_v 4)) (ex_mulR (ex_op o_add (ex_v 6) ex_int))) ex_int)) b.int))) fun mixed_91 => (nb_cons (ns_set 7 sc_law_draws.nd (ex_modC (ex_bt b_int (ea_one (ex_op o_add (ex_op o_mul (ex_v 7) (ex_v 7)) (ex_mulL (ex_op o_add (ex_v 6) ex_int)))) b.int))) fun mixed_92 => (nb_cons (ns_app 5 (ex_modC (ex_bt b_int (ea_one (ex_divC (ex_v 7))) b.int))) fun draws_99 => (nb_e ((e72.1, draws_99)) (Wk.same (Wk.same (Wk.same (Wk.same (Wk.same (Wk.same (Wk.same (Wk.any Wk.nil))))))))))))) fun e100 => (nb_e ((e100.1, e100.2)) (Wk.same (Wk.same (Wk.same (Wk.same (Wk.same (Wk.same (Wk.any (Wk.any Wk.nil))))))))))) (Wk.same (Wk.same (Wk.same (Wk.same (Wk.same (Wk.same (Wk.any (Wk.any Wk.nil)))))))).len (Wk.same (Wk.same (Wk.same (Wk.same (Wk.same (Wk.same (Wk.any (Wk.any Wk.nil)))))))).at_) fun e104 => (rb_retO 5))))))

theorem ok_law_is_integer (b : Bt mg) (d : Df K mg "_law_is_integer" s_law_is_integer ["value"]) : Fn P w K mg base 1 "_law_is_integer" (rOne cE) cBool f_law_is_integer :=
  fn_df 0 d sc_law_is_integer fun a cdv A outer s H E hr t => Rb.eq (rb_ret (ex_andP (ed_isi kit_int (ex_v 0) b.isinstance b.int PyProof.Rows.boot_int) (ex_one (ex_not (ed_isi kit_bool (ex_v 0) b.isinstance b.bool (by decide +kernel))))))

theorem ok_law_is (b : Bt mg) (d : Df K mg "_law_is" s_law_is ["value", "due"]) {g : PyData → PyData → Option Bool} {lv : Nat} (h_law_is : Fn P w K mg base (lv + 1) "_law_is" (rCons (cE (K := K)) (rOne cE)) cBool (fun t => g t.1 t.2)) (h_law_is_integer : Fn P w K mg base 1 "_law_is_integer" (rOne cE) cBool f_law_is_integer) : Fn P w K mg base (lv + 1 + 1) "_law_is" (rCons cE (rOne cE)) cBool (fun t => f_law_is_step (fun _ => g) t.1 t.2) :=
  fn_df (lv + 1) d sc_law_is fun a cdv A outer s H E hr t => Rb.eq (rb_if (B := []) (td_isN (ex_v 1)) (rb_ret (ed_isN (ex_v 0))) (rb_if (B := []) (te_val (ed_isi kit_bool (ex_v 1) b.isinstance b.bool (by decide +kernel))) (rb_ret (ex_andP (ed_isi kit_bool (ex_v 0) b.isinstance b.bool (by decide +kernel)) (ex_one (ex_cmp (o_eqE hr.units) (ex_v 0) (ex_v 1))))) (rb_if (B := []) (te_val (ed_isi kit_int (ex_v 1) b.isinstance b.int PyProof.Rows.boot_int)) (rb_ret (ex_and (ex_call h_law_is_integer (hr.mono (by omega)) (ea_one (ex_v 0))) (ex_one (ex_cmp (o_eqE hr.units) (ex_v 0) (ex_v 1))))) (rb_if (B := []) (te_val (ed_isi kit_str (ex_v 1) b.isinstance b.str (by decide +kernel))) (rb_ret (ex_andP (ed_isi kit_str (ex_v 0) b.isinstance b.str (by decide +kernel)) (ex_one (ex_cmp (o_eqE hr.units) (ex_v 0) (ex_v 1))))) (rb_if (B := []) (Tw.te (tw_or (te_not (te_val (ed_isi kit_tuple (ex_v 0) b.isinstance b.tuple PyProof.Rows.boot_tuple))) (tw_or1 (te_cmp o_neI (ex_bi b_lenE (ea_one (ex_v 0)) b.len) (ex_bi b_lenE (ea_one (ex_v 1)) b.len))))) (rb_ret ex_bool) (rb_ret (ex_bib (b_all rfl) (ExL.b (ExC.l (exl_c1 (c := cInt) (d := cBool) 2 rfl sc_law_is.nd (ExI.j (i_range1 (ex_bi b_lenE (ea_one (ex_v 1)) b.len) b.range)) (blkOk_by (N := n_law_is) (sc := defScope s_law_is) (by decide +kernel)) (fun s H C cl fp v111 => by exact ts_no) (fun s H C cl fp v111 => by exact (ex_call h_law_is (hr.mono (by omega)) (ea_cons (ed_ix (ex_v 0) (ex_v 2)) (ea_one (ed_ix (ex_v 1) (ex_v 2))))))))) b.all)))))))

theorem ok_law_bent (b : Bt mg) (d : Df K mg "_law_bent" s_law_bent ["row", "draws", "most"]) : Fn P w K mg base 1 "_law_bent" (rCons (cTup cInt) (rCons (cLst cInt) (rOne cInt))) (cTup cInt) (fun t => f_law_bent t.1 t.2.1 t.2.2) :=
  fn_df 0 d sc_law_bent fun a cdv A outer s H E hr t => Rb.eq (rb_cons (ns_set 3 sc_law_bent.nd (ex_modC (ex_bt b_int (ea_one (ex_ixL (Ex.b (ex_v 1)) ex_int)) b.int))) fun way_117 => (rb_cons (ns_set 4 sc_law_bent.nd (ex_op o_mod (ex_bt b_int (ea_one (ex_ixL (Ex.b (ex_v 1)) ex_int)) b.int) (ex_op o_add (ex_bi b_lenT (ea_one (ex_v 0)) b.len) ex_int))) fun at__122 => (rb_cons (ns_set 5 sc_law_bent.nd (ex_ixT (ex_tupL (c := cInt) (el_cons (ex_op o_sub (ex_op o_mod (ex_bt b_int (ea_one (ex_ixL (Ex.b (ex_v 1)) ex_int)) b.int) (ex_op o_add (ex_v 2) ex_int)) ex_int) (el_cons (ex_powC 100000000000000000000) (el_cons (ex_op o_sub ex_int ex_int) el_nil)))) (ex_divC (ex_modC (ex_divC (ex_bt b_int (ea_one (ex_ixL (Ex.b (ex_v 1)) ex_int)) b.int)))))) fun odd_127 => (rb_if (B := []) (te_cmp o_eqI (ex_v 3) ex_int) (rb_ret (ex_op o_catT (ex_slT (ex_v 0) .no (.yes (ex_v 4))) (ex_slT (ex_v 0) (.yes (ex_op o_add (ex_v 4) ex_int)) .no))) (rb_if (B := []) (te_cmp o_eqI (ex_v 3) ex_int) (rb_ret (ex_op o_catT (ex_op o_catT (ex_slT (ex_v 0) .no (.yes (ex_v 4))) (ex_tupL (c := cInt) (el_cons (ex_v 5) el_nil))) (ex_slT (ex_v 0) (.yes (ex_v 4)) .no))) (rb_if (B := []) (te_cmp o_lt (ex_v 3) ex_int) (rb_ret (ex_op o_catT (ex_op o_catT (ex_slT (ex_v 0) .no (.yes (ex_v 4))) (ex_tupL (c := cInt) (el_cons (ex_v 5) el_nil))) (ex_slT (ex_v 0) (.yes (ex_op o_add (ex_v 4) ex_int)) .no))) (rb_ret (ex_if (te_cmp o_eqI (ex_v 3) ex_int) (ex_revT (ex_v 0)) (ex_op o_catT (ex_slT (ex_v 0) .no (.yes (ex_v 4))) (ex_slT (ex_v 0) (.yes (ex_bi (b_max2 rfl) (ea_cons ex_int (ea_one (ex_op o_sub (ex_v 4) ex_int))) b.max)) .no))))))))))

theorem ok_law_text (b : Bt mg) (d : Df K mg "_law_text" s_law_text ["draws", "length", "letters"]) : Fn P w K mg base 1 "_law_text" (rCons (cLst cInt) (rCons cInt (rOne cStr))) cStr (fun t => f_law_text t.1 t.2.1 t.2.2) :=
  fn_df 0 d sc_law_text fun a cdv A outer s H E hr t => Rb.eq (rb_cons (ns_set 3 sc_law_text.nd (ex_modC (ex_bt b_int (ea_one (ex_ixL (Ex.b (ex_v 0)) ex_int)) b.int))) fun way_164 => (rb_cons (ns_set 4 sc_law_text.nd (ex_op o_add ex_int (ex_modC (ex_bt b_int (ea_one (ex_ixL (Ex.b (ex_v 0)) ex_int)) b.int)))) fun size_169 => (rb_cons (ns_set 5 sc_law_text.nd (ex_str [])) fun text_176 => (rb_cons (ns_for (G' := fun (e177 : (List Nat)) => [.val (cLst cInt) t.1, .val cInt t.2.1, .val cStr t.2.2, .val cInt way_164, .val cInt size_169, .val cStr e177, .any, .any]) (e0 := text_176) (i_range1 (ex_v 1) b.range) (tg_name 6 sc_law_text.nd) rfl (fun e178 v180 => (nb_cons (ns_set 7 sc_law_text.nd (ex_if (te_cmp o_eqI (ex_v 3) ex_int) (ex_v 6) (ex_op o_mod (ex_bt b_int (ea_one (ex_v 6)) b.int) (ex_v 4)))) fun k_182 => (nb_cons (ns_set 5 sc_law_text.nd (ex_op o_catS (ex_v 5) (ex_ixS (ex_v 2) (ex_op o_mod (ex_divC (ex_bt b_int (ea_one (ex_ixL (Ex.b (ex_v 0)) (ex_op o_add ex_int (ex_op o_mod (ex_bt b_int (ea_one (ex_v 7)) b.int) (ex_op o_sub (ex_bib b_lenL (Ex.b (ex_v 0)) b.len) ex_int))))) b.int)) (ex_bi b_lenS (ea_one (ex_v 2)) b.len))))) fun text_183 => (nb_e (text_183) (Wk.same (Wk.same (Wk.same (Wk.same (Wk.same (Wk.same (Wk.any (Wk.any Wk.nil)))))))))))) (Wk.same (Wk.same (Wk.same (Wk.same (Wk.same (Wk.same (Wk.any (Wk.any Wk.nil)))))))).len (Wk.same (Wk.same (Wk.same (Wk.same (Wk.same (Wk.same (Wk.any (Wk.any Wk.nil)))))))).at_) fun e199 => (rb_cons (ns_if (G' := fun (e221 : (List Nat)) => [.val (cLst cInt) t.1, .val cInt t.2.1, .val cStr t.2.2, .val cInt way_164, .val cInt size_169, .val cStr e221, .any, .any]) (Tw.te (tw_andP (te_cmp o_eqI (ex_v 3) ex_int) (tw_and1 (te_cmp o_gt (ex_v 1) ex_int)))) (nb_cons (ns_set 6 sc_law_text.nd (ex_op o_mod (ex_divC (ex_bt b_int (ea_one (ex_ixL (Ex.b (ex_v 0)) ex_int)) b.int)) (ex_v 1))) fun at__222 => (nb_cons (ns_set 5 sc_law_text.nd (ex_op o_catS (ex_op o_catS (ex_slS (ex_v 5) .no (.yes (ex_v 6))) (ex_ixS (ex_v 2) (ex_op o_mod (ex_divC (ex_bt b_int (ea_one (ex_ixL (Ex.b (ex_v 0)) ex_int)) b.int)) (ex_bi b_lenS (ea_one (ex_v 2)) b.len)))) (ex_slS (ex_v 5) (.yes (ex_op o_add (ex_v 6) ex_int)) .no))) fun text_229 => (nb_e (text_229) (Wk.same (Wk.same (Wk.same (Wk.same (Wk.same (Wk.same (Wk.any (Wk.any Wk.nil))))))))))) (nb_e (e199) (Wk.same (Wk.same (Wk.same (Wk.same (Wk.same (Wk.same (Wk.any (Wk.any Wk.nil)))))))))) fun e242 => (rb_ret (ex_v 5)))))))

theorem ok_law_periods (b : Bt mg) (d : Df K mg "_law_periods" s_law_periods ["text"]) : Fn P w K mg base 1 "_law_periods" (rOne cStr) (cTup cInt) f_law_periods :=
  fn_df 0 d sc_law_periods fun a cdv A outer s H E hr t => Rb.eq (rb_cons (ns_setL 1 sc_law_periods.nd (exl_disp (c := cInt) el_nil)) fun found_244 => (rb_cons (ns_for (G' := fun (e245 : (List (Int))) => [.val cStr t, .own cInt e245, .any, .any]) (e0 := found_244) (i_range2 ex_int (ex_op o_add (ex_bi b_lenS (ea_one (ex_v 0)) b.len) ex_int) b.range) (tg_name 2 sc_law_periods.nd) rfl (fun e246 v248 => (nb_cons (ns_if (G' := fun (e256 : (List (Int))) => [.val cStr t, .own cInt e256, .val cInt v248, .any]) (te_val (ex_bib (b_all rfl) (ExL.b (ExC.l (exl_c1 (c := cInt) (d := cBool) 3 rfl sc_law_periods.nd (ExI.j (i_range1 (ex_op o_sub (ex_bi b_lenS (ea_one (ex_v 0)) b.len) (ex_v 2)) b.range)) (blkOk_by (N := n_law_periods) (sc := defScope s_law_periods) (by decide +kernel)) (fun s H C cl fp v250 => by exact ts_no) (fun s H C cl fp v250 => by exact (ex_cmp o_eqS (ex_ixS (ex_v 0) (ex_v 3)) (ex_ixS (ex_v 0) (ex_op o_add (ex_v 3) (ex_v 2)))))))) b.all)) (nb_cons (ns_app 1 (ex_v 2)) fun found_257 => (nb_e (found_257) (Wk.same (Wk.same (Wk.same (Wk.any Wk.nil)))))) (nb_e (e246) (Wk.same (Wk.same (Wk.same (Wk.any Wk.nil)))))) fun e258 => (nb_e (e258) (Wk.same (Wk.same (Wk.any (Wk.any Wk.nil))))))) (Wk.same (Wk.same (Wk.any (Wk.any Wk.nil)))).len (Wk.same (Wk.same (Wk.any (Wk.any Wk.nil)))).at_) fun e262 => (rb_fz 1 (rb_ret (ex_bitb b_tupL (Ex.b (ex_v 1)) b.tuple)))))

theorem ok_law_border_row (b : Bt mg) (d : Df K mg "_law_border_row" s_law_border_row ["text"]) (h_law_periods : Fn P w K mg base 1 "_law_periods" (rOne cStr) (cTup cInt) f_law_periods) : Fn P w K mg base 2 "_law_border_row" (rOne cStr) (cTup cInt) f_law_border_row :=
  fn_df 1 d sc_law_border_row fun a cdv A outer s H E hr t => Rb.eq (rb_cons (ns_setL 1 sc_law_border_row.nd (exl_disp (c := cInt) el_nil)) fun row_264 => (rb_cons (ns_for (G' := fun (e265 : (List (Int))) => [.val cStr t, .own cInt e265, .any, .any]) (e0 := row_264) (i_range1 (ex_bi b_lenS (ea_one (ex_v 0)) b.len) b.range) (tg_name 2 sc_law_border_row.nd) rfl (fun e266 v268 => (nb_cons (ns_set 3 sc_law_border_row.nd (ex_call h_law_periods (hr.mono (by decide)) (ea_one (ex_slS (ex_v 0) .no (.yes (ex_op o_add (ex_v 2) ex_int)))))) fun spans_270 => (nb_cons (ns_app 1 (ex_op o_sub (ex_op o_add (ex_v 2) ex_int) (ex_ixT (ex_v 3) ex_int))) fun row_271 => (nb_e (row_271) (Wk.same (Wk.same (Wk.any (Wk.any Wk.nil)))))))) (Wk.same (Wk.same (Wk.any (Wk.any Wk.nil)))).len (Wk.same (Wk.same (Wk.any (Wk.any Wk.nil)))).at_) fun e275 => (rb_fz 1 (rb_ret (ex_bitb b_tupL (Ex.b (ex_v 1)) b.tuple)))))

theorem ok_law_last (b : Bt mg) (d : Df K mg "_law_last" s_law_last ["text"]) : Fn P w K mg base 1 "_law_last" (rOne cStr) cInt f_law_last :=
  fn_df 0 d sc_law_last fun a cdv A outer s H E hr t => Rb.eq (rb_consF (fs_for (d := cInt) (G' := fun (e277 : Unit) => [.val cStr t, .any]) (e0 := ()) (i_rangeD (ex_op o_sub (ex_bi b_lenS (ea_one (ex_v 0)) b.len) ex_int) ex_int (Ex.eq (ex_op o_sub ex_int ex_int)) b.range) (tg_name 1 sc_law_last.nd) rfl (fun e278 v279 => (fb_ifR (te_cmp o_eqS (ex_slS (ex_v 0) .no (.yes (ex_v 1))) (ex_slS (ex_v 0) (.yes (ex_op o_sub (ex_bi b_lenS (ea_one (ex_v 0)) b.len) (ex_v 1))) .no)) (rb_ret (ex_v 1)) (fb_e (()) (Wk.same (Wk.any Wk.nil))))) (Wk.same (Wk.any Wk.nil)).len (Wk.same (Wk.any Wk.nil)).at_) fun e282 => (rb_ret ex_int))

theorem ok_law_spelled (b : Bt mg) (d : Df K mg "_law_spelled" s_law_spelled ["row"]) (h_law_last : Fn P w K mg base 1 "_law_last" (rOne cStr) cInt f_law_last) : Fn P w K mg base 2 "_law_spelled" (rOne (cTup cInt)) cStr f_law_spelled :=
  fn_df 1 d sc_law_spelled fun a cdv A outer s H E hr t => Rb.eq (rb_cons (ns_set 1 sc_law_spelled.nd (ex_str [])) fun text_283 => (rb_consF (fs_for (d := cStr) (G' := fun (e284 : (List Nat)) => [.val (cTup cInt) t, .val cStr e284, .any, .any, .any]) (e0 := text_283) (i_tup (ex_v 0)) (tg_name 2 sc_law_spelled.nd) rfl (fun e285 v287 => (fb_cons (ns_setC 3 sc_law_spelled.nd (exl_c1 (c := cStr) (d := cStr) 4 rfl sc_law_spelled.nd (ExI.j (i_str (ex_str [97, 98, 99, 100, 101, 102]))) (blkOk_by (N := n_law_spelled) (sc := defScope s_law_spelled) (by decide +kernel)) (fun s H C cl fp v292 => by exact ts_if (te_cmp o_eqI (ex_call h_law_last (hr.mono (by decide)) (ea_one (ex_op o_catS (ex_v 1) (ex_v 4)))) (ex_v 2))) (fun s H C cl fp v292 => by exact (ex_v 4)))) fun good_289 => (fb_fz 3 (fb_ifR (te_cmp o_eqI (ex_bib b_lenL (Ex.b (ex_v 3)) b.len) ex_int) (rb_ret (ex_v 1)) (fb_cons (ns_set 1 sc_law_spelled.nd (ex_op o_catS (ex_v 1) (ex_ixL (Ex.b (ex_v 3)) ex_int))) fun text_294 => (fb_e (text_294) (Wk.same (Wk.same (Wk.any (Wk.any (Wk.any Wk.nil))))))))))) (Wk.same (Wk.same (Wk.any (Wk.any (Wk.any Wk.nil))))).len (Wk.same (Wk.same (Wk.any (Wk.any (Wk.any Wk.nil))))).at_) fun e297 => (rb_ret (ex_v 1))))

theorem ok_law_right (b : Bt mg) (d : Df K mg "_law_right" s_law_right ["text"]) (h_law_border_row : Fn P w K mg base 2 "_law_border_row" (rOne cStr) (cTup cInt) f_law_border_row) (h_law_is : ∀ n, n ≤ 8 → Fn P w K mg base (n + 4) "_law_is" (rCons (cE (K := K)) (rOne cE)) cBool (fun t => isG n t.1 t.2)) (h_law_periods : Fn P w K mg base 1 "_law_periods" (rOne cStr) (cTup cInt) f_law_periods) (h_border_row : Fn P w K mg base 1 "border_row" (rOne cStr) (cTup cInt) f_border_row) (h_borders_of : Fn P w K mg base 1 "borders_of" (rOne cStr) (cTup cStr) f_borders_of) (h_periods_of : Fn P w K mg base 1 "periods_of" (rOne cStr) (cTup cInt) f_periods_of) : Fn P w K mg base 13 "_law_right" (rOne cStr) cBool f_law_right :=
  fn_df 12 d sc_law_right fun a cdv A outer s H E hr t => Rb.eq (rb_cons (ns_set 1 sc_law_right.nd (ex_call h_law_periods (hr.mono (by decide)) (ea_one (ex_v 0)))) fun due_299 => (rb_if (B := []) (te_not (te_val (ex_call (h_law_is 8 (by decide)) (hr.mono (by decide)) (ea_cons (Ex.e (x := (dat_tup dat_int)) (ex_call h_periods_of (hr.mono (by decide)) (ea_one (ex_v 0)))) (ea_one (Ex.e (x := (dat_tup dat_int)) (ex_v 1))))))) (rb_ret ex_bool) (rb_if (B := []) (te_not (te_val (ex_call (h_law_is 8 (by decide)) (hr.mono (by decide)) (ea_cons (Ex.e (x := (dat_tup dat_str)) (ex_call h_borders_of (hr.mono (by decide)) (ea_one (ex_v 0)))) (ea_one (Ex.e (x := (dat_tup dat_str)) (ex_bitb b_tupL (ExL.b (ExC.l (exl_c1P (c := cInt) (d := cStr) 2 rfl sc_law_right.nd (ExI.j (i_tup (ex_revT (ex_v 1)))) (blkOk_by (N := n_law_right) (sc := defScope s_law_right) (by decide +kernel)) (fun s H C cl fp v304 => by exact (ex_slS (ex_v 0) .no (.yes (ex_op o_sub (ex_bi b_lenS (ea_one (ex_v 0)) b.len) (ex_v 2)))))))) b.tuple))))))) (rb_ret ex_bool) (rb_ret (ex_call (h_law_is 8 (by decide)) (hr.mono (by decide)) (ea_cons (Ex.e (x := (dat_tup dat_int)) (ex_call h_border_row (hr.mono (by decide)) (ea_one (ex_v 0)))) (ea_one (Ex.e (x := (dat_tup dat_int)) (ex_call h_law_border_row (hr.mono (by decide)) (ea_one (ex_v 0)))))))))))

theorem ok_law_row_right (b : Bt mg) (d : Df K mg "_law_row_right" s_law_row_right ["row"]) (h_law_border_row : Fn P w K mg base 2 "_law_border_row" (rOne cStr) (cTup cInt) f_law_border_row) (h_law_is : ∀ n, n ≤ 8 → Fn P w K mg base (n + 4) "_law_is" (rCons (cE (K := K)) (rOne cE)) cBool (fun t => isG n t.1 t.2)) (h_law_spelled : Fn P w K mg base 2 "_law_spelled" (rOne (cTup cInt)) cStr f_law_spelled) (h_first_fault : Fn P w K mg base 4 "first_fault" (rOne (cTup cInt)) (cOpt cInt) f_first_fault) (h_told_spelling : Fn P w K mg base 4 "told_spelling" (rOne (cTup cInt)) (cOpt cStr) f_told_spelling) : Fn P w K mg base 13 "_law_row_right" (rOne (cTup cInt)) cBool f_law_row_right :=
  fn_df 12 d sc_law_row_right fun a cdv A outer s H E hr t => Rb.eq (rb_cons (ns_set 1 sc_law_row_right.nd (ex_call h_law_spelled (hr.mono (by decide)) (ea_one (ex_v 0)))) fun own_313 => (rb_cons (ns_set 2 sc_law_row_right.nd (ex_cmp o_eqI (ex_bi b_lenS (ea_one (ex_v 1)) b.len) (ex_bi b_lenT (ea_one (ex_v 0)) b.len))) fun fine_314 => (rb_if (B := []) (Tw.te (tw_and (te_val (ex_v 2)) (tw_and1 (te_cmp (o_neD (x := (dat_tup dat_int)) hr.units) (ex_call h_law_border_row (hr.mono (by decide)) (ea_one (ex_v 1))) (ex_bt b_tupT (ea_one (ex_v 0)) b.tuple))))) (rb_ret ex_bool) (rb_if (B := []) (te_not (te_val (ex_call (h_law_is 8 (by decide)) (hr.mono (by decide)) (ea_cons (Ex.e (x := (dat_opt dat_str)) (ex_call h_told_spelling (hr.mono (by decide)) (ea_one (ex_v 0)))) (ea_one (ex_ifP (te_val (ex_v 2)) (Ex.e (x := dat_str) (ex_v 1)) (Ex.e (x := dat_non) ex_non))))))) (rb_ret ex_bool) (rb_ret (ex_call (h_law_is 8 (by decide)) (hr.mono (by decide)) (ea_cons (Ex.e (x := (dat_opt dat_int)) (ex_call h_first_fault (hr.mono (by decide)) (ea_one (ex_v 0)))) (ea_one (ex_ifP (te_val (ex_v 2)) (Ex.e (x := dat_non) ex_non) (Ex.e (x := dat_int) (ex_bi b_lenS (ea_one (ex_v 1)) b.len)))))))))))

theorem bd_law (b : Bt mg) (h_law_bent : Fn P w K mg base 1 "_law_bent" (rCons (cTup cInt) (rCons (cLst cInt) (rOne cInt))) (cTup cInt) (fun t => f_law_bent t.1 t.2.1 t.2.2)) (h_law_border_row : Fn P w K mg base 2 "_law_border_row" (rOne cStr) (cTup cInt) f_law_border_row) (h_law_cell : Fn P w K mg base 1 "_law_cell" (rCons (cLst cInt) (rOne cInt)) cInt (fun t => f_law_cell t.1 t.2)) (h_law_draws : Fn P w K mg base 1 "_law_draws" (rCons cInt (rOne cInt)) (cLst cInt) (fun t => f_law_draws t.1 t.2)) (h_law_right : Fn P w K mg base 13 "_law_right" (rOne cStr) cBool f_law_right) (h_law_row_right : Fn P w K mg base 13 "_law_row_right" (rOne (cTup cInt)) cBool f_law_row_right) (h_law_text : Fn P w K mg base 1 "_law_text" (rCons (cLst cInt) (rCons cInt (rOne cStr))) cStr (fun t => f_law_text t.1 t.2.1 t.2.2)) (a : Addr) (cdv : Value) (A : Around) (outer : List Env) (s : Shared) (H : Hp) (E : XK) (hr : Room 13 (CxF P w K mg base n_law "law" s_law a cdv A outer s H E).A) (t : List Int) : Rb (CxF P w K mg base n_law "law" s_law a cdv A outer s H E) ([.val (cLst cInt) t] ++ List.replicate (n_law.length - 1) .any) (defBody s_law) cBool (f_law t) :=
  Rb.eq (rb_consF (fs_for (d := cBool) (G' := fun (e323 : Unit) => [.val (cLst cInt) t, .any, .any, .any, .any, .any, .any, .any, .any, .any, .any, .any, .any, .any]) (e0 := ()) (i_range1 ex_int b.range) (tg_name 1 sc_law.nd) rfl (fun e324 v325 => (fb_cons (ns_set 3 sc_law.nd (ex_call h_law_draws (hr.mono (by decide)) (ea_cons (ex_call h_law_cell (hr.mono (by decide)) (ea_cons (ex_v 0) (ea_one (ex_mulL (ex_v 1))))) (ea_one ex_int)))) fun draws_327 => (fb_cons (ns_set 4 sc_law.nd (ex_call h_law_draws (hr.mono (by decide)) (ea_cons (ex_call h_law_cell (hr.mono (by decide)) (ea_cons (ex_v 0) (ea_one (ex_op o_add (ex_mulL (ex_v 1)) ex_int)))) (ea_one ex_int)))) fun part_330 => (fb_cons (ns_set 5 sc_law.nd (ex_ixT (ex_tupL (c := cInt) (el_cons ex_int (el_cons ex_int (el_cons ex_int (el_cons ex_int (el_cons ex_int (el_cons ex_int (el_cons ex_int (el_cons ex_int el_nil))))))))) (ex_modC (ex_bt b_int (ea_one (ex_ixL (Ex.b (ex_v 3)) ex_int)) b.int)))) fun length_333 => (fb_cons (ns_set 6 sc_law.nd (ex_call h_law_text (hr.mono (by decide)) (ea_cons (ex_v 4) (ea_cons (ex_v 5) (ea_one (ex_ixT (ex_tupL (c := cStr) (el_cons (ex_str [97, 98]) (el_cons (ex_str [97, 98, 99]) (el_cons (ex_str [97]) (el_cons (ex_str [120, 121, 122]) el_nil))))) (ex_modC (ex_bt b_int (ea_one (ex_ixL (Ex.b (ex_v 3)) ex_int)) b.int)))))))) fun text_340 => (fb_ifR (Tw.te (tw_or (te_not (te_val (ex_call h_law_right (hr.mono (by decide)) (ea_one (ex_v 6))))) (tw_or1 (te_not (te_val (ex_call h_law_right (hr.mono (by decide)) (ea_one (ex_op o_catS (ex_v 6) (ex_slS (ex_v 6) .no (.yes (ex_modC (ex_bt b_int (ea_one (ex_ixL (Ex.b (ex_v 3)) ex_int)) b.int)))))))))))) (rb_ret ex_bool) (fb_cons (ns_set 7 sc_law.nd (ex_call h_law_border_row (hr.mono (by decide)) (ea_one (ex_v 6)))) fun row_359 => (fb_cons (ns_setL 8 sc_law.nd (exl_disp (c := (cTup cInt)) (el_cons (ex_v 7) (el_cons (ex_revT (ex_v 7)) (el_cons (ex_op o_catT (ex_v 7) (ex_slT (ex_v 7) (.yes (ex_neg ex_int)) .no)) (el_cons (ex_op o_catT (ex_slT (ex_v 7) .no (.yes (ex_neg ex_int))) (ex_tupL (c := cInt) (el_cons (ex_bi b_lenS (ea_one (ex_v 6)) b.len) el_nil))) (el_cons (ex_op o_catT (ex_v 7) (ex_tupL (c := cInt) (el_cons ex_int el_nil))) (el_cons (ex_op o_catT (ex_tupL (c := cInt) (el_cons ex_int el_nil)) (ex_v 7)) el_nil)))))))) fun rows_360 => (fb_cons (ns_for (G' := fun (e370 : (List (List (Int)))) => [.val (cLst cInt) t, .val cInt v325, .any, .val (cLst cInt) draws_327, .val (cLst cInt) part_330, .val cInt length_333, .val cStr text_340, .val (cTup cInt) row_359, .own (cTup cInt) e370, .any, .any, .any, .any, .any]) (e0 := rows_360) (i_range1 ex_int b.range) (tg_name 9 sc_law.nd) rfl (fun e371 v373 => (nb_cons (ns_app 8 (ex_call h_law_bent (hr.mono (by decide)) (ea_cons (ex_v 7) (ea_cons (ExL.fz (exl_slL (Ex.b (ex_v 3)) (.yes (ex_op o_add ex_int (ex_mulL (ex_v 9)))) (.yes (ex_op o_add ex_int (ex_mulL (ex_v 9)))))) (ea_one (ex_bi b_lenS (ea_one (ex_v 6)) b.len)))))) fun rows_375 => (nb_e (rows_375) (Wk.same (Wk.same (Wk.any (Wk.same (Wk.same (Wk.same (Wk.same (Wk.same (Wk.same (Wk.any (Wk.any (Wk.any (Wk.any (Wk.any Wk.nil))))))))))))))))) (Wk.same (Wk.same (Wk.any (Wk.same (Wk.same (Wk.same (Wk.same (Wk.same (Wk.same (Wk.any (Wk.any (Wk.any (Wk.any (Wk.any Wk.nil)))))))))))))).len (Wk.same (Wk.same (Wk.any (Wk.same (Wk.same (Wk.same (Wk.same (Wk.same (Wk.same (Wk.any (Wk.any (Wk.any (Wk.any (Wk.any Wk.nil)))))))))))))).at_) fun e378 => (fb_cons (ns_set 10 sc_law.nd (ex_op o_mod (ex_bt b_int (ea_one (ex_ixL (Ex.b (ex_v 3)) ex_int)) b.int) (ex_op o_add (ex_v 5) ex_int))) fun at__380 => (fb_cons (ns_app 8 (ex_op o_catT (ex_op o_catT (ex_slT (ex_v 7) .no (.yes (ex_v 10))) (ex_bitb b_tupL (ExL.b (ExC.l (exl_c1P (c := cInt) (d := cInt) 13 rfl sc_law.nd (ExI.j (i_tup (ex_slT (ex_v 7) (.yes (ex_v 10)) (.yes (ex_op o_add (ex_v 10) ex_int))))) (blkOk_by (N := n_law) (sc := defScope s_law) (by decide +kernel)) (fun s H C cl fp v386 => by exact (ex_op o_add (ex_v 13) ex_int))))) b.tuple)) (ex_slT (ex_v 7) (.yes (ex_op o_add (ex_v 10) ex_int)) .no))) fun rows_385 => (fb_cons (ns_app 8 (ex_op o_catT (ex_slT (ex_v 7) .no (.yes (ex_v 10))) (ex_op o_repT (ex_tupL (c := cInt) (el_cons ex_int el_nil)) (ex_op o_sub (ex_v 5) (ex_v 10))))) fun rows_389 => (fb_cons (ns_app 8 (ex_bitb b_tupL (ExL.b (ExC.l (exl_c1 (c := cInt) (d := cInt) 12 rfl sc_law.nd (ExI.j (i_lst (ExL.fz (exl_slL (Ex.b (ex_v 4)) .no (.yes (ex_v 5)))))) (blkOk_by (N := n_law) (sc := defScope s_law) (by decide +kernel)) (fun s H C cl fp v393 => by exact ts_no) (fun s H C cl fp v393 => by exact (ex_op o_mod (ex_divC (ex_bt b_int (ea_one (ex_v 12)) b.int)) (ex_op o_add ex_int (ex_modC (ex_bt b_int (ea_one (ex_v 12)) b.int)))))))) b.tuple)) fun rows_392 => (fb_cons (ns_app 8 (ex_bitb b_tupL (ExL.b (ExC.l (exl_c1 (c := cInt) (d := cInt) 10 rfl sc_law.nd (ExI.j (i_range1 (ex_v 5) b.range)) (blkOk_by (N := n_law) (sc := defScope s_law) (by decide +kernel)) (fun s H C cl fp v397 => by exact ts_no) (fun s H C cl fp v397 => by exact (ex_if (te_cmp o_gt (ex_modC (ex_bt b_int (ea_one (ex_ixL (Ex.b (ex_v 4)) (ex_v 10))) b.int)) ex_int) (ex_divC (ex_v 10)) (ex_op o_sub ex_int (ex_v 10))))))) b.tuple)) fun rows_396 => (fb_fz 8 (fb_consG (fs_for (d := cBool) (G' := fun (e405 : Unit) => [.val (cLst cInt) t, .val cInt v325, .any, .val (cLst cInt) draws_327, .val (cLst cInt) part_330, .val cInt length_333, .val cStr text_340, .val (cTup cInt) row_359, .val (cLst (cTup cInt)) rows_396, .any, .val cInt at__380, .any, .any, .any]) (e0 := ()) (i_lst (ex_v 8)) (tg_name 11 sc_law.nd) rfl (fun e406 v407 => (fb_ifR (te_not (te_val (ex_call h_law_row_right (hr.mono (by decide)) (ea_one (ex_v 11))))) (rb_ret ex_bool) (fb_e (()) (Wk.same (Wk.same (Wk.any (Wk.same (Wk.same (Wk.same (Wk.same (Wk.same (Wk.same (Wk.any (Wk.same (Wk.any (Wk.any (Wk.any Wk.nil))))))))))))))))) (Wk.same (Wk.same (Wk.any (Wk.same (Wk.same (Wk.same (Wk.same (Wk.same (Wk.same (Wk.any (Wk.same (Wk.any (Wk.any (Wk.any Wk.nil)))))))))))))).len (Wk.same (Wk.same (Wk.any (Wk.same (Wk.same (Wk.same (Wk.same (Wk.same (Wk.same (Wk.any (Wk.same (Wk.any (Wk.any (Wk.any Wk.nil)))))))))))))).at_) fun e411 => (fb_e (()) (Wk.same (Wk.any (Wk.any (Wk.any (Wk.any (Wk.any (Wk.any (Wk.any (Wk.any (Wk.any (Wk.any (Wk.any (Wk.any (Wk.any Wk.nil))))))))))))))))))))))))))))))) (Wk.same (Wk.any (Wk.any (Wk.any (Wk.any (Wk.any (Wk.any (Wk.any (Wk.any (Wk.any (Wk.any (Wk.any (Wk.any (Wk.any Wk.nil)))))))))))))).len (Wk.same (Wk.any (Wk.any (Wk.any (Wk.any (Wk.any (Wk.any (Wk.any (Wk.any (Wk.any (Wk.any (Wk.any (Wk.any (Wk.any Wk.nil)))))))))))))).at_) fun e414 => (rb_cons (ns_set 2 sc_law.nd (ex_join (ex_str []) (ExL.b (ExC.l (exl_c1P (c := cInt) (d := cStr) 12 rfl sc_law.nd (ExI.j (i_lst (ex_call h_law_draws (hr.mono (by decide)) (ea_cons (ex_call h_law_cell (hr.mono (by decide)) (ea_cons (ex_v 0) (ea_one ex_int))) (ea_one ex_int))))) (blkOk_by (N := n_law) (sc := defScope s_law) (by decide +kernel)) (fun s H C cl fp v421 => by exact (ex_ifP (te_cmp o_gt (ex_modC (ex_bt b_int (ea_one (ex_v 12)) b.int)) ex_int) (ex_str [97]) (ex_str [98])))))))) fun long_415 => (rb_if (B := []) (Tw.te (tw_or (te_not (te_val (ex_call h_law_row_right (hr.mono (by decide)) (ea_one (ex_tupL (c := cInt) (el_cons ex_int (el_cons ex_int (el_cons ex_int (el_cons ex_int (el_cons ex_int el_nil)))))))))) (tw_or (te_not (te_val (ex_call h_law_row_right (hr.mono (by decide)) (ea_one (ex_tupL (c := cInt) (el_cons ex_int (el_cons ex_int (el_cons ex_int (el_cons ex_int el_nil))))))))) (tw_or1 (te_not (te_val (ex_call h_law_row_right (hr.mono (by decide)) (ea_one (ex_tupL (c := cInt) (el_cons ex_int el_nil)))))))))) (rb_ret ex_bool) (rb_ret (ex_call h_law_right (hr.mono (by decide)) (ea_one (ex_v 2)))))))

theorem bo_periods_of : BindOk "periods_of" s_periods_of ["text"] := fun _ _ _ _ _ _ us hl => match us, hl with | [_], _ => rfl
theorem bo_borders_of : BindOk "borders_of" s_borders_of ["text"] := fun _ _ _ _ _ _ us hl => match us, hl with | [_], _ => rfl
theorem bo_border_row : BindOk "border_row" s_border_row ["text"] := fun _ _ _ _ _ _ us hl => match us, hl with | [_], _ => rfl
theorem bo_next_lengths : BindOk "next_lengths" s_next_lengths ["text", "row"] := fun _ _ _ _ _ _ us hl => match us, hl with | [_, _], _ => rfl
theorem bo_letter_for : BindOk "letter_for" s_letter_for ["text", "row", "length"] := fun _ _ _ _ _ _ us hl => match us, hl with | [_, _, _], _ => rfl
theorem bo_spelled_so_far : BindOk "spelled_so_far" s_spelled_so_far ["row"] := fun _ _ _ _ _ _ us hl => match us, hl with | [_], _ => rfl
theorem bo_told_spelling : BindOk "told_spelling" s_told_spelling ["row"] := fun _ _ _ _ _ _ us hl => match us, hl with | [_], _ => rfl
theorem bo_first_fault : BindOk "first_fault" s_first_fault ["row"] := fun _ _ _ _ _ _ us hl => match us, hl with | [_], _ => rfl
theorem bo_law_cell : BindOk "_law_cell" s_law_cell ["script", "k"] := fun _ _ _ _ _ _ us hl => match us, hl with | [_, _], _ => rfl
theorem bo_law_draws : BindOk "_law_draws" s_law_draws ["cell", "count"] := fun _ _ _ _ _ _ us hl => match us, hl with | [_, _], _ => rfl
theorem bo_law_is_integer : BindOk "_law_is_integer" s_law_is_integer ["value"] := fun _ _ _ _ _ _ us hl => match us, hl with | [_], _ => rfl
theorem bo_law_is : BindOk "_law_is" s_law_is ["value", "due"] := fun _ _ _ _ _ _ us hl => match us, hl with | [_, _], _ => rfl
theorem bo_law_bent : BindOk "_law_bent" s_law_bent ["row", "draws", "most"] := fun _ _ _ _ _ _ us hl => match us, hl with | [_, _, _], _ => rfl
theorem bo_law_text : BindOk "_law_text" s_law_text ["draws", "length", "letters"] := fun _ _ _ _ _ _ us hl => match us, hl with | [_, _, _], _ => rfl
theorem bo_law_periods : BindOk "_law_periods" s_law_periods ["text"] := fun _ _ _ _ _ _ us hl => match us, hl with | [_], _ => rfl
theorem bo_law_border_row : BindOk "_law_border_row" s_law_border_row ["text"] := fun _ _ _ _ _ _ us hl => match us, hl with | [_], _ => rfl
theorem bo_law_last : BindOk "_law_last" s_law_last ["text"] := fun _ _ _ _ _ _ us hl => match us, hl with | [_], _ => rfl
theorem bo_law_spelled : BindOk "_law_spelled" s_law_spelled ["row"] := fun _ _ _ _ _ _ us hl => match us, hl with | [_], _ => rfl
theorem bo_law_right : BindOk "_law_right" s_law_right ["text"] := fun _ _ _ _ _ _ us hl => match us, hl with | [_], _ => rfl
theorem bo_law_row_right : BindOk "_law_row_right" s_law_row_right ["row"] := fun _ _ _ _ _ _ us hl => match us, hl with | [_], _ => rfl
theorem bo_law : BindOk "law" s_law ["script"] := fun _ _ _ _ _ _ us hl => match us, hl with | [_], _ => rfl
theorem is_step {n : Nat} {v d : PyData} {u : Bool} (h : isG (n + 1) v d = some u) : f_law_is_step (fun _ => isG n) v d = some u := by
  obtain ⟨rfl, h1, h2, rfl⟩ := isG_some h
  cases v with
  | none => rfl
  | bool b => simp [f_law_is_step, isNonD, isTy, PyData.eqv]
  | int i => simp [f_law_is_step, f_law_is_integer, isNonD, isTy, PyData.eqv]
  | str x => simp [f_law_is_step, isNonD, isTy, PyData.eqv]
  | list xs => cases h1
  | dict xs => cases h1
  | tuple xs =>
    have h := isG_items h1 h2
    simp only [f_law_is_step, isNonD, isTy, lenD, Bool.false_eq_true, Bool.not_true, if_false, Option.bind_some, decide_true]
    rw [h]
    simp
theorem is_step0 {v d : PyData} {u : Bool} (h : isG 0 v d = some u) : f_law_is_step (fun _ => fun _ _ => none) v d = some u := by
  obtain ⟨rfl, h1, h2, rfl⟩ := isG_some h
  cases v with
  | none => rfl
  | bool b => simp [f_law_is_step, isNonD, isTy, PyData.eqv]
  | int i => simp [f_law_is_step, f_law_is_integer, isNonD, isTy, PyData.eqv]
  | str x => simp [f_law_is_step, isNonD, isTy, PyData.eqv]
  | list xs => cases h1
  | dict xs => cases h1
  | tuple xs => exact absurd h2 (by show ¬ (PyData.depthAll xs + 1 ≤ 0); omega)
theorem is_all (b : Bt mg) (d : Df K mg "_law_is" s_law_is ["value", "due"]) (h_law_is_integer : Fn P w K mg base 1 "_law_is_integer" (rOne (cE (K := K))) cBool f_law_is_integer) : ∀ n : Nat, Fn P w K mg base (n + 2) "_law_is" (rCons (cE (K := K)) (rOne cE)) cBool (fun t => isG n t.1 t.2)
  | 0 => (ok_law_is b d (lv := 0) (g := fun _ _ => none) (fn_none d sc_law_is rfl 0) h_law_is_integer).imp fun a u h => is_step0 h
  | n + 1 => (ok_law_is b d (lv := n + 1) (is_all b d h_law_is_integer n) h_law_is_integer).imp fun a u h => is_step h
theorem all_mk {h : Heap} {fa : Addr} (X : K.In h) (G : h.Ns mainGlobals mg) (hfa : mg "law" = some (.ref fa)) (B : BK K) (k_periods_of : DK K "periods_of" s_periods_of) (k_borders_of : DK K "borders_of" s_borders_of) (k_border_row : DK K "border_row" s_border_row) (k_next_lengths : DK K "next_lengths" s_next_lengths) (k_letter_for : DK K "letter_for" s_letter_for) (k_spelled_so_far : DK K "spelled_so_far" s_spelled_so_far) (k_told_spelling : DK K "told_spelling" s_told_spelling) (k_first_fault : DK K "first_fault" s_first_fault) (k_law_cell : DK K "_law_cell" s_law_cell) (k_law_draws : DK K "_law_draws" s_law_draws) (k_law_is_integer : DK K "_law_is_integer" s_law_is_integer) (k_law_is : DK K "_law_is" s_law_is) (k_law_bent : DK K "_law_bent" s_law_bent) (k_law_text : DK K "_law_text" s_law_text) (k_law_periods : DK K "_law_periods" s_law_periods) (k_law_border_row : DK K "_law_border_row" s_law_border_row) (k_law_last : DK K "_law_last" s_law_last) (k_law_spelled : DK K "_law_spelled" s_law_spelled) (k_law_right : DK K "_law_right" s_law_right) (k_law_row_right : DK K "_law_row_right" s_law_row_right) (k_law : DK K "law" s_law) (h_LETTERS : ∃ t, mg "LETTERS" = some (.str (tx c_LETTERS) t)) :
    ∃ fd : FuncData, (∀ (s : Shared) (u : Value), BindsTo s fd ⟨[u], []⟩ [("script", u)]) ∧ ∀ base : Heap, K.In base → base.Ns mainGlobals mg → FnOk P w K mg base CX0 14 fa fd ["script"] (spOf (rOne (cLst (cInt (K := K)))) cBool f_law) := by
  have b := bt_of X G B
  refine law_mk X G hfa k_law bo_law sc_law fun base => ?_
  have h_periods_of : Fn P w K mg base 1 "periods_of" (rOne cStr) (cTup cInt) f_periods_of := ok_periods_of b (df_of X G k_periods_of bo_periods_of)
  have h_borders_of : Fn P w K mg base 1 "borders_of" (rOne cStr) (cTup cStr) f_borders_of := ok_borders_of b (df_of X G k_borders_of bo_borders_of)
  have h_border_row : Fn P w K mg base 1 "border_row" (rOne cStr) (cTup cInt) f_border_row := ok_border_row b (df_of X G k_border_row bo_border_row)
  have h_next_lengths : Fn P w K mg base 1 "next_lengths" (rCons cStr (rOne (cTup cInt))) (cDic (fun l : List Nat => Sum.inr (tx l)) cInt) (fun t => f_next_lengths t.1 t.2) := ok_next_lengths b (df_of X G k_next_lengths bo_next_lengths)
  have h_letter_for : Fn P w K mg base 2 "letter_for" (rCons cStr (rCons (cTup cInt) (rOne cInt))) (cOpt cStr) (fun t => f_letter_for t.1 t.2.1 t.2.2) := ok_letter_for b (df_of X G k_letter_for bo_letter_for) h_LETTERS h_next_lengths
  have h_spelled_so_far : Fn P w K mg base 3 "spelled_so_far" (rOne (cTup cInt)) cStr f_spelled_so_far := ok_spelled_so_far b (df_of X G k_spelled_so_far bo_spelled_so_far) h_letter_for
  have h_told_spelling : Fn P w K mg base 4 "told_spelling" (rOne (cTup cInt)) (cOpt cStr) f_told_spelling := ok_told_spelling b (df_of X G k_told_spelling bo_told_spelling) h_spelled_so_far
  have h_first_fault : Fn P w K mg base 4 "first_fault" (rOne (cTup cInt)) (cOpt cInt) f_first_fault := ok_first_fault b (df_of X G k_first_fault bo_first_fault) h_spelled_so_far
  have h_law_cell : Fn P w K mg base 1 "_law_cell" (rCons (cLst cInt) (rOne cInt)) cInt (fun t => f_law_cell t.1 t.2) := ok_law_cell b (df_of X G k_law_cell bo_law_cell)
  have h_law_draws : Fn P w K mg base 1 "_law_draws" (rCons cInt (rOne cInt)) (cLst cInt) (fun t => f_law_draws t.1 t.2) := ok_law_draws b (df_of X G k_law_draws bo_law_draws)
  have h_law_is_integer : Fn P w K mg base 1 "_law_is_integer" (rOne cE) cBool f_law_is_integer := ok_law_is_integer b (df_of X G k_law_is_integer bo_law_is_integer)
  have h_law_is : ∀ n, n ≤ 8 → Fn P w K mg base (n + 4) "_law_is" (rCons (cE (K := K)) (rOne cE)) cBool (fun t => isG n t.1 t.2) := fun n _ => (is_all b (df_of X G k_law_is bo_law_is) h_law_is_integer n).mono (by omega)
  have h_law_bent : Fn P w K mg base 1 "_law_bent" (rCons (cTup cInt) (rCons (cLst cInt) (rOne cInt))) (cTup cInt) (fun t => f_law_bent t.1 t.2.1 t.2.2) := ok_law_bent b (df_of X G k_law_bent bo_law_bent)
  have h_law_text : Fn P w K mg base 1 "_law_text" (rCons (cLst cInt) (rCons cInt (rOne cStr))) cStr (fun t => f_law_text t.1 t.2.1 t.2.2) := ok_law_text b (df_of X G k_law_text bo_law_text)
  have h_law_periods : Fn P w K mg base 1 "_law_periods" (rOne cStr) (cTup cInt) f_law_periods := ok_law_periods b (df_of X G k_law_periods bo_law_periods)
  have h_law_border_row : Fn P w K mg base 2 "_law_border_row" (rOne cStr) (cTup cInt) f_law_border_row := ok_law_border_row b (df_of X G k_law_border_row bo_law_border_row) h_law_periods
  have h_law_last : Fn P w K mg base 1 "_law_last" (rOne cStr) cInt f_law_last := ok_law_last b (df_of X G k_law_last bo_law_last)
  have h_law_spelled : Fn P w K mg base 2 "_law_spelled" (rOne (cTup cInt)) cStr f_law_spelled := ok_law_spelled b (df_of X G k_law_spelled bo_law_spelled) h_law_last
  have h_law_right : Fn P w K mg base 13 "_law_right" (rOne cStr) cBool f_law_right := ok_law_right b (df_of X G k_law_right bo_law_right) h_law_border_row h_law_is h_law_periods h_border_row h_borders_of h_periods_of
  have h_law_row_right : Fn P w K mg base 13 "_law_row_right" (rOne (cTup cInt)) cBool f_law_row_right := ok_law_row_right b (df_of X G k_law_row_right bo_law_row_right) h_law_border_row h_law_is h_law_spelled h_first_fault h_told_spelling
  exact bd_law b h_law_bent h_law_border_row h_law_cell h_law_draws h_law_right h_law_row_right h_law_text

end
end K72

namespace M
open PySem PySem.Spec L2
section
variable {α β ε : Type}
theorem mem_rng {lo hi v : Int} : v ∈ rng lo hi ↔ lo ≤ v ∧ v < hi := by
  unfold rng
  rw [List.mem_map]
  constructor
  · rintro ⟨k, hk, rfl⟩
    have := List.mem_range.mp hk
    omega
  · rintro ⟨h1, h2⟩
    exact ⟨(v - lo).toNat, List.mem_range.mpr (by omega), by omega⟩
theorem forN_filter {f : List α → α → Option (List α)} {q : α → Bool} : ∀ {xs : List α} {e : List α}, (∀ v ∈ xs, ∀ e : List α, e.length < 1000000 → f e v = some (if q v = true then e ++ [v] else e)) → e.length + xs.length ≤ 1000000 → forN f xs e = some (e ++ xs.filter q)
  | [], e, _, _ => by rw [List.filter_nil, List.append_nil]; rfl
  | x :: xs, e, h, hl => by
    rw [List.length_cons] at hl
    show ((f e x).bind fun e' => forN f xs e') = _
    rw [h x List.mem_cons_self e (by omega)]
    show forN f xs (if q x = true then e ++ [x] else e) = _
    cases hq : q x with
    | true =>
      rw [if_pos rfl, forN_filter (fun v hv => h v (List.mem_cons_of_mem _ hv)) (by rw [List.length_append, List.length_singleton]; omega), List.filter_cons_of_pos hq, List.append_assoc]
      rfl
    | false =>
      rw [if_neg Bool.false_ne_true, forN_filter (fun v hv => h v (List.mem_cons_of_mem _ hv)) (by omega), List.filter_cons_of_neg (by rw [hq]; exact Bool.false_ne_true)]
theorem forN_map {f : List β → α → Option (List β)} {g : α → β} : ∀ {xs : List α} {e : List β}, (∀ v ∈ xs, ∀ e : List β, e.length < 1000000 → f e v = some (e ++ [g v])) → e.length + xs.length ≤ 1000000 → forN f xs e = some (e ++ xs.map g)
  | [], e, _, _ => by rw [List.map_nil, List.append_nil]; rfl
  | x :: xs, e, h, hl => by
    rw [List.length_cons] at hl
    show ((f e x).bind fun e' => forN f xs e') = _
    rw [h x List.mem_cons_self e (by omega)]
    show forN f xs (e ++ [g x]) = _
    rw [forN_map (fun v hv => h v (List.mem_cons_of_mem _ hv)) (by rw [List.length_append, List.length_singleton]; omega), List.map_cons, List.append_assoc]
    rfl
end
end M
namespace K72
open PySem PySem.Spec L2 M SM
/-- the periods -/
def P (s : List Nat) : List Int := (rng 1 ((s.length : Int) + 1)).filter fun v => perB s v.toNat
def brow (s : List Nat) : List Int := (List.range s.length).map fun i => ((lb (s.take (i + 1)) : Nat) : Int)
theorem periods_eq (s : List Nat) (hs : s.length ≤ 1000) : f_periods_of s = some (P s) := by
  unfold f_periods_of
  rw [(ok_rng (lo := 1) (hi := (s.length : Int) + 1)).eq]
  show some (List.map _ (List.filter _ _)) = _
  unfold P
  rw [List.map_id']
  congr 1
  refine List.filter_congr fun v hv => ?_
  have hv := mem_rng.mp hv
  unfold perB
  rw [cut_from (by omega), cut_to (by omega), show ((s.length : Int) - v).toNat = s.length - v.toNat by omega]
theorem law_periods_eq (s : List Nat) (hs : s.length ≤ 1000) : f_law_periods s = some (P s) := by
  unfold f_law_periods
  rw [(ok_rng (lo := 1) (hi := (s.length : Int) + 1)).eq]
  show (forN _ _ _).bind _ = _
  rw [forN_filter (q := fun v => perB s v.toNat)]
  · rfl
  · intro v hv e he
    have hv := mem_rng.mp hv
    show Option.bind _ _ = _
    have h1 : ((rngG 0 ((s.length : Int) - v)).bind fun xs253 => mapO (fun (v250 : Int) => (((chI s v250)).bind fun b251 => ((chI s (v250 + v))).bind fun b252 => some ((decide (b251 = b252))))) xs253).bind (fun b254 => some (((b254).all id))) = some (perB s v.toNat) := by
      refine Ok.eq ?_
      refine Ok.bind (P := fun ys => ys.length = s.length - v.toNat ∧ ∀ i y, ys[i]? = some y → y = decide (s[i]? = s[i + v.toNat]?)) ?_ ?_
      · refine Ok.bind (ok_rng (lo := 0) (hi := (s.length : Int) - v)) ?_
        rintro _ rfl
        refine (ok_mapO (fun i y => y = decide (s[i]? = s[i + v.toNat]?)) ?_).imp fun ys hys => ⟨by rw [hys.1, rng_len]; omega, hys.2⟩
        intro i x hx
        obtain ⟨rfl, hi⟩ := rng_get hx
        refine Ok.bind (ok_chI (by omega) (by omega)) ?_
        rintro _ ⟨c, hc, rfl⟩
        refine Ok.bind (ok_chI (by omega) (by omega)) ?_
        rintro _ ⟨d, hd, rfl⟩
        refine Ok.some ?_
        rw [show (0 + (i : Int)).toNat = i by omega] at hc
        rw [show (0 + (i : Int) + v).toNat = i + v.toNat by omega] at hd
        rw [hc, hd]
        exact decide_eq_decide.mpr ⟨fun h => by rw [List.cons.inj h |>.1], fun h => by rw [Option.some.inj h]⟩
      · rintro ys ⟨hl, hy⟩
        refine Ok.some ?_
        rw [Bool.eq_iff_iff, List.all_eq_true, per_iff]
        constructor
        · intro h i hi
          have := h ys[i] (List.getElem_mem (by omega))
          rw [hy i _ (List.getElem?_eq_getElem (by omega))] at this
          exact of_decide_eq_true this
        · intro h y hym
          obtain ⟨i, hi, rfl⟩ := List.mem_iff_getElem.mp hym
          rw [hy i _ (List.getElem?_eq_getElem hi)]
          exact decide_eq_true (h i (by omega))
    show ((((rngG 0 ((s.length : Int) - v)).bind fun xs253 => mapO (fun (v250 : Int) => (((chI s v250)).bind fun b251 => ((chI s (v250 + v))).bind fun b252 => some ((decide (b251 = b252))))) xs253).bind fun b254 => some (((b254).all id))).bind _).bind _ = _
    rw [h1]
    show Option.bind (if perB s v.toNat = true then _ else _) _ = _
    cases hp : perB s v.toNat with
    | true =>
      rw [if_pos rfl, if_pos rfl, (ok_app he).eq]
      rfl
    | false => rfl
  · rw [rng_len]
    show 0 + _ ≤ _
    omega
theorem P_mem {s : List Nat} {v : Int} : v ∈ P s ↔ (1 ≤ v ∧ v < (s.length : Int) + 1) ∧ perB s v.toNat = true := by
  unfold P
  rw [List.mem_filter, mem_rng]
theorem rng_succ {lo hi : Int} (h : lo < hi) : rng lo hi = lo :: rng (lo + 1) hi := by
  unfold rng
  rw [show (hi - lo).toNat = (hi - (lo + 1)).toNat + 1 by omega, List.range_succ_eq_map, List.map_cons, List.map_map]
  congr 1
  · omega
  · exact List.map_congr_left fun k _ => by show lo + ((k + 1 : Nat) : Int) = lo + 1 + (k : Int); omega
/-- the first of a filtered range is the least -/
theorem filter_head {q : Int → Bool} : ∀ (n : Nat) (lo hi : Int), (hi - lo).toNat = n → (∃ v, lo ≤ v ∧ v < hi ∧ q v = true) → ∃ p r, (rng lo hi).filter q = p :: r ∧ lo ≤ p ∧ p < hi ∧ q p = true ∧ ∀ u, lo ≤ u → u < p → q u = false
  | 0, lo, hi, hn, ⟨v, h1, h2, _⟩ => by omega
  | n + 1, lo, hi, hn, ⟨v, h1, h2, h3⟩ => by
    rw [rng_succ (by omega)]
    cases hq : q lo with
    | true => exact ⟨lo, _, List.filter_cons_of_pos hq, by omega, by omega, hq, fun u h4 h5 => by omega⟩
    | false =>
      rw [List.filter_cons_of_neg (by rw [hq]; exact Bool.false_ne_true)]
      have hv : v ≠ lo := fun e => by subst e; rw [hq] at h3; cases h3
      obtain ⟨p, r, k1, k2, k3, k4, k5⟩ := filter_head (q := q) n (lo + 1) hi (by omega) ⟨v, by omega, h2, h3⟩
      exact ⟨p, r, k1, by omega, k3, k4, fun u h4 h5 => by
        by_cases e : u = lo
        · subst e; exact hq
        · exact k5 u (by omega) h5⟩
theorem P_head {s : List Nat} (h : s ≠ []) : ∃ p r, P s = p :: r ∧ p = (s.length : Int) - (lb s : Int) := by
  have hp := List.length_pos_iff.mpr h
  obtain ⟨p, r, h1, h2, h3, h4, h5⟩ := filter_head (q := fun v => perB s v.toNat) _ 1 ((s.length : Int) + 1) rfl ⟨(s.length : Int), by omega, by omega, by
    show perB s (s.length : Int).toNat = true
    rw [Int.toNat_natCast]
    exact (per_bord (by omega) (Nat.le_refl _)).mpr (by rw [Nat.sub_self]; exact bord0 h)⟩
  refine ⟨p, r, h1, ?_⟩
  have := lb_of_least (s := s) (p := p.toNat) (by omega) (by omega) h4 fun q hq0 hq1 => by
    have := h5 (q : Int) (by omega) (by omega)
    simpa using this
  omega
theorem law_border_row_eq (s : List Nat) (hs : s.length ≤ 1000) : f_law_border_row s = some (brow s) := by
  unfold f_law_border_row
  rw [(ok_rng (lo := 0) (hi := (s.length : Int))).eq]
  show (forN _ _ _).bind _ = _
  rw [forN_map (g := fun v : Int => ((lb (s.take (v.toNat + 1)) : Nat) : Int))]
  · show some ([] ++ _) = _
    rw [rng0, List.map_map, List.nil_append]
    unfold brow
    congr 1
  · intro v hv e he
    have hv := mem_rng.mp hv
    show Option.bind (f_law_periods (cut s none (some (v + 1)))) _ = _
    have hc : cut s none (some (v + 1)) = s.take (v.toNat + 1) := by rw [cut_to (by omega)]; congr 1; omega
    rw [hc, law_periods_eq _ (by rw [List.length_take]; omega)]
    have hl : (s.take (v.toNat + 1)).length = v.toNat + 1 := len_take (by omega)
    obtain ⟨p, r, h1, h2⟩ := P_head (s := s.take (v.toNat + 1)) (fun h => by rw [h] at hl; cases hl)
    show ((Option.bind (atI (P (s.take (v.toNat + 1))) 0) _).bind _).bind _ = _
    rw [h1, show atI (p :: r) 0 = some p from atI_nat (j := 0) (v := p) rfl]
    show Option.bind (appG e (v + 1 - p)) _ = _
    rw [(ok_app he).eq, h2, hl]
    show some _ = some _
    congr 4
    omega
  · rw [rng_len]
    show 0 + _ ≤ _
    omega
theorem rng_rev (n : Nat) : (rng 1 ((n : Int) + 1)).reverse = (rng 0 (n : Int)).map fun v => (n : Int) - v := by
  apply List.ext_getElem?
  intro i
  by_cases hi : i < n
  · rw [List.getElem?_reverse (by rw [rng_len]; omega), rng_len, List.getElem?_map]
    unfold rng
    rw [List.getElem?_map, List.getElem?_map, List.getElem?_range (by omega), List.getElem?_range (by omega)]
    show some (1 + (((((n : Int) + 1 - 1).toNat - 1 - i : Nat)) : Int)) = some ((n : Int) - (0 + (i : Int)))
    congr 1
    omega
  · rw [List.getElem?_eq_none (by rw [List.length_reverse, rng_len]; omega), List.getElem?_eq_none (by rw [List.length_map, rng_len]; omega)]
theorem borders_eq (s : List Nat) (hs : s.length ≤ 1000) : f_borders_of s = some ((P s).reverse.map fun v => cut s none (some ((s.length : Int) - v))) := by
  unfold f_borders_of
  rw [(ok_rng (lo := 0) (hi := (s.length : Int))).eq]
  show some (List.map _ (List.filter _ _)) = _
  congr 1
  unfold P
  rw [← List.filter_reverse, rng_rev, List.filter_map, List.map_map]
  have e : List.filter (fun v4 => (cut s none (some v4)).isSuffixOf s) (rng 0 (s.length : Int)) = List.filter ((fun v => perB s v.toNat) ∘ fun v => (s.length : Int) - v) (rng 0 (s.length : Int)) := by
    refine List.filter_congr fun v hv => ?_
    have hv := mem_rng.mp hv
    show (cut s none (some v)).isSuffixOf s = perB s ((s.length : Int) - v).toNat
    rw [cut_to (by omega), Bool.eq_iff_iff, List.isSuffixOf_iff_suffix]
    unfold perB
    rw [decide_eq_true_eq, show s.length - ((s.length : Int) - v).toNat = v.toNat by omega, List.suffix_iff_eq_drop, len_take (by omega), show ((s.length : Int) - v).toNat = s.length - v.toNat by omega]
    exact ⟨fun h => h.symm, fun h => h.symm⟩
  rw [e]
  refine List.map_congr_left fun v hv => ?_
  show cut s none (some v) = cut s none (some ((s.length : Int) - ((s.length : Int) - v)))
  congr 2
  omega
end K72

namespace K72
open PySem PySem.Spec L2 M SM
theorem take_get' {α : Type} {s : List α} {n i : Nat} (h : i < n) : (s.take n)[i]? = s[i]? := by rw [List.getElem?_take, if_pos h]
theorem brow_len (s : List Nat) : (brow s).length = s.length := by unfold brow; rw [List.length_map, List.length_range]
theorem brow_get {s : List Nat} {i : Nat} (h : i < s.length) : (brow s)[i]? = some ((lb (s.take (i + 1)) : Nat) : Int) := by
  unfold brow
  rw [List.getElem?_map, List.getElem?_range h]
  rfl
theorem take_succ' {s : List Nat} {i c : Nat} (h : s[i]? = some c) : s.take (i + 1) = s.take i ++ [c] := by rw [List.take_add_one, h]; rfl
theorem chars_get {s : List Nat} {i : Nat} {x : Int × List Nat} (h : (enumI (chars s))[i]? = some x) : ∃ c, s[i]? = some c ∧ x = ((i : Int), [c]) := by
  have hl : i < s.length := by
    have := (List.getElem?_eq_some_iff.mp h).1
    rw [enumI_len] at this
    unfold chars at this
    rwa [List.length_map] at this
  have := enumI_get (xs := chars s) (i := i) (x := [s[i]]) (by unfold chars; rw [List.getElem?_map, List.getElem?_eq_getElem hl]; rfl)
  rw [this] at h
  exact ⟨s[i], List.getElem?_eq_getElem hl, (Option.some.inj h).symm⟩
/-- the walk down the borders -/
theorem border_row_eq (s : List Nat) (hs : s.length ≤ 1000) : f_border_row s = some (brow s) := by
  unfold f_border_row
  refine Ok.eq ?_
  refine Ok.bind (ok_forN (fun i e => e = (brow s).take i) rfl ?_) ?_
  · rintro i x _ hx rfl
    obtain ⟨c, hc, rfl⟩ := chars_get hx
    have hi : i < s.length := (List.getElem?_eq_some_iff.mp hc).1
    have hlt : ((brow s).take i).length = i := by rw [List.length_take, brow_len]; omega
    -- the start
    refine Ok.bind (P := fun L : Int => ∃ l : Nat, L = (l : Int) ∧ (i = 0 → l = 0) ∧ (0 < i → l = lb (s.take i))) ?_ ?_
    · refine ok_ite (fun h => ?_) (fun h => ?_)
      · have h : (0 : Int) < (i : Int) := of_decide_eq_true h
        refine (ok_atI (by show (0 : Int) ≤ (i : Int) - 1; omega) (by rw [hlt]; show (i : Int) - 1 < i; omega)).imp fun v hv => ?_
        rw [show ((i : Int) - 1).toNat = i - 1 by omega, take_get' (by omega), brow_get (by omega), show i - 1 + 1 = i by omega] at hv
        exact ⟨_, (Option.some.inj hv).symm, fun e => by omega, fun _ => rfl⟩
      · exact Ok.some ⟨0, rfl, fun _ => rfl, fun h' => absurd (decide_eq_true (show (0 : Int) < (i : Int) by omega)) h⟩
    · rintro _ ⟨l, rfl, l0, l1⟩
      have h0 : i = 0 ∨ (0 < i ∧ Bord (s.take i) l ∧ ∀ b, Bord (s.take i) b → l < b → (s.take i)[b]? ≠ some c) := by
        by_cases e : i = 0
        · exact .inl e
        · refine .inr ⟨by omega, ?_, fun b hb hl => ?_⟩
          · rw [l1 (by omega)]
            exact lb_bord (fun z => by have := congrArg List.length z; rw [len_take (by omega)] at this; simp at this; omega)
          · rw [l1 (by omega)] at hl
            exact absurd (lb_max hb) (by omega)
      -- the loop
      refine Ok.bind (P := fun L : Int => ∃ l : Nat, L = (l : Int) ∧ (i = 0 → l = 0) ∧ (i = 0 ∨ (0 < i ∧ Bord (s.take i) l ∧ (∀ b, Bord (s.take i) b → l < b → (s.take i)[b]? ≠ some c) ∧ (l = 0 ∨ s[l]? = some c))))
        (ok_whileN (fun L : Int => ∃ l : Nat, L = (l : Int) ∧ (i = 0 → l = 0) ∧ (i = 0 ∨ (0 < i ∧ Bord (s.take i) l ∧ ∀ b, Bord (s.take i) b → l < b → (s.take i)[b]? ≠ some c))) (fun L => L.toNat) _ ⟨l, rfl, l0, h0⟩ ?_) ?_
      · rintro _ ⟨l, rfl, l0, h0⟩
        refine ok_ite (fun h => ?_) (fun h => ?_)
        · have hi0 : (0 : Int) < (i : Int) := of_decide_eq_true h
          obtain ⟨-, hb, hm⟩ := h0.resolve_left (by omega)
          have hbl : l < i := by have := hb.1; rw [len_take (by omega)] at this; exact this
          refine ok_ite (fun h => ?_) (fun h => ?_)
          · have hl0 : (0 : Int) < (l : Int) := of_decide_eq_true h
            refine Ok.bind (ok_chI (by show (0 : Int) ≤ (l : Int); omega) (by show (l : Int) < _; omega)) ?_
            rintro _ ⟨d, hd, rfl⟩
            have hd : s[l]? = some d := hd
            refine Ok.some ?_
            show if (!decide ([d] = [c])) = true then _ else _
            by_cases e : d = c
            · subst e
              rw [decide_eq_true rfl]
              exact ⟨l, rfl, l0, .inr ⟨by omega, hb, hm, .inr hd⟩⟩
            · rw [decide_eq_false (fun z => e (List.cons.inj z).1)]
              show Ok (Option.bind (atI ((brow s).take i) ((l : Int) - 1)) _) _
              refine Ok.bind (ok_atI (by omega) (by rw [hlt]; omega)) ?_
              intro v hv
              rw [show ((l : Int) - 1).toNat = l - 1 by omega, take_get' (by omega), brow_get (by omega), show l - 1 + 1 = l by omega] at hv
              have hv : v = ((lb (s.take l) : Nat) : Int) := (Option.some.inj hv).symm
              subst hv
              have hne : s.take l ≠ [] := fun z => by have := congrArg List.length z; rw [len_take (by omega)] at this; simp at this; omega
              have hbl2 := lb_bord hne
              have htt : (s.take i).take l = s.take l := by rw [List.take_take, Nat.min_eq_left (by omega)]
              have hlt2 : lb (s.take l) < l := by have := lb_lt hne; rwa [len_take (by omega)] at this
              refine Ok.some ⟨⟨lb (s.take l), rfl, fun e => by omega, .inr ⟨by omega, bord_trans hb (by rw [htt]; exact hbl2), fun b hb' hlb => ?_⟩⟩, ?_⟩
              · by_cases e1 : l < b
                · exact hm b hb' e1
                · by_cases e2 : b = l
                  · subst e2
                    rw [take_get (by omega), hd]
                    exact fun z => e (Option.some.inj z)
                  · have := bord_sub hb hb' (by omega)
                    rw [htt] at this
                    exact absurd (lb_max this) (by omega)
              · show (((lb (s.take l) : Nat) : Int)).toNat < ((l : Nat) : Int).toNat
                omega
          · refine Ok.some ?_
            have hl0 : l = 0 := by
              have := mt decide_eq_true h
              have : ¬ (0 : Int) < (l : Int) := this
              omega
            show ∃ l', _
            exact ⟨l, rfl, l0, .inr ⟨by omega, hb, hm, .inl hl0⟩⟩
        · refine Ok.some ?_
          have hi0 : i = 0 := by
            have : ¬ (0 : Int) < (i : Int) := mt decide_eq_true h
            omega
          exact ⟨l, rfl, l0, .inl hi0⟩
      · rintro _ ⟨l, rfl, l0, h1⟩
        have hgoal : ∀ L2 : Int, L2 = ((lb (s.take (i + 1)) : Nat) : Int) → (fun e => e = (brow s).take (i + 1)) ((brow s).take i ++ [L2]) := by
          rintro _ rfl
          show (brow s).take i ++ [_] = _
          rw [show (brow s).take (i + 1) = (brow s).take i ++ (brow s)[i]?.toList from List.take_add_one, brow_get hi]
          rfl
        refine Ok.bind (P := fun L2 : Int => L2 = ((lb (s.take (i + 1)) : Nat) : Int)) ?_ ?_
        · rw [take_succ' hc]
          refine Ok.bind (P := fun k => k = decide (0 < i ∧ s[l]? = some c)) ?_ ?_
          · refine ok_ite (fun h => ?_) (fun h => ?_)
            · have hi0 : (0 : Int) < (i : Int) := of_decide_eq_true h
              obtain ⟨-, hb, -, -⟩ := h1.resolve_left (by omega)
              have hbl : l < i := by have := hb.1; rw [len_take (by omega)] at this; exact this
              refine Ok.bind (ok_chI (by show (0 : Int) ≤ (l : Int); omega) (by show (l : Int) < _; omega)) ?_
              rintro _ ⟨d, hd, rfl⟩
              have hd : s[l]? = some d := hd
              refine Ok.some ?_
              rw [hd]
              exact decide_eq_decide.mpr ⟨fun z => ⟨by omega, by rw [(List.cons.inj z).1]⟩, fun z => by rw [Option.some.inj z.2]⟩
            · refine Ok.some ?_
              have : ¬ (0 : Int) < (i : Int) := mt decide_eq_true h
              rw [decide_eq_false (fun z => by omega)]
          · rintro _ rfl
            refine ok_ite (fun h => ?_) (fun h => ?_)
            · obtain ⟨hi0, hd⟩ := of_decide_eq_true h
              obtain ⟨-, hb, hm, -⟩ := h1.resolve_left (by omega)
              have hbl : l < i := by have := hb.1; rw [len_take (by omega)] at this; exact this
              refine Ok.some ?_
              rw [lb_hit hb (by rw [take_get hbl]; exact hd) hm]
              show (l : Int) + 1 = ((l + 1 : Nat) : Int)
              omega
            · refine Ok.some ?_
              have h := mt decide_eq_true h
              rcases h1 with e | ⟨hi0, hb, hm, hl⟩
              · subst e
                rw [l0 rfl]
                rfl
              · have hl0 : l = 0 := hl.resolve_right fun z => h ⟨hi0, z⟩
                subst hl0
                rw [lb_miss fun b hb' => ?_]
                by_cases e : b = 0
                · subst e
                  rw [take_get hi0]
                  exact fun z => h ⟨hi0, z⟩
                · exact hm b hb' (by omega)
        · rintro L2 hL2
          refine Ok.bind (ok_app (by omega)) ?_
          rintro _ rfl
          exact Ok.some (hgoal L2 hL2)
  · rintro _ rfl
    refine Ok.some ?_
    rw [enumI_len]
    unfold chars
    rw [List.length_map, ← brow_len, List.take_length]
end K72

namespace K72
open PySem PySem.Spec L2 M SM
/-- the row's beginning is the text's border row -/
def RowOk (t : List Nat) (row : List Int) : Prop := ∀ j, j < t.length → row[j]? = some ((lb (t.take (j + 1)) : Nat) : Int)
theorem dget_put {κ α : Type} [DecidableEq κ] (m : List (κ × α)) (k j : κ) (v : α) (h : dget m k = none) : dput m k v = m ++ [(k, v)] ∧ dget (dput m k v) j = if j = k then some v else dget m j := by
  have hn : (m.any fun kv => decide (kv.1 = k)) = false := by
    unfold dget at h
    rw [Option.map_eq_none_iff, List.find?_eq_none] at h
    rw [List.any_eq_false]
    exact h
  have e : dput m k v = m ++ [(k, v)] := by unfold dput; rw [hn]; rfl
  refine ⟨e, ?_⟩
  rw [e]
  unfold dget at h ⊢
  rw [List.find?_append]
  by_cases hj : j = k
  · subst hj
    rw [if_pos rfl]
    rw [Option.map_eq_none_iff] at h
    rw [h]
    simp
  · rw [if_neg hj]
    have : List.find? (fun kv : κ × α => decide (kv.1 = j)) [(k, v)] = none := by
      rw [List.find?_eq_none]
      intro x hx
      have : x = (k, v) := by simpa using hx
      subst this
      simpa using fun z => hj z.symm
    rw [this, Option.or_none]
/-- what the found dict tells -/
def FoundOk (t : List Nat) (m : List (List Nat × Int)) (L : Nat) : Prop :=
  ∀ c : Nat, ((∃ b, Bord t b ∧ L ≤ b ∧ t[b]? = some c) → dget m [c] = some ((lb (t ++ [c]) : Nat) : Int)) ∧ ((¬ ∃ b, Bord t b ∧ L ≤ b ∧ t[b]? = some c) → dget m [c] = none)
theorem next_lengths_ok (t : List Nat) (row : List Int) (ht : t.length ≤ 1000) (h : RowOk t row) : Ok (f_next_lengths t row) (fun m => ∀ c : Nat, (dget m [c]).getD 0 = ((lb (t ++ [c]) : Nat) : Int)) := by
  unfold f_next_lengths
  refine ok_ite (fun e => ?_) (fun e => ?_)
  · have e : t = [] := of_decide_eq_true e
    subst e
    exact Ok.some fun c => rfl
  · have hne : t ≠ [] := fun z => e (decide_eq_true z)
    have hp := List.length_pos_iff.mpr hne
    have hrl : t.length ≤ row.length := by
      have := (List.getElem?_eq_some_iff.mp (h (t.length - 1) (by omega))).1
      omega
    refine Ok.bind (ok_atI (by omega) (by omega)) ?_
    intro v hv
    rw [show ((t.length : Int) - 1).toNat = t.length - 1 by omega, h _ (by omega), show t.length - 1 + 1 = t.length by omega, List.take_length] at hv
    have hv : v = ((lb t : Nat) : Int) := (Option.some.inj hv).symm
    subst hv
    refine ok_thenR (N := fun _ => False) (ok_while (fun e : List (List Nat × Int) × Int => ∃ l : Nat, e.2 = (l : Int) ∧ Bord t l ∧ FoundOk t e.1 (l + 1) ∧ e.1.length + l ≤ t.length) (fun e => e.2.toNat) _ _ ⟨lb t, rfl, lb_bord hne, fun c => ⟨fun ⟨b, h1, h2, _⟩ => absurd (lb_max h1) (by omega), fun _ => rfl⟩, ?_⟩ ?_) (fun _ hf => hf.elim)
    · have := lb_lt hne
      show 0 + lb t ≤ _
      omega
    · rintro ⟨m, L⟩ ⟨l, rfl, hb, hf, hl⟩
      refine Ok.some ?_
      rw [if_pos rfl]
      have hbl := hb.1
      refine Ok.bind (ok_chI (by show (0 : Int) ≤ (l : Int); omega) (by show (l : Int) < _; omega)) ?_
      rintro _ ⟨c, hc, rfl⟩
      have hc : t[l]? = some c := hc
      refine Ok.bind (P := fun m' => FoundOk t m' l ∧ m'.length ≤ m.length + 1) ?_ ?_
      · refine ok_ite (fun hh => ?_) (fun hh => ?_)
        · -- a new letter
          have hd : dget m [c] = none := by
            cases hd : dget m [c] with
            | none => rfl
            | some z =>
              have hh : (!(dget m [c]).isSome) = true := hh
              rw [hd] at hh
              cases hh
          have hno : ¬ ∃ b, Bord t b ∧ l + 1 ≤ b ∧ t[b]? = some c := fun z => by
            rw [(hf c).1 z] at hd
            cases hd
          refine Ok.bind (ok_gd (P := fun z => z = dput m [c] ((l : Int) + 1)) (by have : m.length + l ≤ t.length := hl; rw [sizeLine_eq]; omega) rfl) ?_
          rintro _ rfl
          have hlb : lb (t ++ [c]) = l + 1 := lb_hit hb hc fun b hb' hlb hcb => hno ⟨b, hb', hlb, hcb⟩
          refine Ok.some ⟨fun d => ?_, by rw [(dget_put m [c] [c] ((l : Int) + 1) hd).1, List.length_append]; exact Nat.le_refl _⟩
          rw [(dget_put m [c] [d] ((l : Int) + 1) hd).2]
          by_cases e : d = c
          · subst e
            rw [if_pos rfl]
            refine ⟨fun _ => ?_, fun hn => absurd ⟨l, hb, Nat.le_refl _, hc⟩ hn⟩
            rw [hlb]
            rfl
          · rw [if_neg (fun z => e (List.cons.inj z).1)]
            refine ⟨fun ⟨b, h1, h2, h3⟩ => (hf d).1 ⟨b, h1, ?_, h3⟩, fun hn => (hf d).2 fun ⟨b, h1, h2, h3⟩ => hn ⟨b, h1, by omega, h3⟩⟩
            rcases Nat.lt_or_eq_of_le h2 with z | z
            · exact z
            · subst z
              rw [hc] at h3
              exact absurd (Option.some.inj h3).symm e
        · -- one that is found
          have hd : (dget m [c]).isSome = true := by
            cases hd : (dget m [c]).isSome with
            | true => rfl
            | false =>
              have hh : ¬ (!(dget m [c]).isSome) = true := hh
              rw [hd] at hh
              exact absurd rfl hh
          have hyes : ∃ b, Bord t b ∧ l + 1 ≤ b ∧ t[b]? = some c := Classical.byContradiction fun z => by
            rw [(hf c).2 z] at hd
            cases hd
          refine Ok.some ⟨fun d => ?_, Nat.le_succ _⟩
          refine ⟨fun ⟨b, h1, h2, h3⟩ => ?_, fun hn => (hf d).2 fun ⟨b, h1, h2, h3⟩ => hn ⟨b, h1, by omega, h3⟩⟩
          rcases Nat.lt_or_eq_of_le h2 with z | z
          · exact (hf d).1 ⟨b, h1, z, h3⟩
          · subst z
            rw [hc] at h3
            rw [← Option.some.inj h3]
            exact (hf c).1 hyes
      · rintro m' ⟨hf', hl'⟩
        refine ok_ite (fun e0 => ?_) (fun e0 => ?_)
        · have e0 : (l : Int) = 0 := of_decide_eq_true e0
          have e0 : l = 0 := by omega
          subst e0
          refine Ok.some ?_
          intro c
          by_cases z : ∃ b, Bord t b ∧ 0 ≤ b ∧ t[b]? = some c
          · rw [(hf' c).1 z]; rfl
          · rw [(hf' c).2 z, lb_miss fun b hb' hcb => z ⟨b, hb', Nat.zero_le _, hcb⟩]
            rfl
        · have e0 : ¬ (l : Int) = 0 := mt decide_eq_true e0
          refine Ok.bind (ok_atI (by show (0 : Int) ≤ (l : Int) - 1; omega) (by show (l : Int) - 1 < _; omega)) ?_
          intro v hv
          have hv : row[((l : Int) - 1).toNat]? = some v := hv
          rw [show ((l : Int) - 1).toNat = l - 1 by omega, h _ (by omega), show l - 1 + 1 = l by omega] at hv
          have hv : v = ((lb (t.take l) : Nat) : Int) := (Option.some.inj hv).symm
          subst hv
          have hne2 : t.take l ≠ [] := fun z => by have := congrArg List.length z; rw [len_take (by omega)] at this; simp at this; omega
          have hlt := lb_lt hne2
          rw [len_take (by omega)] at hlt
          refine Ok.some ⟨⟨lb (t.take l), rfl, bord_trans hb (lb_bord hne2), fun d => ?_, ?_⟩, ?_⟩
          · have key : (∃ b, Bord t b ∧ lb (t.take l) + 1 ≤ b ∧ t[b]? = some d) ↔ ∃ b, Bord t b ∧ l ≤ b ∧ t[b]? = some d := by
              constructor
              · rintro ⟨b, h1, h2, h3⟩
                refine ⟨b, h1, ?_, h3⟩
                by_cases z : l ≤ b
                · exact z
                · exact absurd (lb_max (bord_sub hb h1 (by omega))) (by omega)
              · rintro ⟨b, h1, h2, h3⟩
                exact ⟨b, h1, by omega, h3⟩
            show (_ → dget m' [d] = _) ∧ (_ → dget m' [d] = none)
            rw [key]
            exact hf' d
          · show m'.length + lb (t.take l) ≤ t.length
            have : m.length + l ≤ t.length := hl
            omega
          · show (((lb (t.take l) : Nat) : Int)).toNat < ((l : Nat) : Int).toNat
            omega
theorem find_loop {P : List Nat → Bool} {f : Unit → List Nat → Option (Fl Unit (Option (List Nat)))} : ∀ {xs : List (List Nat)}, (∀ x ∈ xs, f () x = if P x = true then some (.rt (some x)) else some (.nx ())) → forF f xs () = some (match xs.find? P with | some x => .rt (some x) | none => .nx ())
  | [], _ => rfl
  | x :: xs, h => by
    unfold forF
    rw [h x List.mem_cons_self]
    cases hp : P x with
    | true => rw [if_pos rfl, List.find?_cons_of_pos hp]; rfl
    | false =>
      rw [if_neg Bool.false_ne_true, List.find?_cons_of_neg (by rw [hp]; exact Bool.false_ne_true)]
      exact find_loop fun y hy => h y (List.mem_cons_of_mem _ hy)
theorem find_map {xs : List Nat} {P : List Nat → Bool} : (xs.map fun c => [c]).find? P = (xs.find? fun c => P [c]).map fun c => [c] := by
  induction xs with
  | nil => rfl
  | cons x xs ih =>
    rw [List.map_cons]
    cases h : P [x] with
    | true => rw [List.find?_cons_of_pos h, List.find?_cons_of_pos (by exact h)]; rfl
    | false => rw [List.find?_cons_of_neg (by rw [h]; exact Bool.false_ne_true), List.find?_cons_of_neg (by rw [h]; exact Bool.false_ne_true), ih]
theorem letter_for_eq (t : List Nat) (row : List Int) (l : Int) (ht : t.length ≤ 1000) (h : RowOk t row) : f_letter_for t row l = some ((c_LETTERS.find? fun c => decide (((lb (t ++ [c]) : Nat) : Int) = l)).map fun c => [c]) := by
  unfold f_letter_for
  obtain ⟨m, e, hm⟩ := next_lengths_ok t row ht h
  rw [e]
  show thenR (forF _ (chars c_LETTERS) ()) _ = _
  rw [find_loop (P := fun x => decide ((dget m x).getD 0 = l))]
  · unfold chars
    rw [find_map]
    have : (fun c : Nat => decide ((dget m [c]).getD 0 = l)) = fun c => decide (((lb (t ++ [c]) : Nat) : Int) = l) := funext fun c => by rw [hm c]
    rw [this]
    cases List.find? (fun c => decide (((lb (t ++ [c]) : Nat) : Int) = l)) c_LETTERS with
    | none => rfl
    | some c => rfl
  · intro x hx
    show (if decide ((dget m x).getD 0 = l) = true then _ else _) = _
    rfl
/-! ## the least strings -/
def abc : List Nat := [97, 98, 99, 100, 101, 102]
theorem late : ∀ c ∈ ([103, 104, 105, 106, 107, 108, 109, 110, 111, 112, 113, 114, 115, 116, 117, 118, 119, 120, 121, 122] : List Nat), ¬ c ∈ abc := by decide
def pick (t : List Nat) (l : Int) : Option Nat := abc.find? fun c => decide (((lb (t ++ [c]) : Nat) : Int) = l)
theorem pick_all (t : List Nat) (l : Int) (ht : t.length ≤ 62) (ha : ∀ c ∈ t, c ∈ abc) : (c_LETTERS.find? fun c => decide (((lb (t ++ [c]) : Nat) : Int) = l)) = pick t l := by
  unfold pick
  rw [show c_LETTERS = abc ++ [103, 104, 105, 106, 107, 108, 109, 110, 111, 112, 113, 114, 115, 116, 117, 118, 119, 120, 121, 122] from rfl, List.find?_append]
  cases h : abc.find? fun c => decide (((lb (t ++ [c]) : Nat) : Int) = l) with
  | some c => rfl
  | none =>
    rw [Option.none_or, List.find?_eq_none]
    intro c hc hl
    have hl : ((lb (t ++ [c]) : Nat) : Int) = l := of_decide_eq_true hl
    have hct : c ∉ t := fun z => by
      exact late c hc (ha c z)
    have h0 : lb (t ++ [c]) = 0 := lb_miss fun b hb hcb => hct (List.mem_of_getElem? hcb)
    rw [h0] at hl
    subst hl
    rw [List.find?_eq_none] at h
    have := few_letters t.length t abc rfl (by decide) fun d hd => by
      have hn : ¬ lb (t ++ [d]) = 0 := fun z => h d hd (decide_eq_true (by rw [z]))
      obtain ⟨b, h1, h2, _⟩ := lb_pos hn
      exact ⟨b, h1, h2⟩
    have e : abc.length = 6 := rfl
    rw [e] at this
    omega
/-- the least string with the row, as far as there is one -/
def spell : List Int → List Nat → List Nat
  | [], t => t
  | l :: r, t => match pick t l with
    | none => t
    | some c => spell r (t ++ [c])
theorem rowOk_snoc {t : List Nat} {row : List Int} {c : Nat} {l : Int} (h : RowOk t row) (hr : row[t.length]? = some l) (hc : pick t l = some c) : RowOk (t ++ [c]) row := by
  intro j hj
  rw [List.length_append, List.length_singleton] at hj
  by_cases e : j < t.length
  · rw [h j e, List.take_append_of_le_length (by omega)]
  · have : j = t.length := by omega
    subst this
    rw [hr, List.take_of_length_le (by rw [List.length_append, List.length_singleton]; exact Nat.le_refl _)]
    unfold pick at hc
    have := List.find?_some hc
    rw [← of_decide_eq_true this]
theorem pick_abc {t : List Nat} {l : Int} {c : Nat} (h : pick t l = some c) : c ∈ abc := List.mem_of_find?_eq_some h
/-- what is true of the text while it is spelled -/
structure Sp (row : List Int) (i : Nat) (t : List Nat) : Prop where
  len : t.length = i
  ok : RowOk t row
  abc : ∀ c ∈ t, c ∈ abc
  rest : spell (row.drop i) t = spell row []
structure Done (row : List Int) (t : List Nat) : Prop where
  eq : t = spell row []
  len : t.length ≤ row.length
  ok : RowOk t row
theorem sp0 (row : List Int) : Sp row 0 [] := ⟨rfl, fun j hj => absurd hj (Nat.not_lt_zero _), fun c hc => (by cases hc), rfl⟩
theorem sp_stop {row : List Int} {i : Nat} {t : List Nat} {l : Int} (h : Sp row i t) (hr : row[i]? = some l) (hp : pick t l = none) : Done row t := by
  have hi := (List.getElem?_eq_some_iff.mp hr).1
  refine ⟨?_, by rw [h.len]; omega, h.ok⟩
  rw [← h.rest, List.drop_eq_getElem_cons hi]
  rw [List.getElem?_eq_getElem hi] at hr
  rw [Option.some.inj hr]
  unfold spell
  rw [hp]
theorem sp_go {row : List Int} {i c : Nat} {t : List Nat} {l : Int} (h : Sp row i t) (hr : row[i]? = some l) (hp : pick t l = some c) : Sp row (i + 1) (t ++ [c]) := by
  have hi := (List.getElem?_eq_some_iff.mp hr).1
  refine ⟨by rw [List.length_append, h.len]; rfl, rowOk_snoc h.ok (by rw [h.len]; exact hr) hp, fun d hd => ?_, ?_⟩
  · rcases List.mem_append.mp hd with z | z
    · exact h.abc d z
    · have : d = c := by simpa using z
      subst this
      exact pick_abc hp
  · rw [← h.rest, List.drop_eq_getElem_cons hi]
    rw [List.getElem?_eq_getElem hi] at hr
    rw [Option.some.inj hr]
    conv => rhs; unfold spell
    rw [hp]
theorem sp_end {row : List Int} {t : List Nat} (h : Sp row row.length t) : Done row t := by
  refine ⟨?_, by rw [h.len]; exact Nat.le_refl _, h.ok⟩
  rw [← h.rest, List.drop_length]
  rfl
theorem spelled_ok (row : List Int) (hr : row.length ≤ 62) : Ok (f_spelled_so_far row) (Done row) := by
  unfold f_spelled_so_far
  refine ok_thenR (ok_forF (Sp row) (fun _ => False) (Done row) (sp0 row) ?_) ?_
  · intro i l t hl hs
    have hi := (List.getElem?_eq_some_iff.mp hl).1
    show Ok (Option.bind (f_letter_for t row l) _) _
    rw [letter_for_eq t row l (by rw [hs.len]; omega) hs.ok, pick_all t l (by rw [hs.len]; omega) hs.abc]
    cases hp : pick t l with
    | none => exact Ok.some (sp_stop hs hl hp)
    | some c =>
      show Ok (Option.bind (catG t [c]) _) _
      refine Ok.bind (ok_cat (by rw [hs.len]; show i + 1 ≤ _; omega)) ?_
      rintro _ rfl
      exact Ok.some (sp_go hs hl hp)
  · intro t ht
    exact Ok.some (sp_end (ht.resolve_right id))
theorem last_eq (t : List Nat) (ht : t ≠ []) (hl : t.length ≤ 1000) : f_law_last t = some ((lb t : Nat) : Int) := by
  unfold f_law_last
  have hp := List.length_pos_iff.mpr ht
  rw [(ok_rngD (hi := (t.length : Int) - 1) (lo := 0) (by unfold rngOk; omega)).eq]
  refine Ok.eq (ok_thenR (ok_forF (fun i _ => ∀ b, Bord t b → b = 0 ∨ b + i < t.length) (fun _ => False) (fun a => a = ((lb t : Nat) : Int)) (fun b hb => .inr (by have := hb.1; omega)) ?_) ?_)
  · intro i v _ hv hI
    have hlen := (List.getElem?_eq_some_iff.mp hv).1
    rw [rngD_len] at hlen
    have hv' : v = (t.length : Int) - 1 - (i : Int) := by
      unfold rngD at hv
      rw [List.getElem?_map, List.getElem?_range (by omega)] at hv
      exact (Option.some.inj hv).symm
    obtain ⟨b, hb, rfl⟩ : ∃ b : Nat, b + i + 1 = t.length ∧ v = (b : Int) := ⟨t.length - 1 - i, by omega, by omega⟩
    show Ok (if decide (cut t none (some (b : Int)) = cut t (some ((t.length : Int) - (b : Int))) none) = true then _ else _) _
    rw [cut_to (by omega), cut_from (by omega), show ((t.length : Int) - (b : Int)).toNat = t.length - b by omega, Int.toNat_natCast]
    refine ok_ite (fun h => ?_) (fun h => ?_)
    · have h := of_decide_eq_true h
      refine Ok.some ?_
      show (b : Int) = _
      rw [lb_eq (b := b) ⟨by omega, h⟩ fun d hd => by have := hI d hd; omega]
    · refine Ok.some ?_
      show ∀ d, Bord t d → d = 0 ∨ d + (i + 1) < t.length
      intro d hd
      rcases hI d hd with e | e
      · exact .inl e
      · by_cases z : d = b
        · subst z
          exact absurd (decide_eq_true hd.2) h
        · right; omega
  · intro _ hI
    have hI := hI.resolve_right id
    rw [rngD_len] at hI
    refine Ok.some ?_
    have := hI (lb t) (lb_bord ht)
    have : lb t = 0 := by omega
    rw [this]
    rfl
theorem head_filter {xs : List (List Nat)} {P : List Nat → Bool} : (xs.filter P).head? = xs.find? P := List.head?_filter
theorem law_spelled_ok (row : List Int) (hr : row.length ≤ 62) : Ok (f_law_spelled row) (Done row) := by
  unfold f_law_spelled
  refine ok_thenR (ok_forF (Sp row) (fun _ => False) (Done row) (sp0 row) ?_) ?_
  · intro i l t hl hs
    have hi := (List.getElem?_eq_some_iff.mp hl).1
    have hlen := hs.len
    show Ok (Option.bind (lcM (lcF _ _) (chars [97, 98, 99, 100, 101, 102])) _) _
    rw [lcM_filterMap (k := fun x => decide (((lb (t ++ x) : Nat) : Int) = l)) (h := fun x => x)]
    · rw [List.map_id']
      have hf : (List.filter (fun x => decide (((lb (t ++ x) : Nat) : Int) = l)) (chars [97, 98, 99, 100, 101, 102])).head? = (pick t l).map fun c => [c] := by
        rw [List.head?_filter]
        unfold chars pick
        rw [find_map]
        rfl
      show Ok (if decide (((List.filter (fun x => decide (((lb (t ++ x) : Nat) : Int) = l)) (chars [97, 98, 99, 100, 101, 102])).length : Int) = 0) = true then _ else _) _
      generalize (List.filter (fun x => decide (((lb (t ++ x) : Nat) : Int) = l)) (chars [97, 98, 99, 100, 101, 102])) = good at hf
      cases good with
      | nil =>
        rw [List.head?_nil] at hf
        have hp : pick t l = none := by
          cases hp : pick t l with
          | none => rfl
          | some c => rw [hp] at hf; cases hf
        exact Ok.some (sp_stop hs hl hp)
      | cons x xs =>
        rw [List.head?_cons] at hf
        obtain ⟨c, hp⟩ : ∃ c, pick t l = some c := by
          cases hp : pick t l with
          | none => rw [hp] at hf; cases hf
          | some c => exact ⟨c, rfl⟩
        rw [hp] at hf
        have hx : x = [c] := Option.some.inj hf
        subst hx
        refine ok_ff (decide_eq_false (by rw [List.length_cons]; omega)) ?_
        rw [show atI ([c] :: xs) 0 = some [c] from atI_nat (j := 0) rfl]
        show Ok (Option.bind (catG t [c]) _) _
        refine Ok.bind (ok_cat (by show t.length + 1 ≤ _; omega)) ?_
        rintro _ rfl
        exact Ok.some (sp_go hs hl hp)
    · intro x hx
      have hx1 : ∃ c, x = [c] := by
        unfold chars at hx
        obtain ⟨c, _, rfl⟩ := List.mem_map.mp hx
        exact ⟨c, rfl⟩
      obtain ⟨c, rfl⟩ := hx1
      show ((catG t [c]).bind fun t => f_law_last t).bind _ = _
      rw [(ok_cat (show t.length + [c].length ≤ 1000000 by rw [List.length_singleton]; omega)).eq]
      show (f_law_last (t ++ [c])).bind _ = _
      rw [last_eq _ (by simp) (by rw [List.length_append, List.length_singleton]; omega)]
      rfl
    · intro x _ _
      rfl
  · intro t ht
    exact Ok.some (sp_end (ht.resolve_right id))
end K72

namespace M
open PySem PySem.Spec L2
section
variable {α β ε : Type}
theorem noL_ints {xs : List Int} (h : xs.length ≤ 1000) : noL (.tuple (xs.map PyData.int)) = true := by
  show (decide ((xs.map PyData.int).length ≤ 1000) && noLs (xs.map PyData.int)) = true
  rw [List.length_map, decide_eq_true h, noLs_of]
  · rfl
  · intro d hd
    obtain ⟨i, _, rfl⟩ := List.mem_map.mp hd
    rfl
theorem noL_strs {xs : List (List Nat)} (h : xs.length ≤ 1000) : noL (.tuple (xs.map fun a => PyData.str (tx a))) = true := by
  show (decide ((xs.map fun a => PyData.str (tx a)).length ≤ 1000) && noLs (xs.map fun a => PyData.str (tx a))) = true
  rw [List.length_map, decide_eq_true h, noLs_of]
  · rfl
  · intro d hd
    obtain ⟨i, _, rfl⟩ := List.mem_map.mp hd
    rfl
theorem isG_ints {xs : List Int} (h : xs.length ≤ 1000) : isG 8 (.tuple (xs.map PyData.int)) (.tuple (xs.map PyData.int)) = some true :=
  isG_self (noL_ints h) (Nat.le_trans ((dat_tup (K := []) dat_int).dep xs) (by decide))
theorem isG_strs {xs : List (List Nat)} (h : xs.length ≤ 1000) : isG 8 (.tuple (xs.map fun a => PyData.str (tx a))) (.tuple (xs.map fun a => PyData.str (tx a))) = some true :=
  isG_self (noL_strs h) (Nat.le_trans ((dat_tup (K := []) dat_str).dep xs) (by decide))
theorem joinT_nil_len : ∀ xs : List (List Nat), (joinT [] xs).length = (xs.map List.length).sum
  | [] => rfl
  | [p] => by simp [joinT]
  | p :: q :: r => by
    show (p ++ ([] ++ joinT [] (q :: r))).length = _
    rw [List.nil_append, List.length_append, joinT_nil_len (q :: r)]
    simp only [List.map_cons, List.sum_cons]
theorem sum_le {xs : List Nat} {k : Nat} (h : ∀ x ∈ xs, x ≤ k) : xs.sum ≤ xs.length * k := by
  induction xs with
  | nil => simp
  | cons x xs ih =>
    rw [List.sum_cons, List.length_cons, Nat.succ_mul]
    have := h x List.mem_cons_self
    have := ih fun y hy => h y (List.mem_cons_of_mem _ hy)
    omega
theorem ok_join {xs : List (List Nat)} (hl : xs.length ≤ 1000) (h : ∀ x ∈ xs, x.length ≤ 1000) : Ok (joinG [] xs) (fun t => t = joinT [] xs ∧ t.length ≤ xs.length * 1000) := by
  have := sum_le (xs := xs.map List.length) (k := 1000) fun n hn => by obtain ⟨x, hx, rfl⟩ := List.mem_map.mp hn; exact h x hx
  rw [List.length_map] at this
  refine ok_gd ?_ ⟨rfl, by rw [joinT_nil_len]; exact this⟩
  rw [List.length_nil, Nat.mul_zero]
  have : xs.length * 1000 ≤ 1000 * 1000 := Nat.mul_le_mul_right _ hl
  omega
end
end M
namespace K72
open PySem PySem.Spec L2 M SM
theorem P_len (s : List Nat) : (P s).length ≤ s.length := by
  unfold P
  refine Nat.le_trans (List.length_filter_le _ _) ?_
  rw [rng_len]
  omega
theorem right_eq (s : List Nat) (hs : s.length ≤ 1000) : f_law_right s = some true := by
  have hP := P_len s
  unfold f_law_right
  rw [law_periods_eq s hs, periods_eq s hs, borders_eq s hs, border_row_eq s hs, law_border_row_eq s hs]
  have h1 := isG_ints (xs := P s) (by omega)
  have h2 := isG_strs (xs := (P s).reverse.map fun v => cut s none (some ((s.length : Int) - v))) (by rw [List.length_map, List.length_reverse]; omega)
  have h3 := isG_ints (xs := brow s) (by rw [brow_len]; omega)
  simp only [Option.bind_some, h1, h2, h3, Bool.not_true, Bool.false_eq_true, if_false]
theorem row_right_eq (row : List Int) (hr : row.length ≤ 62) : f_law_row_right row = some true := by
  obtain ⟨own, e1, d1⟩ := law_spelled_ok row hr
  obtain ⟨own', e2, d2⟩ := spelled_ok row hr
  have : own' = own := d2.eq.trans d1.eq.symm
  subst this
  have hl := d1.len
  unfold f_law_row_right f_told_spelling f_first_fault
  rw [e1, e2]
  by_cases hf : own'.length = row.length
  · have hb : brow own' = row := by
      apply List.ext_getElem?
      intro i
      by_cases hi : i < own'.length
      · rw [brow_get hi, d1.ok i hi]
      · rw [List.getElem?_eq_none (by rw [brow_len]; omega), List.getElem?_eq_none (by omega)]
    have hd : decide ((own'.length : Int) = (row.length : Int)) = true := decide_eq_true (by omega)
    simp only [hd, Option.bind_some, if_true, law_border_row_eq own' (by omega), hb, decide_true, Bool.not_true, Bool.false_eq_true, if_false]
    rw [show isG 8 (optD (fun a => PyData.str (tx a)) (some own')) (PyData.str (tx own')) = some true from isG_self rfl (Nat.zero_le _)]
    simp only [Option.bind_some, Bool.not_true, Bool.false_eq_true, if_false]
    exact isG_self (d := PyData.none) rfl (Nat.zero_le _)
  · have hd : decide ((own'.length : Int) = (row.length : Int)) = false := decide_eq_false (by omega)
    simp only [hd, Option.bind_some, Bool.false_eq_true, if_false]
    rw [show isG 8 (optD (fun a => PyData.str (tx a)) none) PyData.none = some true from isG_self rfl (Nat.zero_le _)]
    simp only [Option.bind_some, Bool.not_true, Bool.false_eq_true, if_false]
    exact isG_self (d := PyData.int _) rfl (Nat.zero_le _)
/-! ## what is drawn -/
def Drawn (n : Nat) (ds : List Int) : Prop := ds.length = n ∧ ∀ d ∈ ds, 0 ≤ d ∧ d < 5040
theorem cell_ok (script : List Int) (k : Int) (hk : 0 ≤ k) : Ok (f_law_cell script k) (fun _ => True) := by
  unfold f_law_cell
  refine ok_ite (fun h => ?_) (fun h => Ok.some trivial)
  exact (ok_atI hk (of_decide_eq_true h)).imp fun _ _ => trivial
theorem Ok.t {α β : Type} {r : Option α} {P : α → Prop} {f : α → β} (h : Ok r P) : Ok (r.bind fun a => some (f a)) (fun _ => True) := h.bind fun _ _ => Ok.some trivial
theorem Ok.p {α β : Type} {r : Option α} {P : α → Prop} {Q : β → Prop} {f : α → β} (h : Ok r P) (k : ∀ a, P a → Q (f a)) : Ok (r.bind fun a => some (f a)) Q := h.bind fun a ha => Ok.some (k a ha)
theorem draws_ok (cell : Int) (n : Nat) (hn : n ≤ 1000) : Ok (f_law_draws cell (n : Int)) (Drawn n) := by
  unfold f_law_draws
  refine Ok.bind (P := fun e : Int × List Int => Drawn n e.2) (Ok.bind (ok_rng (lo := 0) (hi := (n : Int))) ?_) ?_
  · rintro _ rfl
    refine (ok_forN (fun i (e : Int × List Int) => e.2.length = i ∧ ∀ d ∈ e.2, 0 ≤ d ∧ d < 5040) ⟨rfl, fun d hd => by cases hd⟩ ?_).imp ?_
    · rintro i v ⟨r, ds⟩ hv ⟨hl, hd⟩
      obtain ⟨rfl, hi⟩ := rng_get hv
      have hl : ds.length = i := hl
      have app : ∀ x : Int, 0 ≤ x → x < 5040 → Ok (appG ds x) (fun z => z.length = i + 1 ∧ ∀ d ∈ z, 0 ≤ d ∧ d < 5040) := fun x h0 h1 => (ok_app (by omega)).imp fun z hz => by
        subst hz
        refine ⟨by rw [List.length_append, hl]; rfl, fun d hdm => ?_⟩
        rcases List.mem_append.mp hdm with k | k
        · exact hd d k
        · have : d = x := by simpa using k
          subst this
          exact ⟨h0, h1⟩
      refine Ok.bind (P := fun e : Int × List Int => e.2.length = i + 1 ∧ ∀ d ∈ e.2, 0 ≤ d ∧ d < 5040) ?_ (fun e he => Ok.some he)
      refine ok_ite (fun h => ?_) (fun h => ?_)
      · refine Ok.bind (app _ (mod_lt (by decide)).1 (mod_lt (by decide)).2) fun z hz => ?_
        exact Ok.some hz
      · have hm := mod_lt (i := ((if cell < 0 then -cell else cell) * 48271) + (((0 + (i : Int)) + 1) * 69621) + 11) (j := 2147483647) (by decide)
        refine Ok.bind (P := fun m : Int => True) (Ok.t (Ok.t (Ok.t (P := fun _ => True) ?_))) ?_
        · exact ok_gd (.inl (by show Int.natAbs _ < _; omega)) trivial
        · intro m _
          refine Ok.bind (app _ (mod_lt (by decide)).1 (mod_lt (by decide)).2) fun z hz => ?_
          exact Ok.some hz
    · intro e he
      rw [rng_len, show ((n : Int) - 0).toNat = n by omega] at he
      exact he
  · rintro e he
    exact Ok.some he
theorem Drawn.at {n : Nat} {ds : List Int} (h : Drawn n ds) {i : Int} (h0 : 0 ≤ i) (h1 : i < n) : Ok (atI ds i) (fun d => 0 ≤ d ∧ d < 5040) := ok_atI_all h0 (by rw [h.1]; exact h1) h.2
theorem text_ok (ds : List Int) (len : Nat) (ls : List Nat) (hn : 3 ≤ ds.length) (hn2 : ds.length ≤ 1000) (hlen : len ≤ 100) (hls : 0 < ls.length) (hls2 : ls.length ≤ 1000) : Ok (f_law_text ds (len : Int) ls) (fun t => t.length = len) := by
  have at_ : ∀ i : Int, 0 ≤ i → i < ds.length → Ok (atI ds i) (fun _ => True) := fun i h0 h1 => (ok_atI h0 h1).imp fun _ _ => trivial
  unfold f_law_text
  refine Ok.bind (Ok.t (Ok.t (at_ 0 (by decide) (by omega)))) fun way _ => ?_
  refine Ok.bind (P := fun z => 0 < z) (Ok.p (P := fun z => 0 ≤ z) (Ok.p (Ok.t (at_ 1 (by decide) (by omega))) fun b _ => (mod_lt (by decide)).1) fun b hb => by omega) fun size hsize => ?_
  refine Ok.bind (P := fun t : List Nat => t.length = len) (Ok.bind (ok_rng (lo := 0) (hi := (len : Int))) ?_) ?_
  · rintro _ rfl
    refine (ok_forN (fun i (e : List Nat) => e.length = i) rfl ?_).imp ?_
    · rintro i v t hv hl
      obtain ⟨rfl, hi⟩ := rng_get hv
      refine Ok.bind (P := fun k : Int => 0 ≤ k) ?_ ?_
      · refine ok_ite (fun h => Ok.some (by show (0 : Int) ≤ 0 + (i : Int); omega)) (fun h => ?_)
        exact (ok_mod hsize).imp fun z hz => by subst hz; exact (mod_lt hsize).1
      · intro k hk
        refine Ok.bind (P := fun z : List Nat => z.length = i + 1) ?_ fun z hz => Ok.some hz
        have hpos : (0 : Int) < (ds.length : Int) - 2 := by omega
        refine Ok.bind (P := fun c : List Nat => c.length = 1) ?_ fun c hc => (ok_cat (by have hl : List.length t = i := hl; show t.length + c.length ≤ _; omega)).imp fun z hz => by
          subst hz
          have hl : List.length t = i := hl
          rw [List.length_append, hc]; show t.length + 1 = _; omega
        refine Ok.bind (P := fun j : Int => 0 ≤ j ∧ j < ls.length) ?_ fun j hj => (ok_chI hj.1 hj.2).imp fun c hc => by obtain ⟨d, _, rfl⟩ := hc; rfl
        refine Ok.bind (P := fun _ => True) (Ok.t (Ok.t (P := fun _ => True) (Ok.bind (P := fun j : Int => 0 ≤ j ∧ j < ds.length) (Ok.p (P := fun j : Int => 0 ≤ j ∧ j < (ds.length : Int) - 2) ((ok_mod hpos).imp fun z hz => by subst hz; exact mod_lt hpos) fun j hj => ⟨by omega, by omega⟩) fun j hj => at_ j hj.1 hj.2))) fun b _ => ?_
        exact (ok_mod (by omega)).imp fun z hz => by subst hz; exact mod_lt (by omega)
    · intro t ht
      rw [rng_len, show ((len : Int) - 0).toNat = len by omega] at ht
      exact ht
  · intro t ht
    refine Ok.bind (P := fun t : List Nat => t.length = len) ?_ fun t ht => Ok.some ht
    refine ok_ite (fun h => ?_) (fun h => Ok.some ht)
    have hpos : (0 : Int) < (len : Int) := by
      rw [Bool.and_eq_true] at h
      exact of_decide_eq_true h.2
    refine Ok.bind (P := fun a : Int => 0 ≤ a ∧ a < (len : Int)) (Ok.bind (Ok.t (Ok.t (at_ 1 (by decide) (by omega)))) fun b _ => (ok_mod hpos).imp fun z hz => by subst hz; exact mod_lt hpos) fun a ha => ?_
    refine Ok.bind (P := fun z : List Nat => z.length = len) ?_ fun z hz => Ok.some hz
    rw [cut_to ha.1, cut_from (by omega)]
    refine Ok.bind (P := fun z : List Nat => z.length = a.toNat + 1) ?_ fun z hz => (ok_cat (by rw [List.length_drop]; omega)).imp fun y hy => by
      subst hy
      rw [List.length_append, List.length_drop, hz]; omega
    refine Ok.bind (P := fun c : List Nat => c.length = 1) ?_ fun c hc => (ok_cat (by rw [List.length_take]; omega)).imp fun y hy => by
      subst hy
      rw [List.length_append, List.length_take, hc]; omega
    refine Ok.bind (P := fun j : Int => 0 ≤ j ∧ j < ls.length) ?_ fun j hj => (ok_chI hj.1 hj.2).imp fun c hc => by obtain ⟨d, _, rfl⟩ := hc; rfl
    refine Ok.bind (Ok.t (Ok.t (at_ 0 (by decide) (by omega)))) fun b _ => ?_
    exact (ok_mod (by omega)).imp fun z hz => by subst hz; exact mod_lt (by omega)
theorem cut_le {α : Type} {xs : List α} {lo hi : Option Int} {n : Nat} (h : xs.length ≤ n) : (cut xs lo hi).length ≤ n := Nat.le_trans (cut_len _ _ _) h
theorem ok_cat' {α : Type} {a b : List α} {m n : Nat} (ha : a.length ≤ m) (hb : b.length ≤ n) (h : m + n ≤ 1000) : Ok (catG a b) (fun z => z.length ≤ m + n) := (ok_cat (by omega)).imp fun z hz => by subst hz; rw [List.length_append]; omega
theorem bent_ok (row ds : List Int) (most : Int) (hr : row.length ≤ 20) (hd : Drawn 3 ds) (hm : 0 ≤ most) : Ok (f_law_bent row ds most) (fun z => z.length ≤ 50) := by
  unfold f_law_bent
  refine Ok.bind (P := fun _ => True) (Ok.bind (P := fun _ => True) (Ok.bind (P := fun _ => True) ((hd.at (i := 0) (by decide) (by decide)).imp fun _ _ => trivial) fun _ _ => Ok.some trivial) fun _ _ => Ok.some trivial) fun way _ => ?_
  refine Ok.bind (P := fun _ => True) (Ok.bind (P := fun _ => True) (Ok.bind (P := fun _ => True) ((hd.at (i := 1) (by decide) (by decide)).imp fun _ _ => trivial) fun _ _ => Ok.some trivial) fun _ _ => (ok_mod (by omega)).imp fun _ _ => trivial) fun at_ _ => ?_
  refine Ok.bind (P := fun _ => True) ?_ fun odd _ => ?_
  · refine Ok.bind (P := fun z : List Int => z.length = 3) ?_ fun z hz => ?_
    · refine Ok.bind (P := fun _ => True) ?_ fun b _ => Ok.some rfl
      refine Ok.bind (P := fun _ => True) (Ok.bind (P := fun _ => True) (Ok.bind (P := fun _ => True) ((hd.at (i := 2) (by decide) (by decide)).imp fun _ _ => trivial) fun _ _ => Ok.some trivial) fun _ _ => (ok_mod (by omega)).imp fun _ _ => trivial) fun _ _ => Ok.some trivial
    · refine Ok.bind (P := fun j : Int => 0 ≤ j ∧ j < 3) ?_ fun j hj => (ok_atI hj.1 (by rw [hz]; exact hj.2)).imp fun _ _ => trivial
      refine Ok.bind (P := fun b : Int => 0 ≤ b ∧ b < 14) (Ok.bind (P := fun _ => True) (Ok.bind (P := fun _ => True) (Ok.bind (P := fun _ => True) ((hd.at (i := 2) (by decide) (by decide)).imp fun _ _ => trivial) fun _ _ => Ok.some trivial) fun _ _ => Ok.some trivial) fun _ _ => Ok.some (mod_lt (by decide))) fun b hb => Ok.some ?_
      omega
  · have c1 : ∀ lo hi, (cut row lo hi).length ≤ 20 := fun lo hi => cut_le hr
    refine ok_ite (fun _ => (ok_cat' (c1 _ _) (c1 _ _) (by decide)).imp fun z hz => Nat.le_trans hz (by decide)) fun _ => ?_
    refine ok_ite (fun _ => Ok.bind (ok_cat' (m := 20) (n := 1) (c1 _ _) (Nat.le_refl _) (by decide)) fun z hz => (ok_cat' hz (c1 _ _) (by decide)).imp fun z hz => Nat.le_trans hz (by decide)) fun _ => ?_
    refine ok_ite (fun _ => Ok.bind (ok_cat' (m := 20) (n := 1) (c1 _ _) (Nat.le_refl _) (by decide)) fun z hz => (ok_cat' hz (c1 _ _) (by decide)).imp fun z hz => Nat.le_trans hz (by decide)) fun _ => ?_
    refine ok_ite (fun _ => Ok.some (by rw [List.length_reverse]; omega)) fun _ => (ok_cat' (c1 _ _) (c1 _ _) (by decide)).imp fun z hz => Nat.le_trans hz (by decide)
end K72

namespace K72
open PySem PySem.Spec L2 M SM
theorem Drawn.cut {n : Nat} {ds : List Int} (h : Drawn n ds) {i k : Int} (h0 : 0 ≤ i) (h1 : i ≤ k) (h2 : k ≤ n) : Drawn (k.toNat - i.toNat) (cut ds (some i) (some k)) := by
  refine ⟨?_, fun d hd => h.2 d (cut_mem hd)⟩
  rw [cut_both h0 h1, List.length_take, List.length_drop, h.1]
  omega
/-- rows that are short -/
def Few (n : Nat) (rows : List (List Int)) : Prop := rows.length = n ∧ ∀ r ∈ rows, r.length ≤ 62
theorem Few.app {n : Nat} {rows : List (List Int)} {r : List Int} (h : Few n rows) (hr : r.length ≤ 62) (hn : n ≤ 1000) : Ok (appG rows r) (Few (n + 1)) := (ok_app (by rw [h.1]; omega)).imp fun z hz => by
  subst hz
  refine ⟨by rw [List.length_append, h.1]; rfl, fun x hx => ?_⟩
  rcases List.mem_append.mp hx with k | k
  · exact h.2 x k
  · have : x = r := by simpa using k
    subst this
    exact hr
theorem rows_ok (rows : List (List Int)) (h : ∀ r ∈ rows, r.length ≤ 62) {f : Unit → List Int → Option (Fl Unit Bool)} (hf : ∀ r ∈ rows, f () r = some (.nx ())) : forF f rows () = some (.nx ()) := by
  induction rows with
  | nil => rfl
  | cons r rows ih =>
    unfold forF
    rw [hf r List.mem_cons_self]
    exact ih (fun x hx => h x (List.mem_cons_of_mem _ hx)) fun x hx => hf x (List.mem_cons_of_mem _ hx)
theorem law_true (script : List Int) (hs : script.length ≤ 63) : f_law script = some true := by
  unfold f_law
  refine Ok.eq (ok_thenR (N := fun _ => True) (R := fun b => b = true) (Ok.bind (ok_rng (lo := 0) (hi := 3) (by unfold rngOk; decide)) ?_) ?_)
  · rintro _ rfl
    refine (ok_forF (fun _ _ => True) (fun _ => False) (fun b => b = true) trivial ?_).imp fun o ho => by
      cases o with
      | nx e => trivial
      | ct e => exact ho
      | bk e => exact ho
      | rt a => exact ho
    rintro i v _ hv -
    obtain ⟨rfl, hi⟩ := rng_get hv
    have hi : i < 3 := hi
    -- draws, part
    refine Ok.bind (P := Drawn 20) (Ok.bind (P := fun t => t.2 = 20) (Ok.p (cell_ok _ _ (by omega)) fun _ _ => rfl) fun t ht => ?_) fun draws hd => ?_
    · rw [ht]; exact draws_ok _ 20 (by decide)
    refine Ok.bind (P := Drawn 24) (Ok.bind (P := fun t => t.2 = 24) (Ok.p (cell_ok _ _ (by omega)) fun _ _ => rfl) fun t ht => ?_) fun part hp => ?_
    · rw [ht]; exact draws_ok _ 24 (by decide)
    -- the length
    refine Ok.bind (P := fun z : Int => ∃ n : Nat, n ≤ 16 ∧ z = (n : Int)) (Ok.bind (P := fun j : Int => 0 ≤ j ∧ j < 8) (Ok.p (Ok.t (hd.at (by decide) (by decide))) fun _ _ => mod_lt (by decide)) fun j hj => ok_atI_all hj.1 hj.2 ?_) ?_
    · intro x hx
      have : x = 9 ∨ x = 16 ∨ x = 5 ∨ x = 12 ∨ x = 3 ∨ x = 1 ∨ x = 0 ∨ x = 14 := by simpa using hx
      exact ⟨x.toNat, by omega, by omega⟩
    rintro _ ⟨n, hn, rfl⟩
    -- the text
    refine Ok.bind (P := fun t : List Nat => t.length = n) ?_ fun text ht => ?_
    · refine Ok.bind (P := fun t => t.1 = part ∧ t.2.1 = (n : Int) ∧ 0 < t.2.2.length ∧ t.2.2.length ≤ 1000) (Ok.p (P := fun t => t.1 = (n : Int) ∧ 0 < t.2.length ∧ t.2.length ≤ 1000) (Ok.p (P := fun ls : List Nat => 0 < ls.length ∧ ls.length ≤ 1000) (Ok.bind (P := fun j : Int => 0 ≤ j ∧ j < 4) (Ok.p (Ok.t (hd.at (by decide) (by decide))) fun _ _ => mod_lt (by decide)) fun j hj => ok_atI_all hj.1 hj.2 ?_) fun ls hl => ⟨rfl, hl⟩) fun t ht => ⟨rfl, ht⟩) fun t ht => ?_
      · intro x hx
        have : x = [97, 98] ∨ x = [97, 98, 99] ∨ x = [97] ∨ x = [120, 121, 122] := by simpa using hx
        rcases this with e | e | e | e <;> subst e <;> exact ⟨by decide, by decide⟩
      · rw [ht.1, ht.2.1]
        exact text_ok part n t.2.2 (by rw [hp.1]; decide) (by rw [hp.1]; decide) (by omega) ht.2.2.1 ht.2.2.2
    -- if not right ..
    refine Ok.bind (P := fun b => b = false) ?_ ?_
    · rw [right_eq text (by omega)]
      refine Ok.bind (P := fun b => b = false) (Ok.some rfl) ?_
      rintro _ rfl
      refine Ok.p (P := fun b => b = true) ?_ fun b hb => by subst hb; rfl
      refine Ok.bind (P := fun t : List Nat => t.length ≤ 40) ?_ fun t ht => ⟨true, right_eq t (by omega), rfl⟩
      refine Ok.bind (P := fun z : List Nat => z.length ≤ 16) (Ok.p (Ok.t (Ok.t (Ok.t (hd.at (i := 2) (by decide) (by decide))))) fun c _ => cut_le (by omega)) fun z hz => ?_
      exact (ok_cat (by omega)).imp fun y hy => by subst hy; rw [List.length_append]; omega
    rintro _ rfl
    refine ok_ff rfl ?_
    -- the rows
    rw [law_border_row_eq text (by omega)]
    have hrow : (brow text).length ≤ 16 := by rw [brow_len]; omega
    generalize hrw : brow text = row at hrow
    have c1 : ∀ lo hi, (cut row lo hi).length ≤ 16 := fun lo hi => cut_le hrow
    refine Ok.bind (P := fun r => r = row) (Ok.some rfl) ?_
    rintro _ rfl
    refine Ok.bind (P := Few 6) ?_ fun rows hR => ?_
    · have cc : ∀ {a b : List Int} {m k : Nat}, a.length ≤ m → b.length ≤ k → m + k ≤ 62 → Ok (catG a b) (fun z => z.length ≤ 62) := fun ha hb h => (ok_cat' ha hb (by omega)).imp fun z hz => by omega
      refine Ok.p (P := Few 5) ?_ fun rs h => ⟨by rw [List.length_cons, h.1], fun r hr => ?_⟩
      · refine Ok.p (P := Few 4) ?_ fun rs h => ⟨by rw [List.length_cons, h.1], fun r hr => ?_⟩
        · refine Ok.bind (cc hrow (c1 _ _) (by decide)) fun a ha => Ok.p (P := Few 3) ?_ fun rs h => ⟨by rw [List.length_cons, h.1], fun r hr => ?_⟩
          · refine Ok.bind (cc (k := 1) (c1 _ _) (Nat.le_refl _) (by decide)) fun a ha => Ok.p (P := Few 2) ?_ fun rs h => ⟨by rw [List.length_cons, h.1], fun r hr => ?_⟩
            · refine Ok.bind (cc (k := 1) hrow (Nat.le_refl _) (by decide)) fun a ha => Ok.p (P := Few 1) ?_ fun rs h => ⟨by rw [List.length_cons, h.1], fun r hr => ?_⟩
              · refine Ok.p (cc (m := 1) (Nat.le_refl _) hrow (by decide)) fun a ha => ⟨rfl, fun r hr => ?_⟩
                have : r = a := by simpa using hr
                subst this
                exact ha
              · rcases List.mem_cons.mp hr with e | e
                · subst e; exact ha
                · exact h.2 r e
            · rcases List.mem_cons.mp hr with e | e
              · subst e; exact ha
              · exact h.2 r e
          · rcases List.mem_cons.mp hr with e | e
            · subst e; exact ha
            · exact h.2 r e
        · rcases List.mem_cons.mp hr with e | e
          · subst e; rw [List.length_reverse]; omega
          · exact h.2 r e
      · rcases List.mem_cons.mp hr with e | e
        · subst e; omega
        · exact h.2 r e
    refine Ok.bind (P := Few 10) (Ok.bind (ok_rng (lo := 0) (hi := 4) (by unfold rngOk; decide)) ?_) fun rows hR => ?_
    · rintro _ rfl
      refine (ok_forN (fun i e => i ≤ 4 ∧ Few (6 + i) e) ⟨by decide, hR⟩ ?_).imp fun z hz => by
        have : (rng 0 4).length = 4 := rng_len 0 4
        rw [this] at hz
        exact hz.2
      rintro j u e hu ⟨hj, hE⟩
      obtain ⟨rfl, hj4⟩ := rng_get hu
      have hj4 : j < 4 := hj4
      have hD : ∀ j : Nat, j < 4 → Drawn 3 (M.cut draws (some ((3 : Int) + 3 * (0 + (j : Int)))) (some ((6 : Int) + 3 * (0 + (j : Int))))) := fun j hj => by
        have h := hd.cut (i := (3 : Int) + 3 * (0 + (j : Int))) (k := (6 : Int) + 3 * (0 + (j : Int))) (by omega) (by omega) (by omega)
        rw [show ((6 : Int) + 3 * (0 + (j : Int))).toNat - ((3 : Int) + 3 * (0 + (j : Int))).toNat = 3 by omega] at h
        exact h
      refine Ok.bind (P := fun z => j + 1 ≤ 4 ∧ Few (6 + (j + 1)) z) (Ok.bind (bent_ok _ _ _ (by omega) (hD j hj4) (Int.natCast_nonneg _)) fun z hz => (hE.app (r := z) (by omega) (by omega)).imp fun y hy => ⟨by omega, hy⟩) fun z hz => Ok.some hz
    -- at
    refine Ok.bind (P := fun a : Int => 0 ≤ a ∧ a ≤ (n : Int)) (Ok.bind (Ok.t (hd.at (i := 15) (by decide) (by decide))) fun b _ => (ok_mod (by omega)).imp fun z hz => by
      subst hz
      have := mod_lt (i := b) (j := (n : Int) + 1) (by omega)
      omega) fun a ha => ?_
    refine Ok.bind (P := Few 11) (Ok.bind (Ok.bind (ok_cat' (m := 16) (n := 16) (c1 _ _) (by rw [List.length_map]; exact c1 _ _) (by decide)) fun z hz => ok_cat' hz (c1 _ _) (by decide)) fun z hz => hR.app (by omega) (by decide)) fun rows hR => ?_
    refine Ok.bind (P := Few 12) (Ok.bind (Ok.bind (P := fun z : List Int => z.length ≤ 16) (ok_gd ⟨by omega, by omega, by decide⟩ (by unfold rep; rw [len_rep]; show _ * 1 ≤ 16; omega)) fun z hz => ok_cat' (c1 _ _) hz (by decide)) fun z hz => hR.app (by omega) (by decide)) fun rows hR => ?_
    refine Ok.bind (P := Few 13) (Ok.bind (P := fun z : List Int => z.length ≤ 24) (Ok.p ((ok_mapO (fun _ _ => True) fun i x _ => (ok_mod (by have := mod_lt (i := x) (j := 3) (by decide); omega)).imp fun _ _ => trivial).imp fun z hz => hz.1) fun z hz => by
      rw [hz]
      exact cut_le (by rw [hp.1]; decide)) fun z hz => hR.app (by omega) (by decide)) fun rows hR => ?_
    refine Ok.bind (P := Few 14) (Ok.bind (P := fun z : List Int => z.length ≤ 24) (Ok.p (P := fun z : List Int => z.length ≤ 24) (Ok.bind (ok_rng (lo := 0) (hi := (n : Int))) ?_) fun z hz => hz) fun z hz => hR.app (by omega) (by decide)) fun rows hR => ?_
    · rintro _ rfl
      refine (ok_mapO (fun _ _ => True) fun i x hx => ?_).imp fun z hz => by rw [hz.1, rng_len]; omega
      obtain ⟨rfl, hi⟩ := rng_get hx
      refine Ok.bind (Ok.t (Ok.t (Ok.t (hp.at (i := 0 + (i : Int)) (by omega) (by omega))))) fun b _ => ?_
      exact ok_ite (fun _ => Ok.some trivial) fun _ => Ok.some trivial
    refine ok_thenG (N := fun _ => True) (R := fun _ => False) ?_ (fun e _ => Ok.some trivial) (fun a h => h.elim)
    rw [rows_ok rows hR.2 fun r hr => by
      show Option.bind (Option.bind (f_law_row_right r) _) _ = _
      rw [row_right_eq r (hR.2 r hr)]
      rfl]
    exact Ok.some trivial
  · intro _ _
    refine Ok.bind (P := fun t : List Nat => t.length ≤ 1000) ?_ fun long hl => ?_
    · refine Ok.bind (P := fun xs : List (List Nat) => xs.length ≤ 30 ∧ ∀ x ∈ xs, x.length ≤ 1) (Ok.p (P := Drawn 30) ?_ fun xs hx => ⟨by rw [List.length_map, hx.1]; decide, fun x hm => ?_⟩) fun xs hx => ?_
      · refine Ok.bind (P := fun t => t.2 = 30) (Ok.p (cell_ok _ _ (by decide)) fun _ _ => rfl) fun t ht => ?_
        rw [ht]
        exact draws_ok _ 30 (by decide)
      · obtain ⟨d, _, rfl⟩ := List.mem_map.mp hm
        show List.length (if _ then _ else _) ≤ 1
        split <;> exact Nat.le_refl _
      · refine (ok_join (by omega) fun x h => Nat.le_trans (hx.2 x h) (by decide)).imp fun t ht => ?_
        have h1 := ht.1
        rw [h1, joinT_nil_len]
        have := sum_le (xs := xs.map List.length) (k := 1) fun k hk => by obtain ⟨x, hm, rfl⟩ := List.mem_map.mp hk; exact hx.2 x hm
        rw [List.length_map] at this
        omega
    · rw [row_right_eq _ (by decide), row_right_eq _ (by decide), row_right_eq _ (by decide)]
      exact ⟨true, right_eq long hl, rfl⟩
end K72

open PySem PySem.W PyProof.Rows in
set_option maxHeartbeats 0 in
theorem PySem.Challenge.cw_wordmoot_k72_whole_periods_and_border_ro_holds : PySem.Challenge.rw_wordmoot_k72_whole_periods_and_border_ro.Holds := by
  w_on; o_law; k_head; (case hw => w_witness2)
  k_fill
  refine L2.walk_of (l := PySem.Challenge.rw_wordmoot_k72_whole_periods_and_border_ro) (n := 63) (k := 14) (x := "script") (CX := fun _ => L2.CX0) (sp := fun w => M.spOf (M.rOne (M.cLst (M.cInt (K := _)))) M.cBool K72.f_law) rfl (by decide) rfl ⟨rfl, by decide, by decide⟩ (fun w h Y => PySem.W.kIn_of Y) ?F (fun _ _ a ns hl _ hS => M.law_sp K72.law_true hl hS) (fun _ _ _ _ _ h => h)
  case F =>
    intro w mg fa h KX G hmg
    refine' K72.all_mk KX G hmg ⟨?z_len, ?z_tuple, ?z_range, ?z_int, ?z_bool, ?z_str, ?z_abs, ?z_isinstance, ?z_enumerate, ?z_all, ?z_any, ?z_min, ?z_max, ?z_sum, ?z_sorted, ?z_set, ?z_list, ?z_dict, ?z_zip⟩ (M.dk_mk ?a0 ?l0 ?c0 ?k0) (M.dk_mk ?a1 ?l1 ?c1 ?k1) (M.dk_mk ?a2 ?l2 ?c2 ?k2) (M.dk_mk ?a3 ?l3 ?c3 ?k3) (M.dk_mk ?a4 ?l4 ?c4 ?k4) (M.dk_mk ?a5 ?l5 ?c5 ?k5) (M.dk_mk ?a6 ?l6 ?c6 ?k6) (M.dk_mk ?a7 ?l7 ?c7 ?k7) (M.dk_mk ?a8 ?l8 ?c8 ?k8) (M.dk_mk ?a9 ?l9 ?c9 ?k9) (M.dk_mk ?a10 ?l10 ?c10 ?k10) (M.dk_mk ?a11 ?l11 ?c11 ?k11) (M.dk_mk ?a12 ?l12 ?c12 ?k12) (M.dk_mk ?a13 ?l13 ?c13 ?k13) (M.dk_mk ?a14 ?l14 ?c14 ?k14) (M.dk_mk ?a15 ?l15 ?c15 ?k15) (M.dk_mk ?a16 ?l16 ?c16 ?k16) (M.dk_mk ?a17 ?l17 ?c17 ?k17) (M.dk_mk ?a18 ?l18 ?c18 ?k18) (M.dk_mk ?a19 ?l19 ?c19 ?k19) (M.dk_mk ?a20 ?l20 ?c20 ?k20) (M.gs_of (s := "abcdefghijklmnopqrstuvwxyz") KX G ?vConst0)
    (case z_len => k_is)
    (case z_tuple => k_is)
    (case z_range => k_is)
    (case z_int => k_is)
    (case z_bool => k_is)
    (case z_str => k_is)
    (case z_abs => k_is)
    (case z_isinstance => k_is)
    (case z_enumerate => k_is)
    (case z_all => k_is)
    (case z_any => k_is)
    (case z_min => k_is)
    (case z_max => k_is)
    (case z_sum => k_is)
    (case z_sorted => k_is)
    (case z_set => k_is)
    (case z_list => k_is)
    (case z_dict => k_is)
    (case z_zip => k_is)
    (case a0 => k_is); (case l0 => k_is); (case c0 => k_is); (case k0 => k_is)
    (case a1 => k_is); (case l1 => k_is); (case c1 => k_is); (case k1 => k_is)
    (case a2 => k_is); (case l2 => k_is); (case c2 => k_is); (case k2 => k_is)
    (case a3 => k_is); (case l3 => k_is); (case c3 => k_is); (case k3 => k_is)
    (case a4 => k_is); (case l4 => k_is); (case c4 => k_is); (case k4 => k_is)
    (case a5 => k_is); (case l5 => k_is); (case c5 => k_is); (case k5 => k_is)
    (case a6 => k_is); (case l6 => k_is); (case c6 => k_is); (case k6 => k_is)
    (case a7 => k_is); (case l7 => k_is); (case c7 => k_is); (case k7 => k_is)
    (case a8 => k_is); (case l8 => k_is); (case c8 => k_is); (case k8 => k_is)
    (case a9 => k_is); (case l9 => k_is); (case c9 => k_is); (case k9 => k_is)
    (case a10 => k_is); (case l10 => k_is); (case c10 => k_is); (case k10 => k_is)
    (case a11 => k_is); (case l11 => k_is); (case c11 => k_is); (case k11 => k_is)
    (case a12 => k_is); (case l12 => k_is); (case c12 => k_is); (case k12 => k_is)
    (case a13 => k_is); (case l13 => k_is); (case c13 => k_is); (case k13 => k_is)
    (case a14 => k_is); (case l14 => k_is); (case c14 => k_is); (case k14 => k_is)
    (case a15 => k_is); (case l15 => k_is); (case c15 => k_is); (case k15 => k_is)
    (case a16 => k_is); (case l16 => k_is); (case c16 => k_is); (case k16 => k_is)
    (case a17 => k_is); (case l17 => k_is); (case c17 => k_is); (case k17 => k_is)
    (case a18 => k_is); (case l18 => k_is); (case c18 => k_is); (case k18 => k_is)
    (case a19 => k_is); (case l19 => k_is); (case c19 => k_is); (case k19 => k_is)
    (case a20 => k_is); (case l20 => k_is); (case c20 => k_is); (case k20 => k_is)
    (case vConst0 => k_is)
