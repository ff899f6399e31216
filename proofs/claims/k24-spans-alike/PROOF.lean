import PyProof.Rows.All
import Wide.All
import OpenK.AllK
import Wide.FinOn
import HandS.ForMost
import HandS.Exc
import HandS.Star
import HandS.MakeKw
import HandS.Defaults
import HandS.DictComp
import HandS.IsInst
import HandS.WideBits
import HandS.TupAny
import HandS.Conv
import HandS.Flow
import HandS.Nested
import HandS.EndTab
import HandS.HeadWalk
import HandS.SetKeys
import HandS.SetBool
import HandS.TupSets
import HandS.Deep
import HandS.SortKw
import HandS.SlotsOwn
import HandS.Zip
import HandS.TupLen
import HandS.More
import KE.SortData
import KE.SortKeyHeap
import KE.KDictKeyed
import KE.KDictCopyH
import HandS.Walk
import HandS.MakeKwOnly
import PySem.Challenge.RW_worthstead_k24_whole_alike_formulas_span
set_option Elab.async false
set_option linter.all false
set_option maxRecDepth 100000
set_option maxHeartbeats 4000000
/-! spans of integer rows over the fractions, triangular lists, their lengths -/
namespace KtL
abbrev Vec := Nat → Int

inductive Sp (L : List Vec) : Vec → Prop
  | zero : Sp L (fun _ => 0)
  | mem {v : Vec} : v ∈ L → Sp L v
  | add {v w : Vec} : Sp L v → Sp L w → Sp L (fun i => v i + w i)
  | smul (k : Int) {v : Vec} : Sp L v → Sp L (fun i => k * v i)
  | div {c : Int} {v : Vec} : c ≠ 0 → Sp L (fun i => c * v i) → Sp L v

theorem Sp.mono {L M : List Vec} (h : ∀ v ∈ L, Sp M v) {v : Vec} (s : Sp L v) : Sp M v := by
  induction s with
  | zero => exact .zero
  | mem hv => exact h _ hv
  | add _ _ a b => exact .add a b
  | smul k _ a => exact .smul k a
  | div hc _ a => exact .div hc a

/-- v is p w + q u up to a factor -/
theorem Sp.comb {L : List Vec} {v w u : Vec} {c p q : Int} (hc : c ≠ 0) (e : ∀ i, c * v i = p * w i + q * u i) (hw : Sp L w) (hu : Sp L u) : Sp L v := by
  refine .div hc ?_
  have : (fun i => c * v i) = (fun i => p * w i + q * u i) := funext e
  rw [this]
  exact .add (.smul p hw) (.smul q hu)

/-- a linear form that is 0 on L is 0 on its span -/
theorem Sp.form {L : List Vec} (f : Vec → Int) (fz : f (fun _ => 0) = 0) (fa : ∀ v w : Vec, f (fun i => v i + w i) = f v + f w) (fs : ∀ (k : Int) (v : Vec), f (fun i => k * v i) = k * f v)
    (h : ∀ v ∈ L, f v = 0) {v : Vec} (s : Sp L v) : f v = 0 := by
  induction s with
  | zero => exact fz
  | mem hv => exact h _ hv
  | add _ _ a b => rw [fa, a, b]; rfl
  | smul k _ a => rw [fs, a, Int.mul_zero]
  | div hc _ a =>
    rw [fs] at a
    exact (Int.mul_eq_zero.mp a).resolve_left hc

theorem Sp.at_zero {L : List Vec} (p : Nat) (h : ∀ v ∈ L, v p = 0) {v : Vec} (s : Sp L v) : v p = 0 :=
  s.form (fun v => v p) rfl (fun _ _ => rfl) (fun _ _ => rfl) h

theorem Sp.cons {L : List Vec} {b v : Vec} (s : Sp L v) : Sp (b :: L) v := s.mono fun _ h => .mem (List.mem_cons_of_mem _ h)

/-- the first row split off -/
theorem Sp.split {L : List Vec} {b v : Vec} (h : Sp (b :: L) v) : ∃ (c a : Int) (s : Vec), c ≠ 0 ∧ Sp L s ∧ ∀ i, c * v i = a * b i + s i := by
  induction h with
  | zero => exact ⟨1, 0, fun _ => 0, by decide, .zero, fun i => by simp⟩
  | @mem v hv =>
    rcases List.mem_cons.mp hv with e | hv
    · exact ⟨1, 1, fun _ => 0, by decide, .zero, fun i => by rw [e]; simp⟩
    · exact ⟨1, 0, v, by decide, .mem hv, fun i => by simp⟩
  | @add v w _ _ iv iw =>
    obtain ⟨c, a, s, hc, hs, e⟩ := iv
    obtain ⟨c', a', s', hc', hs', e'⟩ := iw
    refine ⟨c * c', c' * a + c * a', fun i => c' * s i + c * s' i, Int.mul_ne_zero hc hc', .add (.smul _ hs) (.smul _ hs'), fun i => ?_⟩
    have h1 := e i
    have h2 := e' i
    grind
  | @smul k v _ iv =>
    obtain ⟨c, a, s, hc, hs, e⟩ := iv
    refine ⟨c, k * a, fun i => k * s i, hc, .smul _ hs, fun i => ?_⟩
    have h1 := e i
    grind
  | @div d v hd _ iv =>
    obtain ⟨c, a, s, hc, hs, e⟩ := iv
    refine ⟨c * d, a, s, Int.mul_ne_zero hc hd, hs, fun i => ?_⟩
    have h1 := e i
    grind

theorem Sp.nil {v : Vec} (h : Sp [] v) (i : Nat) : v i = 0 := h.at_zero i (by simp)

/-- rows with leads: each row is not 0 at its lead, and the later ones are 0 there -/
inductive Tri : List (Nat × Vec) → Prop
  | nil : Tri []
  | cons {p : Nat} {r : Vec} {T : List (Nat × Vec)} : r p ≠ 0 → (∀ x ∈ T, x.2 p = 0) → Tri T → Tri ((p, r) :: T)

def rowsOf (T : List (Nat × Vec)) : List Vec := T.map (·.2)
theorem mem_rows {T : List (Nat × Vec)} {v : Vec} : v ∈ rowsOf T ↔ ∃ x ∈ T, x.2 = v := List.mem_map

theorem Tri.snoc {T : List (Nat × Vec)} {p : Nat} {r : Vec} (t : Tri T) (h0 : r p ≠ 0) (h : ∀ x ∈ T, r x.1 = 0) : Tri (T ++ [(p, r)]) := by
  induction t with
  | nil => exact .cons h0 (by simp) .nil
  | @cons q s T hs hz _ ih =>
    refine .cons hs (fun x hx => ?_) (ih fun x hx => h x (List.mem_cons_of_mem _ hx))
    rcases List.mem_append.mp hx with hx | hx
    · exact hz x hx
    · rw [List.mem_singleton.mp hx]
      exact h (q, s) List.mem_cons_self

/-- what is 0 at all leads and in the span is 0 -/
theorem Tri.zero {T : List (Nat × Vec)} (t : Tri T) : ∀ {v : Vec}, Sp (rowsOf T) v → (∀ x ∈ T, v x.1 = 0) → ∀ i, v i = 0 := by
  induction t with
  | nil => exact fun s _ => s.nil
  | @cons p r T hr hz _ ih =>
    intro v s hv
    obtain ⟨c, a, u, hc, hu, e⟩ := Sp.split (b := r) (L := rowsOf T) s
    have up : u p = 0 := hu.at_zero p fun w hw => by
      obtain ⟨x, hx, ex⟩ := mem_rows.mp hw
      rw [← ex]
      exact hz x hx
    have vp : v p = 0 := hv (p, r) List.mem_cons_self
    have e1 := e p
    rw [vp, up, Int.mul_zero, Int.add_zero] at e1
    have ha : a = 0 := (Int.mul_eq_zero.mp e1.symm).resolve_right hr
    refine ih (.div hc ?_) fun x hx => hv x (List.mem_cons_of_mem _ hx)
    have : (fun i => c * v i) = u := funext fun i => by rw [e i, ha]; simp
    rw [this]
    exact hu

/-- every row can be brought to 0 at all leads -/
theorem Tri.reduce {T : List (Nat × Vec)} (t : Tri T) : ∀ v : Vec, ∃ (c : Int) (s r : Vec), c ≠ 0 ∧ Sp (rowsOf T) s ∧ (∀ i, r i = c * v i + s i) ∧ ∀ x ∈ T, r x.1 = 0 := by
  induction t with
  | nil => exact fun v => ⟨1, fun _ => 0, v, by decide, .zero, fun i => by simp, by simp⟩
  | @cons p b T hb hz _ ih =>
    intro v
    obtain ⟨c, s, r, hc, hs, e, hr⟩ := ih fun i => b p * v i - v p * b i
    have sp : s p = 0 := hs.at_zero p fun w hw => by
      obtain ⟨x, hx, ex⟩ := mem_rows.mp hw
      rw [← ex]
      exact hz x hx
    refine ⟨c * b p, fun i => (- (c * v p)) * b i + s i, r, Int.mul_ne_zero hc hb, .add (.smul _ (.mem List.mem_cons_self)) hs.cons, fun i => ?_, fun x hx => ?_⟩
    · have h1 := e i
      grind
    · rcases List.mem_cons.mp hx with rfl | hx
      · have h1 := e p
        rw [sp] at h1
        show r p = 0
        grind
      · exact hr x hx

/-- one generator less, at most one row less -/
theorem Tri.drop {L : List Vec} {b : Vec} {T : List (Nat × Vec)} (t : Tri T) : (∀ x ∈ T, Sp (b :: L) x.2) →
    (∀ x ∈ T, Sp L x.2) ∨ ∃ w : Vec, w ∈ rowsOf T ∧ (∃ (c a : Int) (s : Vec), a ≠ 0 ∧ Sp L s ∧ ∀ i, c * w i = a * b i + s i) ∧
      ∃ T' : List (Nat × Vec), Tri T' ∧ T'.length + 1 = T.length ∧ (∀ x ∈ T', Sp L x.2) ∧ ∀ x ∈ T', ∀ q, (∀ y ∈ T, y.2 q = 0) → x.2 q = 0 := by
  induction t with
  | nil => exact fun _ => .inl (by simp)
  | @cons p r T hr hz ht ih =>
    intro hS
    obtain ⟨c, a, s, hc, hs, e⟩ := (hS (p, r) List.mem_cons_self).split
    have e : ∀ i, c * r i = a * b i + s i := e
    rcases ih fun x hx => hS x (List.mem_cons_of_mem _ hx) with h | ⟨w, hw, ⟨c', a', s', ha', hs', e'⟩, T', t', hl, h', hv⟩
    · by_cases ha : a = 0
      · refine .inl fun x hx => ?_
        rcases List.mem_cons.mp hx with rfl | hx
        · refine .div hc ?_
          have : (fun i => c * r i) = s := funext fun i => by rw [e i, ha]; simp
          show Sp L (fun i => c * r i)
          rw [this]
          exact hs
        · exact h x hx
      · refine .inr ⟨r, List.mem_cons_self, ⟨c, a, s, ha, hs, e⟩, T, ht, rfl, h, fun x hx q hq => hq x (List.mem_cons_of_mem _ hx)⟩
    · obtain ⟨y, hy, ey⟩ := mem_rows.mp hw
      have wp : w p = 0 := by rw [← ey]; exact hz y hy
      have r'p : (fun i => a' * c * r i - a * c' * w i) p ≠ 0 := by
        show a' * c * r p - a * c' * w p ≠ 0
        rw [wp, Int.mul_zero, Int.sub_zero]
        exact Int.mul_ne_zero (Int.mul_ne_zero ha' hc) hr
      refine .inr ⟨w, mem_rows.mpr ⟨y, List.mem_cons_of_mem _ hy, ey⟩, ⟨c', a', s', ha', hs', e'⟩, (p, fun i => a' * c * r i - a * c' * w i) :: T', .cons r'p (fun x hx => hv x hx p hz) t', by
        rw [List.length_cons, List.length_cons, hl], fun x hx => ?_, fun x hx q hq => ?_⟩
      · rcases List.mem_cons.mp hx with rfl | hx
        · refine Sp.comb (c := 1) (p := a') (q := -a) (by decide) (fun i => ?_) hs hs'
          have h1 := e i
          have h2 := e' i
          show 1 * (a' * c * r i - a * c' * w i) = a' * s i + -a * s' i
          grind
        · exact h' x hx
      · rcases List.mem_cons.mp hx with rfl | hx
        · have h1 : r q = 0 := hq (p, r) List.mem_cons_self
          have h2 : w q = 0 := by rw [← ey]; exact hq y (List.mem_cons_of_mem _ hy)
          show a' * c * r q - a * c' * w q = 0
          rw [h1, h2]
          simp
        · exact hv x hx q fun y hy => hq y (List.mem_cons_of_mem _ hy)

/-- a triangular list in the span of some rows is not longer than they are many -/
theorem Tri.le : ∀ (L : List Vec) {T : List (Nat × Vec)}, Tri T → (∀ x ∈ T, Sp L x.2) → T.length ≤ L.length
  | [], T, t, h => by
    cases t with
    | nil => exact Nat.le_refl _
    | @cons p r T hr _ _ => exact absurd ((h (p, r) List.mem_cons_self).nil p) hr
  | b :: L, T, t, h => by
    rcases t.drop h with h' | ⟨_, _, _, T', t', hl, h', _⟩
    · exact Nat.le_succ_of_le (Tri.le L t h')
    · have := Tri.le L t' h'
      rw [List.length_cons]
      omega

/-! ### what the elimination makes, said by its outcome -/
/-- r is what is left of v: v by a factor, less a sum of the base, 0 at all leads -/
structure Left (T : List (Nat × Vec)) (v r : Vec) : Prop where
  comb : ∃ (c a : Int) (s : Vec), c ≠ 0 ∧ a ≠ 0 ∧ Sp (rowsOf T) s ∧ ∀ i, c * r i = a * v i + s i
  zero : ∀ x ∈ T, r x.1 = 0
/-- T is a base of the rows L -/
structure Base (L : List Vec) (T : List (Nat × Vec)) : Prop where
  tri : Tri T
  sub : ∀ x ∈ T, Sp L x.2
  sup : ∀ v ∈ L, Sp (rowsOf T) v

theorem Base.nil : Base [] [] := ⟨.nil, by simp, by simp⟩
theorem Left.none {T : List (Nat × Vec)} {v r : Vec} (h : Left T v r) (hr : ∀ i, r i = 0) : Sp (rowsOf T) v := by
  obtain ⟨c, a, s, hc, ha, hs, e⟩ := h.comb
  refine Sp.comb (c := a) (p := -1) (q := 0) ha (fun i => ?_) hs hs
  have h1 := e i
  have h2 := hr i
  grind
theorem Left.all {L : List Vec} {T : List (Nat × Vec)} {v r : Vec} (B : Base L T) (h : Left T v r) (hv : Sp (rowsOf T) v) : ∀ i, r i = 0 := by
  obtain ⟨c, a, s, hc, ha, hs, e⟩ := h.comb
  refine B.tri.zero (.div hc ?_) h.zero
  have : (fun i => c * r i) = fun i => a * v i + s i := funext e
  rw [this]
  exact .add (.smul a hv) hs
theorem Base.same {L : List Vec} {T : List (Nat × Vec)} {v r : Vec} (B : Base L T) (h : Left T v r) (hr : ∀ i, r i = 0) : Base (L ++ [v]) T := by
  refine ⟨B.tri, fun x hx => (B.sub x hx).mono fun w hw => .mem (List.mem_append_left _ hw), fun w hw => ?_⟩
  rcases List.mem_append.mp hw with hw | hw
  · exact B.sup w hw
  · rw [List.mem_singleton.mp hw]
    exact h.none hr
theorem Base.more {L : List Vec} {T : List (Nat × Vec)} {v r : Vec} {p : Nat} (B : Base L T) (h : Left T v r) (hr : r p ≠ 0) : Base (L ++ [v]) (T ++ [(p, r)]) := by
  obtain ⟨c, a, s, hc, ha, hs, e⟩ := h.comb
  have up : ∀ {w : Vec}, Sp (rowsOf T) w → Sp (rowsOf (T ++ [(p, r)])) w := fun q => q.mono fun w hw => by
    obtain ⟨x, hx, ex⟩ := mem_rows.mp hw
    exact .mem (mem_rows.mpr ⟨x, List.mem_append_left _ hx, ex⟩)
  refine ⟨B.tri.snoc hr h.zero, fun x hx => ?_, fun w hw => ?_⟩
  · rcases List.mem_append.mp hx with hx | hx
    · exact (B.sub x hx).mono fun w hw => .mem (List.mem_append_left _ hw)
    · rw [List.mem_singleton.mp hx]
      refine Sp.comb (c := c) (p := a) (q := 1) hc (fun i => by rw [e i, Int.one_mul]) (.mem (List.mem_append_right _ (List.mem_singleton.mpr rfl))) ?_
      refine hs.mono fun w hw => ?_
      obtain ⟨x, hx, ex⟩ := mem_rows.mp hw
      rw [← ex]
      exact (B.sub x hx).mono fun w hw => .mem (List.mem_append_left _ hw)
  · rcases List.mem_append.mp hw with hw | hw
    · exact up (B.sup w hw)
    · rw [List.mem_singleton.mp hw]
      refine Sp.comb (c := a) (p := c) (q := -1) (w := r) (u := s) ha (fun i => ?_) (.mem (mem_rows.mpr ⟨(p, r), List.mem_append_right _ (List.mem_singleton.mpr rfl), rfl⟩)) (up hs)
      have h1 := e i
      grind

/-- the law's own test of one space -/
theorem one_space {L M : List Vec} {T U : List (Nat × Vec)} (B : Base L T) (C : Base M U) (hL : ∀ v ∈ L, Sp M v) (hM : ∀ v ∈ M, Sp L v) : T.length = U.length ∧ ∀ v ∈ M, Sp (rowsOf T) v := by
  have inT : ∀ v ∈ M, Sp (rowsOf T) v := fun v hv => (hM v hv).mono B.sup
  have inU : ∀ v ∈ L, Sp (rowsOf U) v := fun v hv => (hL v hv).mono C.sup
  have lr : ∀ X : List (Nat × Vec), (rowsOf X).length = X.length := fun X => by unfold rowsOf; rw [List.length_map]
  have h1 := B.tri.le (rowsOf U) fun x hx => (B.sub x hx).mono inU
  have h2 := C.tri.le (rowsOf T) fun x hx => (C.sub x hx).mono inT
  rw [lr] at h1 h2
  exact ⟨Nat.le_antisymm h1 h2, inT⟩
/-- a form that is 0 on the second rows and not on the first: the test is not passed -/
theorem not_one {L M : List Vec} {T U : List (Nat × Vec)} (B : Base L T) (C : Base M U) (f : Vec → Int) (fz : f (fun _ => 0) = 0) (fa : ∀ v w : Vec, f (fun i => v i + w i) = f v + f w) (fs : ∀ (k : Int) (v : Vec), f (fun i => k * v i) = k * f v)
    (hM : ∀ v ∈ M, f v = 0) (hL : ∃ v ∈ L, f v ≠ 0) (hl : T.length = U.length) (hin : ∀ v ∈ M, Sp (rowsOf T) v) : False := by
  have fU : ∀ w ∈ rowsOf U, f w = 0 := fun w hw => by
    obtain ⟨x, hx, ex⟩ := mem_rows.mp hw
    rw [← ex]
    exact (C.sub x hx).form f fz fa fs hM
  obtain ⟨v, hv, hne⟩ := hL
  obtain ⟨c, s, r, hc, hs, e, hz⟩ := C.tri.reduce v
  have fr : f r ≠ 0 := by
    have e1 : r = fun i => c * v i + s i := funext e
    rw [e1, fa (fun i => c * v i) s, fs, hs.form f fz fa fs fU, Int.add_zero]
    exact Int.mul_ne_zero hc hne
  obtain ⟨p, hp⟩ : ∃ p, r p ≠ 0 := by
    refine Classical.byContradiction fun hn => fr ?_
    have : r = fun _ => 0 := funext fun i => Classical.byContradiction fun hi => hn ⟨i, hi⟩
    rw [this, fz]
  have inU : ∀ w ∈ rowsOf U, Sp (rowsOf T) w := fun w hw => by
    obtain ⟨x, hx, ex⟩ := mem_rows.mp hw
    rw [← ex]
    exact (C.sub x hx).mono hin
  have t := (C.tri.snoc hp hz).le (rowsOf T) fun x hx => by
    rcases List.mem_append.mp hx with hx | hx
    · exact inU _ (mem_rows.mpr ⟨x, hx, rfl⟩)
    · rw [List.mem_singleton.mp hx]
      have e1 : r = fun i => c * v i + s i := funext e
      show Sp (rowsOf T) r
      rw [e1]
      exact .add (.smul c (B.sup v hv)) (hs.mono inU)
  have lr : (rowsOf T).length = T.length := by unfold rowsOf; rw [List.length_map]
  rw [List.length_append, List.length_singleton, lr] at t
  omega
/-- .. and where a form is 0 on the first rows and not on the second -/
theorem not_in {L M : List Vec} {T : List (Nat × Vec)} (B : Base L T) (f : Vec → Int) (fz : f (fun _ => 0) = 0) (fa : ∀ v w : Vec, f (fun i => v i + w i) = f v + f w) (fs : ∀ (k : Int) (v : Vec), f (fun i => k * v i) = k * f v)
    (hL : ∀ v ∈ L, f v = 0) (hM : ∃ v ∈ M, f v ≠ 0) (hin : ∀ v ∈ M, Sp (rowsOf T) v) : False := by
  obtain ⟨v, hv, hne⟩ := hM
  refine hne ((hin v hv).form f fz fa fs fun w hw => ?_)
  obtain ⟨x, hx, ex⟩ := mem_rows.mp hw
  rw [← ex]
  exact (B.sub x hx).form f fz fa fs hL
end KtL
/-! full columns on full tables: what they span, by shadows -/
namespace KtL
section
variable {A : Type}
/-- a sum over a list -/
def sm : List A → (A → Int) → Int
  | [], _ => 0
  | a :: l, f => f a + sm l f
theorem sm_app (l m : List A) (f : A → Int) : sm (l ++ m) f = sm l f + sm m f := by
  induction l with
  | nil => simp [sm]
  | cons a l ih => simp only [List.cons_append, sm, ih]; omega
theorem sm_map {B : Type} (l : List B) (h : B → A) (f : A → Int) : sm (l.map h) f = sm l fun b => f (h b) := by
  induction l with
  | nil => rfl
  | cons a l ih => simp only [List.map_cons, sm, ih]
theorem sm_flat {B : Type} (l : List B) (h : B → List A) (f : A → Int) : sm (l.flatMap h) f = sm l fun b => sm (h b) f := by
  induction l with
  | nil => rfl
  | cons a l ih => simp only [List.flatMap_cons, sm_app, sm, ih]
theorem sm_mul (l : List A) (k : Int) (f : A → Int) : (sm l fun a => f a * k) = sm l f * k := by
  induction l with
  | nil => simp [sm]
  | cons a l ih => simp only [sm, ih, Int.add_mul]
theorem sm_lmul (l : List A) (k : Int) (f : A → Int) : (sm l fun a => k * f a) = k * sm l f := by
  induction l with
  | nil => simp [sm]
  | cons a l ih => simp only [sm, ih, Int.mul_add]
theorem sm_congr {l : List A} {f g : A → Int} (h : ∀ a ∈ l, f a = g a) : sm l f = sm l g := by
  induction l with
  | nil => rfl
  | cons a l ih => simp only [sm, h a List.mem_cons_self, ih fun b hb => h b (List.mem_cons_of_mem _ hb)]
theorem sm_zero (l : List A) : (sm l fun _ => 0) = 0 := by
  induction l with
  | nil => rfl
  | cons a l ih => simp only [sm, ih]; rfl
theorem sm_add (l : List A) (f g : A → Int) : (sm l fun a => f a + g a) = sm l f + sm l g := by
  induction l with
  | nil => rfl
  | cons a l ih => simp only [sm, ih]; omega
/-- a product over a list -/
def pr : List A → (A → Int) → Int
  | [], _ => 1
  | a :: l, f => f a * pr l f
theorem pr_app (l m : List A) (f : A → Int) : pr (l ++ m) f = pr l f * pr m f := by
  induction l with
  | nil => simp [pr]
  | cons a l ih => simp only [List.cons_append, pr, ih, Int.mul_assoc]
theorem pr_mul (l : List A) (f g : A → Int) : (pr l fun a => f a * g a) = pr l f * pr l g := by
  induction l with
  | nil => rfl
  | cons a l ih => simp only [pr, ih]; grind
theorem pr_congr {l : List A} {f g : A → Int} (h : ∀ a ∈ l, f a = g a) : pr l f = pr l g := by
  induction l with
  | nil => rfl
  | cons a l ih => simp only [pr, h a List.mem_cons_self, ih fun b hb => h b (List.mem_cons_of_mem _ hb)]
theorem pr_one (l : List A) : (pr l fun _ => 1) = 1 := by
  induction l with
  | nil => rfl
  | cons a l ih => simp only [pr, ih]; rfl
theorem pr_zero {l : List A} {f : A → Int} {a : A} (ha : a ∈ l) (h : f a = 0) : pr l f = 0 := by
  induction l with
  | nil => simp at ha
  | cons b l ih =>
    rcases List.mem_cons.mp ha with rfl | ha
    · simp only [pr, h, Int.zero_mul]
    · simp only [pr, ih ha, Int.mul_zero]
theorem pr_map {B : Type} (l : List B) (h : B → A) (f : A → Int) : pr (l.map h) f = pr l fun b => f (h b) := by
  induction l with
  | nil => rfl
  | cons a l ih => simp only [List.map_cons, pr, ih]
end

section
variable {N : Type} [DecidableEq N]
abbrev Rw (N : Type) := List (N × Int)
/-- rows with a further name, with each of so many worths -/
def longer (rs : List (Rw N)) (x : N) (m : Nat) : List (Rw N) := (List.range m).flatMap fun (l : Nat) => rs.map (· ++ [(x, (l : Int))])
def fullFrom (rs : List (Rw N)) (ns : List (N × Nat)) : List (Rw N) := ns.foldl (fun rs q => longer rs q.1 q.2) rs
def full (ns : List (N × Nat)) : List (Rw N) := fullFrom [[]] ns
def get (r : Rw N) (x : N) : Int := (r.lookup x).getD 0

theorem sm_longer (rs : List (Rw N)) (x : N) (m : Nat) (g : N × Int → Int) : (sm (longer rs x m) fun r => pr r g) = (sm rs fun r => pr r g) * sm (List.range m) fun l => g (x, (l : Int)) := by
  unfold longer
  rw [sm_flat, ← sm_lmul]
  refine sm_congr fun l _ => ?_
  rw [sm_map, ← sm_mul]
  refine sm_congr fun r _ => ?_
  rw [pr_app]
  simp [pr]
/-- the product formula -/
theorem sm_full (g : N × Int → Int) : ∀ (ns : List (N × Nat)) (rs : List (Rw N)), (sm (fullFrom rs ns) fun r => pr r g) = (sm rs fun r => pr r g) * pr ns fun q => sm (List.range q.2) fun l => g (q.1, (l : Int))
  | [], rs => by simp [fullFrom, pr]
  | q :: ns, rs => by
    show (sm (fullFrom (longer rs q.1 q.2) ns) fun r => pr r g) = _
    rw [sm_full g ns, sm_longer]
    simp only [pr, Int.mul_assoc]
theorem sm_full0 (g : N × Int → Int) (ns : List (N × Nat)) : (sm (full ns) fun r => pr r g) = pr ns fun q => sm (List.range q.2) fun l => g (q.1, (l : Int)) := by
  unfold full
  rw [sm_full]
  simp [sm, pr]

/-- a row of these names and worths -/
inductive Fits : List (N × Nat) → Rw N → Prop
  | nil : Fits [] []
  | cons {x : N} {m l : Nat} {ns : List (N × Nat)} {r : Rw N} : l < m → Fits ns r → Fits ((x, m) :: ns) ((x, (l : Int)) :: r)
theorem mem_fullFrom : ∀ (ns : List (N × Nat)) (rs : List (Rw N)) (r : Rw N), r ∈ fullFrom rs ns ↔ ∃ a s, a ∈ rs ∧ Fits ns s ∧ r = a ++ s
  | [], rs, r => by
    refine ⟨fun h => ⟨r, [], h, .nil, by simp⟩, fun ⟨a, s, h, f, e⟩ => ?_⟩
    cases f
    rw [e, List.append_nil]
    exact h
  | (x, m) :: ns, rs, r => by
    show r ∈ fullFrom (longer rs x m) ns ↔ _
    rw [mem_fullFrom ns]
    constructor
    · rintro ⟨a, s, ha, f, rfl⟩
      obtain ⟨l, hl, ha⟩ := List.mem_flatMap.mp ha
      obtain ⟨b, hb, rfl⟩ := List.mem_map.mp ha
      exact ⟨b, (x, (l : Int)) :: s, hb, .cons (List.mem_range.mp hl) f, by simp⟩
    · rintro ⟨a, s, ha, f, rfl⟩
      cases f with
      | @cons _ _ l _ s hl f =>
        exact ⟨a ++ [(x, (l : Int))], s, List.mem_flatMap.mpr ⟨l, List.mem_range.mpr hl, List.mem_map.mpr ⟨a, ha, rfl⟩⟩, f, by simp⟩
theorem mem_full {ns : List (N × Nat)} {r : Rw N} : r ∈ full ns ↔ Fits ns r := by
  unfold full
  rw [mem_fullFrom]
  constructor
  · rintro ⟨a, s, ha, f, rfl⟩
    rw [List.mem_singleton.mp ha]
    exact f
  · exact fun f => ⟨[], r, List.mem_singleton.mpr rfl, f, rfl⟩
theorem Fits.keys {ns : List (N × Nat)} {r : Rw N} (f : Fits ns r) : r.map (·.1) = ns.map (·.1) := by
  induction f with
  | nil => rfl
  | cons _ _ ih => simp only [List.map_cons, ih]
theorem Fits.worth {ns : List (N × Nat)} {r : Rw N} (f : Fits ns r) (nd : (ns.map (·.1)).Nodup) {x : N} {m : Nat} (h : (x, m) ∈ ns) : ∃ l : Nat, l < m ∧ get r x = (l : Int) := by
  induction f with
  | nil => simp at h
  | @cons y m' l ns r hl f ih =>
    rw [List.map_cons, List.nodup_cons] at nd
    rcases List.mem_cons.mp h with e | h
    · cases e
      exact ⟨l, hl, by simp [get, List.lookup]⟩
    · obtain ⟨k, hk, e⟩ := ih nd.2 h
      have hne : x ≠ y := fun e => nd.1 (by rw [← e]; exact List.mem_map.mpr ⟨(x, m), h, rfl⟩)
      refine ⟨k, hk, ?_⟩
      unfold get at e ⊢
      rw [List.lookup_cons, beq_false_of_ne hne]
      exact e
/-- any choice is a row -/
theorem fits_of (lv : N → Nat) (f : N → Int) : ∀ xs : List N, (∀ x ∈ xs, ∃ l : Nat, l < lv x ∧ f x = (l : Int)) → Fits (xs.map fun x => (x, lv x)) (xs.map fun x => (x, f x))
  | [], _ => .nil
  | x :: xs, h => by
    obtain ⟨l, hl, e⟩ := h x List.mem_cons_self
    rw [List.map_cons, List.map_cons, e]
    exact .cons hl (fits_of lv f xs fun y hy => h y (List.mem_cons_of_mem _ hy))

/-- the factor of one name in a product over a row -/
theorem pr_at (h : Int → Int) (x : N) : ∀ (r : Rw N), (r.map (·.1)).Nodup → x ∈ r.map (·.1) → (pr r fun e => if e.1 = x then h e.2 else 1) = h (get r x)
  | [], _, hx => by simp at hx
  | (y, l) :: r, nd, hx => by
    rw [List.map_cons, List.nodup_cons] at nd
    by_cases e : y = x
    · have h1 : (pr r fun e => if e.1 = x then h e.2 else 1) = pr r fun _ => 1 := pr_congr fun q hq => if_neg fun e2 => nd.1 (by rw [e, ← e2]; exact List.mem_map.mpr ⟨q, hq, rfl⟩)
      simp [pr, h1, pr_one, e, get, List.lookup]
    · have hx' : x ∈ r.map (·.1) := by
        rcases List.mem_cons.mp hx with e2 | h2
        · exact absurd e2.symm e
        · exact h2
      have ih := pr_at h x r nd.2 hx'
      have hg : get ((y, l) :: r) x = get r x := by
        unfold get
        rw [List.lookup_cons, beq_false_of_ne (Ne.symm e)]
      rw [hg, ← ih]
      simp [pr, e]

/-- the worth of a full column in a row: numbers nm, a cell -/
def here (cell r : Rw N) : Bool := cell.all fun q => decide (get r q.1 = q.2)
def colv (nm : List N) (cell r : Rw N) : Int := (if here cell r = true then 1 else 0) * pr nm fun x => get r x
/-- .. as a product over the row -/
def cv (nm : List N) (cell : Rw N) (e : N × Int) : Int := (if e.1 ∈ nm then e.2 else 1) * (match cell.lookup e.1 with | some c => if e.2 = c then 1 else 0 | none => 1)
theorem pr_nums (r : Rw N) (nd : (r.map (·.1)).Nodup) : ∀ nm : List N, nm.Nodup → (∀ x ∈ nm, x ∈ r.map (·.1)) → (pr r fun e => if e.1 ∈ nm then e.2 else 1) = pr nm fun x => get r x
  | [], _, _ => by simp [pr_one, pr]
  | x :: nm, hn, hk => by
    rw [List.nodup_cons] at hn
    have h1 := pr_at (fun l => l) x r nd (hk x List.mem_cons_self)
    have h2 := pr_nums r nd nm hn.2 fun y hy => hk y (List.mem_cons_of_mem _ hy)
    show _ = get r x * pr nm fun x => get r x
    rw [← h1, ← h2, ← pr_mul]
    refine pr_congr fun e _ => ?_
    by_cases he : e.1 = x
    · have : e.1 ∉ nm := by rw [he]; exact hn.1
      simp [he, hn.1]
    · simp [he]
theorem pr_cell (r : Rw N) (nd : (r.map (·.1)).Nodup) : ∀ cell : Rw N, (cell.map (·.1)).Nodup → (∀ x ∈ cell.map (·.1), x ∈ r.map (·.1)) →
    (pr r fun e => match cell.lookup e.1 with | some c => if e.2 = c then (1 : Int) else 0 | none => 1) = if here cell r = true then 1 else 0
  | [], _, _ => by simp [pr_one, here]
  | (x, c) :: cell, hn, hk => by
    rw [List.map_cons, List.nodup_cons] at hn
    have h1 := pr_at (fun l => if l = c then 1 else 0) x r nd (hk x List.mem_cons_self)
    have h2 := pr_cell r nd cell hn.2 fun y hy => hk y (List.mem_cons_of_mem _ hy)
    have hl : ∀ y, y = x → cell.lookup y = none := fun y e => by
      rw [e]
      cases q : cell.lookup x with
      | none => rfl
      | some v =>
        refine absurd ?_ hn.1
        have : (x, v) ∈ cell := by
          clear h1 h2 hn hk
          induction cell with
          | nil => simp [List.lookup] at q
          | cons a cell ih =>
            obtain ⟨b, d⟩ := a
            rw [List.lookup_cons] at q
            by_cases hb : x = b
            · subst hb
              simp at q
              rw [q]
              exact List.mem_cons_self
            · rw [beq_false_of_ne hb] at q
              exact List.mem_cons_of_mem _ (ih q)
        exact List.mem_map.mpr ⟨_, this, rfl⟩
    have e1 : (pr r fun e => match ((x, c) :: cell).lookup e.1 with | some c => if e.2 = c then (1 : Int) else 0 | none => 1) =
        (pr r fun e => (if e.1 = x then (if e.2 = c then 1 else 0) else 1) * (match cell.lookup e.1 with | some c => if e.2 = c then (1 : Int) else 0 | none => 1)) := pr_congr fun e _ => by
      by_cases he : e.1 = x
      · rw [List.lookup_cons, he, beq_self_eq_true]
        simp [hl x rfl]
      · rw [List.lookup_cons, beq_false_of_ne he]
        simp [he]
    rw [e1, pr_mul, h1, h2]
    unfold here
    rw [List.all_cons]
    by_cases q : get r x = c
    · rw [decide_eq_true q, Bool.true_and, if_pos q, Int.one_mul]
    · rw [decide_eq_false q, Bool.false_and, if_neg q, Int.zero_mul, if_neg (by decide)]
theorem colv_pr {nm : List N} {cell r : Rw N} (nd : (r.map (·.1)).Nodup) (hn : nm.Nodup) (hk : ∀ x ∈ nm, x ∈ r.map (·.1)) (cn : (cell.map (·.1)).Nodup) (ck : ∀ x ∈ cell.map (·.1), x ∈ r.map (·.1)) : colv nm cell r = pr r (cv nm cell) := by
  unfold colv cv
  rw [pr_mul, pr_nums r nd nm hn hk, pr_cell r nd cell cn ck, Int.mul_comm]

/-! ### the form that parts -/
def wt (ch : List N) (e : N × Int) : Int := if e.1 ∈ ch then (if e.2 = 1 then 1 else if e.2 = 0 then -1 else 0) else if e.2 = 0 then 1 else 0
def dot : List Int → Vec → Int
  | [], _ => 0
  | a :: w, v => a * v 0 + dot w fun i => v (i + 1)
theorem dot_zero : ∀ w : List Int, dot w (fun _ => 0) = 0
  | [] => rfl
  | a :: w => by simp [dot, dot_zero w]
theorem dot_add : ∀ (w : List Int) (u v : Vec), dot w (fun i => u i + v i) = dot w u + dot w v
  | [], _, _ => rfl
  | a :: w, u, v => by
    simp only [dot, dot_add w (fun i => u (i + 1)) (fun i => v (i + 1)), Int.mul_add]
    omega
theorem dot_smul : ∀ (w : List Int) (k : Int) (v : Vec), dot w (fun i => k * v i) = k * dot w v
  | [], _, _ => by simp [dot]
  | a :: w, k, v => by
    simp only [dot, dot_smul w k fun i => v (i + 1)]
    grind
def vec (l : List Int) : Vec := fun i => l.getD i 0
theorem dot_vec {B : Type} (W C : B → Int) : ∀ rs : List B, dot (rs.map W) (vec (rs.map C)) = sm rs fun r => W r * C r
  | [] => rfl
  | r :: rs => by
    have ih := dot_vec W C rs
    have e : (fun i => vec ((r :: rs).map C) (i + 1)) = vec (rs.map C) := funext fun i => by simp [vec]
    simp only [List.map_cons, dot, sm]
    rw [List.map_cons] at e
    rw [e, ih]
    simp [vec]
theorem sum_ch {m : Nat} (hm : 2 ≤ m) (h : Int → Int) : (sm (List.range m) fun l => (if (l : Int) = 1 then 1 else if (l : Int) = 0 then -1 else 0) * h (l : Int)) = h 1 - h 0 := by
  obtain ⟨k, rfl⟩ : ∃ k, m = k + 2 := ⟨m - 2, by omega⟩
  rw [List.range_succ_eq_map, List.range_succ_eq_map]
  simp only [List.map_cons, sm, sm_map]
  have : (sm (List.range k) fun b => (if ((Nat.succ (Nat.succ b) : Nat) : Int) = 1 then 1 else if ((Nat.succ (Nat.succ b) : Nat) : Int) = 0 then -1 else 0) * h ((Nat.succ (Nat.succ b) : Nat) : Int)) = 0 := by
    refine (sm_congr fun b _ => ?_).trans (sm_zero (List.range k))
    rw [if_neg (by omega), if_neg (by omega), Int.zero_mul]
  rw [this]
  simp
  omega
theorem sum_un {m : Nat} (hm : 1 ≤ m) (h : Int → Int) : (sm (List.range m) fun l => (if (l : Int) = 0 then 1 else 0) * h (l : Int)) = h 0 := by
  obtain ⟨k, rfl⟩ : ∃ k, m = k + 1 := ⟨m - 1, by omega⟩
  rw [List.range_succ_eq_map]
  simp only [sm, sm_map]
  have : (sm (List.range k) fun b => (if ((Nat.succ b : Nat) : Int) = 0 then 1 else 0) * h ((Nat.succ b : Nat) : Int)) = 0 := by
    refine (sm_congr fun b _ => ?_).trans (sm_zero (List.range k))
    rw [if_neg (by omega), Int.zero_mul]
  rw [this]
  simp
theorem sum_pick {m v : Nat} (hv : v < m) (h : Int → Int) : (sm (List.range m) fun l => h (l : Int) * if (v : Int) = (l : Int) then 1 else 0) = h (v : Int) := by
  induction m with
  | zero => omega
  | succ m ih =>
    rw [List.range_succ, sm_app]
    by_cases e : v = m
    · have : (sm (List.range m) fun l => h (l : Int) * if (v : Int) = (l : Int) then 1 else 0) = 0 := by
        refine (sm_congr fun b hb => ?_).trans (sm_zero (List.range m))
        have := List.mem_range.mp hb
        rw [if_neg (by omega), Int.mul_zero]
      rw [this]
      simp [sm, e]
    · rw [ih (by omega)]
      have : ¬ (v : Int) = (m : Int) := by omega
      simp [sm, this]

/-! ### names, terms, shadows -/
theorem sub_filter {s l : List N} (h : s.Sublist l) (nd : l.Nodup) : s = l.filter fun x => decide (x ∈ s) := by
  induction h with
  | slnil => rfl
  | @cons s l a h ih =>
    rw [List.nodup_cons] at nd
    have ha : a ∉ s := fun q => nd.1 (h.subset q)
    rw [List.filter_cons_of_neg (by simpa using ha)]
    exact ih nd.2
  | @cons_cons s l a h ih =>
    rw [List.nodup_cons] at nd
    rw [List.filter_cons_of_pos (by simp)]
    congr 1
    rw (occs := [1]) [ih nd.2]
    refine List.filter_congr fun x hx => ?_
    have : x ≠ a := fun e => nd.1 (e ▸ hx)
    simp [this]
theorem sub_of {s t l : List N} (hs : s.Sublist l) (ht : t.Sublist l) (nd : l.Nodup) (h : ∀ x ∈ s, x ∈ t) : s.Sublist t := by
  have e : s = t.filter fun x => decide (x ∈ s) := by
    rw (occs := [1]) [sub_filter hs nd, sub_filter ht nd]
    rw [List.filter_filter]
    refine List.filter_congr fun x _ => ?_
    by_cases q : x ∈ s
    · simp [q, h x q]
    · simp [q]
  rw [e]
  exact List.filter_sublist
theorem sub_eq {s t l : List N} (hs : s.Sublist l) (ht : t.Sublist l) (nd : l.Nodup) (h : ∀ x, x ∈ s ↔ x ∈ t) : s = t := by
  rw [sub_filter hs nd, sub_filter ht nd]
  exact List.filter_congr fun x _ => by simp [h x]

/-- a table: its names with their numbers of worths, which of them are factors -/
structure Tb (N : Type) where
  names : List N
  lv : N → Nat
  fac : N → Bool
def Tb.all (t : Tb N) (xs : List N) : List (N × Nat) := xs.map fun x => (x, t.lv x)
def Tb.rows (t : Tb N) : List (Rw N) := full (t.all t.names)
def Tb.nums (t : Tb N) (term : List N) : List N := term.filter fun x => !t.fac x
def Tb.facs (t : Tb N) (term : List N) : List N := term.filter fun x => t.fac x
def Tb.col (t : Tb N) (nm : List N) (cell : Rw N) : List Int := t.rows.map (colv nm cell)
/-- the full columns of some terms -/
def Tb.cols (t : Tb N) (terms : List (List N)) : List (List Int) := terms.flatMap fun term => (full (t.all (t.facs term))).map fun cell => t.col (t.nums term) cell
/-- the shadow of some terms -/
def Tb.sh (t : Tb N) (terms : List (List N)) (nm part : List N) : Prop := ∃ term ∈ terms, t.nums term = nm ∧ part.Sublist (t.facs term)
structure Tb.Ok (t : Tb N) : Prop where
  nd : t.names.Nodup
  two : ∀ x ∈ t.names, 2 ≤ t.lv x

theorem all_keys (t : Tb N) (xs : List N) : (t.all xs).map (·.1) = xs := by
  unfold Tb.all
  rw [List.map_map]
  simp [Function.comp_def]
theorem rows_keys {t : Tb N} {r : Rw N} (h : r ∈ t.rows) : r.map (·.1) = t.names := by
  rw [(mem_full.mp h).keys, all_keys]
theorem rows_get {t : Tb N} (ok : t.Ok) {r : Rw N} (h : r ∈ t.rows) {x : N} (hx : x ∈ t.names) : ∃ l : Nat, l < t.lv x ∧ get r x = (l : Int) :=
  (mem_full.mp h).worth (by rw [all_keys]; exact ok.nd) (List.mem_map.mpr ⟨x, hx, rfl⟩)

/-- the form of a pair -/
def Tb.form (t : Tb N) (ch : List N) (v : Vec) : Int := dot (t.rows.map fun r => pr r (wt ch)) v
theorem form_col {t : Tb N} (ok : t.Ok) (ch nm : List N) (cell : Rw N) (hn : nm.Nodup) (hk : ∀ x ∈ nm, x ∈ t.names) (cn : (cell.map (·.1)).Nodup) (ck : ∀ x ∈ cell.map (·.1), x ∈ t.names) :
    t.form ch (vec (t.col nm cell)) = pr t.names fun x => if x ∈ ch then cv nm cell (x, 1) - cv nm cell (x, 0) else cv nm cell (x, 0) := by
  unfold Tb.form Tb.col
  rw [dot_vec]
  have e1 : (sm t.rows fun r => pr r (wt ch) * colv nm cell r) = sm t.rows fun r => pr r fun e => wt ch e * cv nm cell e := sm_congr fun r hr => by
    have k := rows_keys hr
    rw [colv_pr (by rw [k]; exact ok.nd) hn (by rw [k]; exact hk) cn (by rw [k]; exact ck), pr_mul]
  rw [e1]
  unfold Tb.rows
  rw [sm_full0]
  unfold Tb.all
  rw [pr_map]
  refine pr_congr fun x hx => ?_
  have h2 := ok.two x hx
  show (sm (List.range (t.lv x)) fun l => wt ch (x, (l : Int)) * cv nm cell (x, (l : Int))) = _
  by_cases hc : x ∈ ch
  · rw [if_pos hc, ← sum_ch h2 fun l => cv nm cell (x, l)]
    refine sm_congr fun l _ => ?_
    simp [wt, hc]
  · rw [if_neg hc, ← sum_un (m := t.lv x) (by omega) fun l => cv nm cell (x, l)]
    refine sm_congr fun l _ => ?_
    simp [wt, hc]

theorem lookup_none {cell : Rw N} {x : N} (h : x ∉ cell.map (·.1)) : cell.lookup x = none := by
  induction cell with
  | nil => rfl
  | cons a cell ih =>
    obtain ⟨y, c⟩ := a
    rw [List.map_cons, List.mem_cons, not_or] at h
    rw [List.lookup_cons, beq_false_of_ne h.1]
    exact ih h.2

section
variable {t : Tb N} (ok : t.Ok)
include ok
/-- a pair that is not in the shadow: its form is 0 on all columns -/
theorem form_out {terms : List (List N)} (hT : ∀ term ∈ terms, term.Sublist t.names) {nm part : List N} (hnm : nm.Sublist t.names) (hpt : part.Sublist t.names) (fn : ∀ x ∈ nm, t.fac x = false) (fp : ∀ x ∈ part, t.fac x = true) (h : ¬ t.sh terms nm part) :
    ∀ v ∈ (t.cols terms).map vec, t.form (nm ++ part) v = 0 := by
  intro v hv
  obtain ⟨l, hl, rfl⟩ := List.mem_map.mp hv
  obtain ⟨term, ht, hl⟩ := List.mem_flatMap.mp hl
  obtain ⟨cell, hc, rfl⟩ := List.mem_map.mp hl
  have ck : cell.map (·.1) = t.facs term := by rw [(mem_full.mp hc).keys, all_keys]
  have st := hT term ht
  have snm : (t.nums term).Sublist t.names := List.filter_sublist.trans st
  have sfc : (t.facs term).Sublist t.names := List.filter_sublist.trans st
  have nfac : ∀ x, x ∈ t.nums term → t.fac x = false := fun x hx => by
    have := (List.mem_filter.mp hx).2
    simpa using this
  have yfac : ∀ x, x ∈ t.facs term → t.fac x = true := fun x hx => (List.mem_filter.mp hx).2
  rw [form_col ok _ _ _ (ok.nd.sublist snm) (fun x hx => snm.subset hx) (by rw [ck]; exact ok.nd.sublist sfc) (by rw [ck]; exact fun x hx => sfc.subset hx)]
  -- a name at which they part
  have key : (∃ x ∈ nm, x ∉ t.nums term) ∨ (∃ x ∈ t.nums term, x ∉ nm) ∨ ∃ x ∈ part, x ∉ t.facs term := by
    refine Classical.byContradiction fun hn => h ⟨term, ht, ?_, ?_⟩
    · refine sub_eq snm hnm ok.nd fun x => ⟨fun hx => ?_, fun hx => ?_⟩
      · exact Classical.byContradiction fun q => hn (.inr (.inl ⟨x, hx, q⟩))
      · exact Classical.byContradiction fun q => hn (.inl ⟨x, hx, q⟩)
    · exact sub_of hpt sfc ok.nd fun x hx => Classical.byContradiction fun q => hn (.inr (.inr ⟨x, hx, q⟩))
  rcases key with ⟨x, hx, hq⟩ | ⟨x, hx, hq⟩ | ⟨x, hx, hq⟩
  · refine pr_zero (hnm.subset hx) ?_
    have l0 : cell.lookup x = none := lookup_none (by rw [ck]; exact fun q => by have := yfac x q; rw [fn x hx] at this; cases this)
    rw [if_pos (List.mem_append_left _ hx)]
    simp [cv, hq, l0]
  · refine pr_zero (snm.subset hx) ?_
    have nc : x ∉ nm ++ part := fun q => by
      rcases List.mem_append.mp q with q | q
      · exact hq q
      · have := fp x q
        rw [nfac x hx] at this
        cases this
    rw [if_neg nc]
    simp [cv, hx]
  · refine pr_zero (hpt.subset hx) ?_
    have l0 : cell.lookup x = none := lookup_none (by rw [ck]; exact hq)
    have nn : x ∉ t.nums term := fun q => by
      have := nfac x q
      rw [fp x hx] at this
      cases this
    rw [if_pos (List.mem_append_right _ hx)]
    simp [cv, nn, l0]
theorem lookup_map (f : N → Int) : ∀ (xs : List N) (x : N), x ∈ xs → (xs.map fun x => (x, f x)).lookup x = some (f x)
  | [], x, h => by simp at h
  | y :: xs, x, h => by
    rw [List.map_cons, List.lookup_cons]
    by_cases e : x = y
    · rw [e, beq_self_eq_true]
    · rw [beq_false_of_ne e]
      exact lookup_map f xs x ((List.mem_cons.mp h).resolve_left e)
/-- a pair of the shadow: its form is not 0 on some column -/
theorem form_in {terms : List (List N)} (hT : ∀ term ∈ terms, term.Sublist t.names) {nm part : List N} (h : t.sh terms nm part) : ∃ v ∈ (t.cols terms).map vec, t.form (nm ++ part) v ≠ 0 := by
  obtain ⟨term, ht, rfl, hp⟩ := h
  have st := hT term ht
  have snm : (t.nums term).Sublist t.names := List.filter_sublist.trans st
  have sfc : (t.facs term).Sublist t.names := List.filter_sublist.trans st
  have hc : ((t.facs term).map fun x => (x, if x ∈ part then (1 : Int) else 0)) ∈ full (t.all (t.facs term)) := by
    refine mem_full.mpr (fits_of t.lv _ _ fun x hx => ?_)
    have h2 := ok.two x (sfc.subset hx)
    by_cases q : x ∈ part
    · exact ⟨1, by omega, by simp [q]⟩
    · exact ⟨0, by omega, by simp [q]⟩
  refine ⟨_, List.mem_map.mpr ⟨_, List.mem_flatMap.mpr ⟨term, ht, List.mem_map.mpr ⟨_, hc, rfl⟩⟩, rfl⟩, ?_⟩
  have ck : ((t.facs term).map fun x => (x, if x ∈ part then (1 : Int) else 0)).map (·.1) = t.facs term := by
    rw [List.map_map]
    simp [Function.comp_def]
  rw [form_col ok _ _ _ (ok.nd.sublist snm) (fun x hx => snm.subset hx) (by rw [ck]; exact ok.nd.sublist sfc) (by rw [ck]; exact fun x hx => sfc.subset hx)]
  have : (pr t.names fun x => if x ∈ t.nums term ++ part then cv (t.nums term) ((t.facs term).map fun x => (x, if x ∈ part then (1 : Int) else 0)) (x, 1) - cv (t.nums term) ((t.facs term).map fun x => (x, if x ∈ part then (1 : Int) else 0)) (x, 0)
      else cv (t.nums term) ((t.facs term).map fun x => (x, if x ∈ part then (1 : Int) else 0)) (x, 0)) = pr t.names fun _ => 1 := by
    refine pr_congr fun x _ => ?_
    by_cases q1 : x ∈ t.nums term
    · have nf : t.fac x = false := by
        have := (List.mem_filter.mp q1).2
        simpa using this
      have l0 : ((t.facs term).map fun x => (x, if x ∈ part then (1 : Int) else 0)).lookup x = none := lookup_none (by
        rw [ck]
        intro q
        have := (List.mem_filter.mp q).2
        rw [nf] at this
        cases this)
      rw [if_pos (List.mem_append_left _ q1)]
      simp [cv, q1, l0]
    · by_cases q2 : x ∈ t.facs term
      · have l1 := lookup_map ok (fun x => if x ∈ part then (1 : Int) else 0) (t.facs term) x q2
        by_cases q3 : x ∈ part
        · rw [if_pos (List.mem_append_right _ q3)]
          simp [cv, q1, l1, q3]
        · rw [if_neg (by simp [q1, q3])]
          simp [cv, q1, l1, q3]
      · have q3 : x ∉ part := fun q => q2 (hp.subset q)
        have l0 : ((t.facs term).map fun x => (x, if x ∈ part then (1 : Int) else 0)).lookup x = none := lookup_none (by rw [ck]; exact q2)
        rw [if_neg (by simp [q1, q3])]
        simp [cv, q1, l0]
  rw [this, pr_one]
  decide

theorem here_pr : ∀ (c' r : Rw N), (if here c' r = true then (1 : Int) else 0) = pr c' fun e => if get r e.1 = e.2 then 1 else 0
  | [], _ => rfl
  | a :: c', r => by
    have ih := here_pr c' r
    unfold here at ih ⊢
    rw [List.all_cons]
    simp only [pr]
    rw [← ih]
    by_cases q : get r a.1 = a.2
    · rw [decide_eq_true q, Bool.true_and, if_pos q, Int.one_mul]
    · rw [decide_eq_false q, Bool.false_and, if_neg q, Int.zero_mul, if_neg (by decide)]
theorem sp_sum {L : List Vec} {B : Type} (k : B → Int) (u : B → Vec) : ∀ cs : List B, (∀ c ∈ cs, Sp L (u c)) → Sp L fun i => sm cs fun c => k c * u c i
  | [], _ => .zero
  | c :: cs, h => .add (.smul _ (h c List.mem_cons_self)) (sp_sum k u cs fun d hd => h d (List.mem_cons_of_mem _ hd))

/-- a column of a pair is a sum of columns of a pair that holds it -/
theorem col_sum {nm F F2 : List N} (h2 : F2.Sublist t.names) (hF : F.Sublist F2) (c : N → Int) (r : Rw N) (hr : r ∈ t.rows) :
    colv nm (F.map fun x => (x, c x)) r = sm (full (t.all F2)) fun c' => (pr c' fun e => if e.1 ∈ F then (if e.2 = c e.1 then 1 else 0) else 1) * colv nm c' r := by
  have e1 : (sm (full (t.all F2)) fun c' => (pr c' fun e => if e.1 ∈ F then (if e.2 = c e.1 then 1 else 0) else 1) * colv nm c' r) =
      sm (full (t.all F2)) fun c' => (pr c' fun e => (if e.1 ∈ F then (if e.2 = c e.1 then 1 else 0) else 1) * if get r e.1 = e.2 then 1 else 0) * pr nm fun x => get r x := by
    refine sm_congr fun c' _ => ?_
    rw [pr_mul]
    have : (if here c' r = true then (1 : Int) else 0) = pr c' fun e => if get r e.1 = e.2 then 1 else 0 := by
      exact here_pr ok c' r
    unfold colv
    rw [this, Int.mul_assoc]
  rw [e1, sm_mul, sm_full0]
  unfold Tb.all
  rw [pr_map]
  have e2 : (pr F2 fun x => sm (List.range (t.lv x)) fun l => (if x ∈ F then (if (l : Int) = c x then 1 else 0) else 1) * if get r x = (l : Int) then 1 else 0) = pr F2 fun x => if x ∈ F then (if get r x = c x then 1 else 0) else 1 := by
    refine pr_congr fun x hx => ?_
    obtain ⟨v, hv, e⟩ := rows_get ok hr (h2.subset hx)
    rw [e]
    exact sum_pick hv fun l => if x ∈ F then (if l = c x then 1 else 0) else 1
  show colv nm (F.map fun x => (x, c x)) r = (pr F2 fun x => sm (List.range (t.lv x)) fun l => (if x ∈ F then (if (l : Int) = c x then 1 else 0) else 1) * if get r x = (l : Int) then 1 else 0) * pr nm fun x => get r x
  rw [e2]
  unfold colv
  congr 1
  -- all of F agree
  have e3 : (if here (F.map fun x => (x, c x)) r = true then (1 : Int) else 0) = pr F2 fun x => if x ∈ F then (if get r x = c x then 1 else 0) else 1 := by
    by_cases q : ∀ x ∈ F, get r x = c x
    · have : here (F.map fun x => (x, c x)) r = true := by
        unfold here
        rw [List.all_eq_true]
        intro e he
        obtain ⟨x, hx, rfl⟩ := List.mem_map.mp he
        simpa using q x hx
      rw [if_pos this]
      refine ((pr_congr fun x _ => ?_).trans (pr_one F2)).symm
      by_cases hx : x ∈ F
      · simp [hx, q x hx]
      · simp [hx]
    · obtain ⟨x, hx⟩ := Classical.not_forall.mp q
      obtain ⟨hx, hne⟩ := Classical.not_imp.mp hx
      have : ¬ here (F.map fun x => (x, c x)) r = true := fun hh => by
        unfold here at hh
        rw [List.all_eq_true] at hh
        have := hh (x, c x) (List.mem_map.mpr ⟨x, hx, rfl⟩)
        exact hne (by simpa using this)
      rw [if_neg this, pr_zero (hF.subset hx) (by simp [hx, hne])]
  exact e3
theorem cell_fun {F : List N} (nd : F.Nodup) {cell : Rw N} (h : Fits (t.all F) cell) : cell = F.map fun x => (x, get cell x) := by
  unfold Tb.all at h
  induction F generalizing cell with
  | nil => cases h; rfl
  | cons x F ih =>
    rw [List.map_cons] at h
    rw [List.nodup_cons] at nd
    cases h with
    | @cons _ _ l _ r hl f =>
      have e := ih nd.2 f
      have e2 : (F.map fun y => (y, get ((x, (l : Int)) :: r) y)) = F.map fun y => (y, get r y) := List.map_congr_left fun y hy => by
        have : y ≠ x := fun q => nd.1 (q ▸ hy)
        unfold get
        rw [List.lookup_cons, beq_false_of_ne this]
      rw [List.map_cons, e2, ← e]
      simp [get, List.lookup]
/-- shadows that lie in one another: so do the spans -/
theorem span_in {ts us : List (List N)} (hT : ∀ term ∈ ts, term.Sublist t.names) (hU : ∀ term ∈ us, term.Sublist t.names) (h : ∀ nm part, t.sh ts nm part → t.sh us nm part) :
    ∀ v ∈ (t.cols ts).map vec, Sp ((t.cols us).map vec) v := by
  intro v hv
  obtain ⟨l, hl, rfl⟩ := List.mem_map.mp hv
  obtain ⟨term, ht, hl⟩ := List.mem_flatMap.mp hl
  obtain ⟨cell, hc, rfl⟩ := List.mem_map.mp hl
  obtain ⟨term2, ht2, e2, hs2⟩ := h (t.nums term) (t.facs term) ⟨term, ht, rfl, List.Sublist.refl _⟩
  have sfc : (t.facs term).Sublist t.names := List.filter_sublist.trans (hT term ht)
  have sfc2 : (t.facs term2).Sublist t.names := List.filter_sublist.trans (hU term2 ht2)
  have ec := cell_fun ok (ok.nd.sublist sfc) (mem_full.mp hc)
  have e : vec (t.col (t.nums term) cell) = fun i => sm (full (t.all (t.facs term2))) fun c' => (pr c' fun e => if e.1 ∈ t.facs term then (if e.2 = get cell e.1 then 1 else 0) else 1) * vec (t.col (t.nums term2) c') i := by
    funext i
    unfold vec Tb.col
    by_cases hi : i < t.rows.length
    · have g : ∀ (f : Rw N → Int), (t.rows.map f).getD i 0 = f t.rows[i] := fun f => by simp [List.getD, hi]
      rw [g, ec]
      have key := col_sum (nm := t.nums term) ok sfc2 hs2 (get cell) t.rows[i] (List.getElem_mem hi)
      rw [key]
      refine sm_congr fun c' _ => ?_
      rw [g, e2, ← ec]
    · have g : ∀ (f : Rw N → Int), (t.rows.map f).getD i 0 = 0 := fun f => by simp [List.getD, Nat.not_lt.mp hi]
      rw [g]
      refine ((sm_congr fun c' _ => ?_).trans (sm_zero (full (t.all (t.facs term2))))).symm
      rw [g, Int.mul_zero]
  rw [e]
  refine sp_sum ok _ (fun c' => vec (t.col (t.nums term2) c')) _ fun c' hc' => .mem ?_
  exact List.mem_map.mpr ⟨_, List.mem_flatMap.mpr ⟨term2, ht2, List.mem_map.mpr ⟨c', hc', rfl⟩⟩, rfl⟩

/-- THE LAW: the elimination's own test is passed just where the shadows are the same -/
theorem test_iff {ts us : List (List N)} (hT : ∀ term ∈ ts, term.Sublist t.names) (hU : ∀ term ∈ us, term.Sublist t.names) {L M : List (List Int)} (hL : ∀ v, v ∈ L ↔ v ∈ t.cols ts) (hM : ∀ v, v ∈ M ↔ v ∈ t.cols us)
    {T U : List (Nat × Vec)} (B : Base (L.map vec) T) (C : Base (M.map vec) U) :
    (T.length = U.length ∧ ∀ v ∈ M, Sp (rowsOf T) (vec v)) ↔ ∀ nm part, t.sh ts nm part ↔ t.sh us nm part := by
  have mL : ∀ v, v ∈ L.map vec ↔ v ∈ (t.cols ts).map vec := fun v => ⟨fun h => let ⟨l, h1, h2⟩ := List.mem_map.mp h; List.mem_map.mpr ⟨l, (hL l).mp h1, h2⟩, fun h => let ⟨l, h1, h2⟩ := List.mem_map.mp h; List.mem_map.mpr ⟨l, (hL l).mpr h1, h2⟩⟩
  have mM : ∀ v, v ∈ M.map vec ↔ v ∈ (t.cols us).map vec := fun v => ⟨fun h => let ⟨l, h1, h2⟩ := List.mem_map.mp h; List.mem_map.mpr ⟨l, (hM l).mp h1, h2⟩, fun h => let ⟨l, h1, h2⟩ := List.mem_map.mp h; List.mem_map.mpr ⟨l, (hM l).mpr h1, h2⟩⟩
  have kinds : ∀ {xs : List (List N)} (hx : ∀ term ∈ xs, term.Sublist t.names) {nm part : List N}, t.sh xs nm part → nm.Sublist t.names ∧ part.Sublist t.names ∧ (∀ x ∈ nm, t.fac x = false) ∧ ∀ x ∈ part, t.fac x = true := by
    intro xs hx nm part h
    obtain ⟨term, ht, rfl, hp⟩ := h
    refine ⟨List.filter_sublist.trans (hx term ht), hp.trans (List.filter_sublist.trans (hx term ht)), fun x q => ?_, fun x q => (List.mem_filter.mp (hp.subset q)).2⟩
    have := (List.mem_filter.mp q).2
    simpa using this
  constructor
  · rintro ⟨hl, hin⟩ nm part
    have hin' : ∀ v ∈ M.map vec, Sp (rowsOf T) v := fun v hv => by
      obtain ⟨l, h1, rfl⟩ := List.mem_map.mp hv
      exact hin l h1
    constructor
    · intro h
      refine Classical.byContradiction fun hn => ?_
      obtain ⟨k1, k2, k3, k4⟩ := kinds hT h
      obtain ⟨v, hv, hne⟩ := form_in ok hT h
      refine not_one B C (t.form (nm ++ part)) (dot_zero _) (dot_add _) (dot_smul _) (fun w hw => form_out ok hU k1 k2 k3 k4 hn w ((mM w).mp hw)) ⟨v, (mL v).mpr hv, hne⟩ hl hin'
    · intro h
      refine Classical.byContradiction fun hn => ?_
      obtain ⟨k1, k2, k3, k4⟩ := kinds hU h
      obtain ⟨v, hv, hne⟩ := form_in ok hU h
      exact not_in B (t.form (nm ++ part)) (dot_zero _) (dot_add _) (dot_smul _) (fun w hw => form_out ok hT k1 k2 k3 k4 hn w ((mL w).mp hw)) ⟨v, (mM v).mpr hv, hne⟩ hin'
  · intro h
    have lm : ∀ v ∈ L.map vec, Sp (M.map vec) v := fun v hv => (span_in ok hT hU (fun nm part q => (h nm part).mp q) v ((mL v).mp hv)).mono fun w hw => .mem ((mM w).mpr hw)
    have ml : ∀ v ∈ M.map vec, Sp (L.map vec) v := fun v hv => (span_in ok hU hT (fun nm part q => (h nm part).mpr q) v ((mM v).mp hv)).mono fun w hw => .mem ((mL w).mpr hw)
    obtain ⟨h1, h2⟩ := one_space B C lm ml
    exact ⟨h1, fun v hv => h2 (vec v) (List.mem_map.mpr ⟨v, hv, rfl⟩)⟩
end
end
end KtL
namespace Kt
open PySem PySem.Spec PyProof.Rows L2
/-! ### the text -/
def topS (i : Nat) : Stmt := PySem.Challenge.pw_worthstead_k24_whole_alike_formulas_span.main.body.getD i (.Pass ⟨0, 0, 0, 0⟩)
end Kt
/-! sets of nested tuples (ints, texts, tuples of these): set(xs), sorted(set(xs)) -/
namespace Kt
open PySem PySem.Spec PyProof.Rows L2
theorem nk_depth (ks : List NestedKey) : NestedKey.depth (.tup ks) = NestedKey.depthAll ks + 1 := by simp [NestedKey.depth]
section
variable {P : Program} {w : World} {A : Around} {E : Value → Shared → Prop}
/-- every item of a key's tuple -/
theorem nk_each {h : Heap} : ∀ (ks : List NestedKey) (vs : List Value) (n : Nat), NestedAll h ks vs → NestedKey.depthAll ks ≤ n → ∀ v ∈ vs, ∃ k, NestedIs h k v ∧ k.depth ≤ n
  | [], vs, n, h, _ => by
    cases h
    intro v hv
    cases hv
  | k :: ks, vs, n, h, hd => by
    cases h with
    | @cons _ v _ vs' h1 h2 =>
      simp [NestedKey.depthAll] at hd
      intro u hu
      rcases List.mem_cons.mp hu with rfl | hu
      · exact ⟨k, h1, by omega⟩
      · exact nk_each ks vs' n h2 (by omega) u hu
/-! the small questions that the set asks of a key -/
theorem nk_stmt : ∀ (n : Nat) (k : NestedKey) (v : Value) (s : Shared) (Q : Bool → Shared → Prop), NestedIs s.heap k v → k.depth ≤ n → Q false s → wpAny (model P w) A (ofAClassStatement n v) Q E s := by
  intro n
  induction n with
  | zero =>
    intro k v s Q h hd q
    cases h with
    | tup _ _ _ _ =>
      rw [nk_depth] at hd
      omega
    | _ => exact wpAny_pure q
  | succ n ih =>
    intro k v s Q h hd q
    cases h with
    | @tup a o vs m ks ho hc hdt hk =>
      rw [nk_depth] at hd
      have each := nk_each ks vs.toList n hk (by omega)
      have hT : s.TypeIs (.ref a) "tuple" := ⟨o, ho, hc⟩
      unfold ofAClassStatement
      refine wpAny_bind (wpAny_typeOf hT ?_)
      have e : (("tuple" : String) == "tuple") = true := by decide
      simp only [e, if_true]
      try refine wpAny_bind (wpAny_pure ?_)
      try simp only [Bool.not_true, Bool.false_eq_true, if_false]
      show wpAny _ _ (seqItems? (.ref a) >>= _) _ _ s
      refine wpAny_bind (wpAny_seqItems ho hdt (wpAny_bind ?_))
      show wpAny _ _ (forIn vs _ _) _ _ s
      rw [← Array.forIn_toList]
      refine wpAny_forIn_list _ (fun rest r s' => r.1 = none ∧ s' = s ∧ ∀ u ∈ rest, u ∈ vs.toList) _ ?_ ?_ _ _ ⟨rfl, rfl, fun _ h => h⟩
      · intro u rest r s' hi
        obtain ⟨hr, es, hall⟩ := hi
        subst es
        obtain ⟨k', h1, h2⟩ := each u (hall u List.mem_cons_self)
        refine wpAny_bind (ih k' u s' _ h1 h2 ?_)
        simp only [Bool.false_eq_true, if_false]
        exact wpAny_pure ⟨rfl, rfl, fun z hz => hall z (List.mem_cons_of_mem _ hz)⟩
      · rintro ⟨r1, r2⟩ s' ⟨hr, rfl, _⟩
        simp only at hr
        subst hr
        exact wpAny_pure q
    | _ => exact wpAny_pure q
theorem nk_byvalue : ∀ (n : Nat) (k : NestedKey) (v : Value) (s : Shared) (Q : Bool → Shared → Prop), NestedIs s.heap k v → (∀ b, Q b s) → wpAny (model P w) A (hashByValue n v) Q E s := by
  intro n
  induction n with
  | zero =>
    intro k v s Q h q
    cases h <;> exact wpAny_pure (q _)
  | succ n ih =>
    intro k v s Q h q
    cases h with
    | @tup a o vs m ks ho hc hdt hk =>
      have each := nk_each ks vs.toList (NestedKey.depthAll ks) hk (Nat.le_refl _)
      have hT : s.TypeIs (.ref a) "tuple" := ⟨o, ho, hc⟩
      unfold hashByValue
      refine wpAny_bind (wpAny_specialOf hT F.slot_tuple_hash.lookup ?_)
      show wpAny _ _ (seqItems? (.ref a) >>= _) _ _ s
      refine wpAny_bind (wpAny_seqItems ho hdt (wpAny_bind ?_))
      show wpAny _ _ (forIn vs _ _) _ _ s
      rw [← Array.forIn_toList]
      refine wpAny_forIn_list _ (fun rest r s' => r.1 = none ∧ s' = s ∧ ∀ u ∈ rest, u ∈ vs.toList) _ ?_ ?_ _ _ ⟨rfl, rfl, fun _ h => h⟩
      · intro u rest r s' hi
        obtain ⟨hr, es, hall⟩ := hi
        subst es
        obtain ⟨k', h1, _⟩ := each u (hall u List.mem_cons_self)
        refine wpAny_bind (ih k' u s' _ h1 fun b => ?_)
        cases b with
        | false =>
          simp only [Bool.not_false, if_true]
          exact wpAny_pure (wpAny_pure (q _))
        | true =>
          simp only [Bool.not_true, Bool.false_eq_true, if_false]
          exact wpAny_pure ⟨rfl, rfl, fun z hz => hall z (List.mem_cons_of_mem _ hz)⟩
      · rintro ⟨r1, r2⟩ s' ⟨hr, rfl, _⟩
        simp only at hr
        subst hr
        exact wpAny_pure (q _)
    | _ => exact wpAny_pure (q _)

abbrev nkIs (P : Program) (w : World) (h : Heap) (k : NestedKey) (a : Addr) : Prop := (nestedKind P w).is h k a
variable {s : Shared}
theorem nk_seen {k : NestedKey} {b : Addr} {Q : Bool → Shared → Prop} (hk : nkIs P w s.heap k b) {ys : List Value} (hy : ∀ y ∈ ys, ∃ k' c, y = Value.ref c ∧ nkIs P w s.heap k' c) (q : Q false s) : wpAny (model P w) A (searchCouldBeSeen (.ref b) ys) Q E s := by
  unfold searchCouldBeSeen
  refine wpAny_bind (wpAny_forIn_list _ (fun rest r s' => r.1 = none ∧ s' = s ∧ ∀ y ∈ rest, y ∈ ys) _ (fun y rest r s' hi => ?_) (fun r s' hi => ?_) _ _ ⟨rfl, rfl, fun _ h => h⟩)
  · obtain ⟨hr, es, hall⟩ := hi
    subst es
    obtain ⟨k', c, rfl, hc⟩ := hy y (hall y List.mem_cons_self)
    have more : ∀ z ∈ rest, z ∈ ys := fun z hz => hall z (List.mem_cons_of_mem _ hz)
    dsimp only
    by_cases hv : (b == c || (carriedByValue (.ref b) && carriedByValue (.ref c))) = true
    · exact wp_if_pos hv (wpAny_pure ⟨rfl, rfl, more⟩)
    · refine wp_if_neg hv (wpAny_bind ((nestedKind P w).quiet hk ?_))
      simp only [Bool.not_true, Bool.false_eq_true, if_false]
      refine wpAny_bind ((nestedKind P w).quiet hc ?_)
      simp only [Bool.not_true, Bool.false_eq_true, if_false]
      refine wpAny_bind (nk_stmt 8 k _ _ _ hk.1 hk.2 ?_)
      simp only [Bool.false_eq_true, if_false]
      refine wpAny_bind (nk_stmt 8 k' _ _ _ hc.1 hc.2 ?_)
      simp only [Bool.false_eq_true, if_false]
      exact wpAny_pure ⟨rfl, rfl, more⟩
  · obtain ⟨r1, r2⟩ := r
    obtain ⟨hr, es, _⟩ := hi
    simp only at hr
    subst hr es
    exact wpAny_pure q

/-! ### the set -/
abbrev nkH (w : World) (k : NestedKey) : Int := k.hash w
def nkRows (w : World) (L : List (Addr × NestedKey)) : List (Int × Value) := L.map fun p => (nkH w p.2, Value.ref p.1)
/-- at a stands a set, its entries L -/
structure NSet (P : Program) (w : World) (h : Heap) (a : Addr) (L : List (Addr × NestedKey)) (es : Array (Int × Value)) (ep : Nat) (t : SetTable) : Prop where
  ob : ∃ o, h.get? a = some o ∧ o.ExactSet ∧ o.data = .set es ep t
  rows : es.toList = nkRows w L
  tab : TabOk t (L.map fun p => nkH w p.2)
  nd : (L.map (·.2)).Nodup
  tup : ∀ p ∈ L, nkIs P w h p.2 p.1
  led : w.params.followText "set-order" = true ∨ t.led = true
  room : L.length * 5 < t.mask * 3
  few : L.length < 64
variable {a : Addr} {L : List (Addr × NestedKey)} {es : Array (Int × Value)} {ep : Nat} {t : SetTable}
theorem nk_size {es : Array (Int × Value)} {L : List (Addr × NestedKey)} (h : es.toList = nkRows w L) : es.size = L.length := by
  rw [← Array.length_toList, h]
  exact List.length_map ..
theorem nk_entry {es : Array (Int × Value)} {L : List (Addr × NestedKey)} (h : es.toList = nkRows w L) {i : Nat} {p : Addr × NestedKey} (hp : L[i]? = some p) : es[i]? = some (nkH w p.2, Value.ref p.1) := by
  rw [← Array.getElem?_toList, h]
  unfold nkRows
  rw [List.getElem?_map, hp]
  rfl
theorem nk_fits {n : Nat} (hp : t.place.size = n) (hd : t.dummies = #[]) (hm : n ≤ t.mask) : t.fits n = true := by
  unfold SetTable.fits SetTable.fill
  rw [hd, Bool.and_eq_true, beq_iff_eq, decide_eq_true_eq]
  exact ⟨hp, by rw [hp]; exact hm⟩
theorem NSet.fits (S : NSet P w s.heap a L es ep t) : t.fits es.size = true := by
  have h1 := S.tab.sz
  have h2 := S.room
  rw [List.length_map] at h1
  exact nk_fits (by rw [nk_size S.rows, h1]) S.tab.dm (by rw [nk_size S.rows]; omega)
theorem NSet.keep {h h' : Heap} (S : NSet P w h a L es ep t) (ha : ∀ o, h.get? a = some o → h'.get? a = some o) (ht : ∀ p ∈ L, nkIs P w h' p.2 p.1) : NSet P w h' a L es ep t := by
  obtain ⟨o, ho, r⟩ := S.ob
  exact { S with ob := ⟨o, ha o ho, r⟩, tup := ht }
theorem nk_same {h h' : Heap} {k : NestedKey} {b : Addr} {o : Obj} (hb : nkIs P w h k b) (ho : h.get? a = some o) (hd : o.data = .set es ep t) (hs : Heap.SameBut a h h') : nkIs P w h' k b :=
  nestedKind_stays.stays (fun c oc vs n e q => (hs.2 c fun z => by
    rw [z, ho] at e
    cases e
    rw [hd] at q
    cases q).trans e) hb
theorem nk_keep {h h' : Heap} {k : NestedKey} {b : Addr} (hb : nkIs P w h k b) (hk : ∀ c o, h.get? c = some o → h'.get? c = some o) : nkIs P w h' k b := nestedKind_stays.stays (fun c oc _ _ e _ => hk c oc e) hb

/-- the way of a key through the table -/
abbrev wayP (t : SetTable) (h : Int) : SetTable.Probe := runAt t.mask (SetTable.bits h % (t.mask + 1)) (SetTable.bits h)
theorem nth_dummy (m : Nat) : ∀ (n : Nat) (p : SetTable.Probe), p.dummy = none → (nth m p n).dummy = none
  | 0, _, h => h
  | n + 1, p, h => nth_dummy m n (adv m p) (by unfold adv; split <;> exact h)

/-- THE SEARCH, from the c-th place of the way -/
theorem nk_seek (S : NSet P w s.heap a L es ep t) {x : Addr} {k : NestedKey} (hx : nkIs P w s.heap k x) (hu : A.units + 8 < cLine) {K : Nat} (hKf : K < 10 * SetTable.turns t.mask) (hK : way t.mask (nkH w k) K ∉ t.place.toList)
    (hKb : ∀ c, c < K → way t.mask (nkH w k) c ∈ t.place.toList) {Q : SetFound → Shared → Prop} (hin : k ∈ L.map (·.2) → Q (.there none) s) (hout : k ∉ L.map (·.2) → Q (.free (way t.mask (nkH w k) K) false) s) :
    ∀ (f c : Nat) (stand : Option SetTable.Probe), stand.getD (t.probeStart (nkH w k)) = nth t.mask (wayP t (nkH w k)) c → c ≤ K → K - c < f →
      (∀ (i : Nat) p, L[i]? = some p → p.2 = k → ∃ c', c ≤ c' ∧ c' < K ∧ t.place.toList[i]? = some (way t.mask (nkH w k) c')) → wpAny (model P w) A (setSearchFrom a (.ref x) (nkH w k) true f stand) Q E s := by
  intro f
  induction f with
  | zero => exact fun c stand _ _ hf _ => absurd hf (Nat.not_lt_zero _)
  | succ f ih =>
    intro c stand hst hc hf hre
    obtain ⟨o, ho, hex, hd⟩ := S.ob
    have gw : ¬ t.gaveWay = true := by
      unfold SetTable.gaveWay
      rw [mask_odd S.tab.mok]
      decide
    have place : ∀ q, (nth t.mask (nth t.mask (wayP t (nkH w k)) c) q) = nth t.mask (wayP t (nkH w k)) (c + q) := fun q => (nth_add t.mask c _ q).symm
    have spec := go_spec t S.tab.ris S.tab.dm (fun i => (es[i]?.map (·.1)).getD 0) (nkH w k) (10 * SetTable.turns t.mask) (K - c) (nth t.mask (wayP t (nkH w k)) c) (nth_dummy _ _ _ rfl) (by omega)
      (fun q hq => by rw [place]; exact hKb (c + q) (by omega)) (by rw [place, show c + (K - c) = K by omega]; exact hK)
    have hashAt : ∀ (i : Nat) p, L[i]? = some p → (es[i]?.map (·.1)).getD 0 = nkH w p.2 := fun i p hp => by
      rw [nk_entry S.rows hp]
      rfl
    -- an entry of the key isn't passed over
    have nopass : ∀ n, (∀ k' i', k' < n → t.place.toList[i']? = some (nth t.mask (nth t.mask (wayP t (nkH w k)) c) k').j → (es[i']?.map (fun e : Int × Value => e.1)).getD 0 ≠ nkH w k) →
        ∀ (i : Nat) p, L[i]? = some p → p.2 = k → ∃ c', c + n ≤ c' ∧ c' < K ∧ t.place.toList[i]? = some (way t.mask (nkH w k) c') := fun n hno i p hp hpk => by
      obtain ⟨c', b1, b2, b3⟩ := hre i p hp hpk
      refine ⟨c', ?_, b2, b3⟩
      refine Nat.le_of_not_lt fun hlt => hno (c' - c) i (by omega) ?_ ?_
      · rw [place, show c + (c' - c) = c' by omega]
        exact b3
      · rw [hashAt i p hp, hpk]
    rw [setSearchFrom_succ]
    refine wpAny_bind (wpAny_setState_of ho hd S.fits ?_)
    dsimp only
    refine wp_if_neg gw ?_
    try refine wpAny_bind (wpAny_pure ?_)
    rw [hst]
    rcases spec with ⟨q, i, hq, hi, hh, hno, hpr⟩ | ⟨hno, hpr⟩
    · have hpr' : t.probe (fun i => (es[i]?.map (·.1)).getD 0) (nkH w k) (nth t.mask (wayP t (nkH w k)) c) = some (.candidate (way t.mask (nkH w k) (c + q)) i (nth t.mask (wayP t (nkH w k)) (c + (q + 1)))) := by
        rw [place, place] at hpr
        exact hpr
      rw [hpr']
      dsimp only
      rw [place] at hi
      have hil : i < L.length := by
        have h1 := (List.getElem?_eq_some_iff.mp hi).1
        have h2 := S.tab.sz
        rw [List.length_map] at h2
        rw [Array.length_toList] at h1
        omega
      obtain ⟨p, hp⟩ : ∃ p, L[i]? = some p := ⟨_, List.getElem?_eq_getElem hil⟩
      have hm : p ∈ L := List.mem_of_getElem? hp
      have go : wpAny (model P w) A (searchRest a (.ref x) (nkH w k) true f es t (way t.mask (nkH w k) (c + q)) i (nth t.mask (wayP t (nkH w k)) (c + (q + 1)))) Q E s := by
        unfold searchRest
        rw [nk_entry S.rows hp]
        dsimp only
        refine wpAny_bind (wpAny_holding ((nestedKind P w).eqBool hu (S.tup p hm) hx (wpAny_bind (wpAny_setState_of ho hd S.fits ?_))))
        dsimp only
        by_cases hkk : p.2 = k
        · refine wp_if_pos (by simp [hkk]) (wpAny_pure (hin (List.mem_map.mpr ⟨p, hm, hkk⟩)))
        · refine wp_if_neg (by simp [hkk]) ?_
          try refine wpAny_bind (wpAny_pure ?_)
          rw [sameMem]
          dsimp only
          have hsl := slot_live S.tab.ris hi
          simp only [if_true, hsl, nk_entry S.rows hp]
          refine wpAny_bind (wpAny_isSame_ref_self (wpAny_bind (wpAny_pure ?_)))
          simp only [if_true]
          refine wp_if_neg (by simp [hkk]) ?_
          refine ih (c + (q + 1)) _ rfl (by omega) (by omega) fun i0 p0 h0 hk0 => ?_
          obtain ⟨c', b1, b2, b3⟩ := nopass q hno i0 p0 h0 hk0
          refine ⟨c', Nat.lt_of_le_of_ne b1 fun ec => ?_, b2, b3⟩
          rw [← ec] at b3
          have s0 : SetTable.Slot.live i = .live i0 := hsl.symm.trans (slot_live S.tab.ris b3)
          injection s0 with s0
          rw [← s0, hp] at h0
          cases h0
          exact hkk hk0
      by_cases hl : t.led = true
      · refine wp_if_neg (by simp [hl]) ?_
        try refine wpAny_bind (wpAny_pure ?_)
        exact go
      · refine wp_if_pos (by simp [hl]) (wpAny_bind (nk_seen hx (fun y hy => ?_) (wp_if_neg (by decide) ?_)))
        · obtain ⟨e, he, ee⟩ := List.mem_map.mp hy
          have he1 : e ∈ es ∧ e.1 = nkH w k := by simpa using he
          have he2 : e ∈ nkRows w L := by
            rw [← S.rows]
            simpa using he1.1
          obtain ⟨p2, hp2, e2⟩ := List.mem_map.mp he2
          exact ⟨p2.2, p2.1, by rw [← ee, ← e2], S.tup p2 hp2⟩
        · try refine wpAny_bind (wpAny_pure ?_)
          exact go
    · have hpr' : t.probe (fun i => (es[i]?.map (·.1)).getD 0) (nkH w k) (nth t.mask (wayP t (nkH w k)) c) = some (.empty (way t.mask (nkH w k) K) none) := by
        rw [place, show c + (K - c) = K by omega] at hpr
        exact hpr
      rw [hpr']
      dsimp only
      refine wpAny_pure (hout fun hm => ?_)
      obtain ⟨p0, h0, hk0⟩ := List.mem_map.mp hm
      obtain ⟨i0, hi0, e0⟩ := List.getElem_of_mem h0
      obtain ⟨c', b1, b2, _⟩ := nopass (K - c) hno i0 p0 (by rw [List.getElem?_eq_getElem hi0, e0]) hk0
      omega

theorem nk_search (S : NSet P w s.heap a L es ep t) {x : Addr} {k : NestedKey} (hx : nkIs P w s.heap k x) (hu : A.units + 8 < cLine) {Q : SetFound → Shared → Prop} (hin : k ∈ L.map (·.2) → Q (.there none) s)
    (hout : ∀ K, k ∉ L.map (·.2) → way t.mask (nkH w k) K ∉ t.place.toList → (∀ c, c < K → way t.mask (nkH w k) c ∈ t.place.toList) → Q (.free (way t.mask (nkH w k) K) false) s) :
    wpAny (model P w) A (setSearch a (.ref x) (nkH w k) true) Q E s := by
  have hroom := S.room
  obtain ⟨K, hKf, hK, hKb⟩ := S.tab.first (by rw [List.length_map]; omega) (nkH w k)
  have hbig : 10 * SetTable.turns t.mask ≤ 1420 := by
    unfold SetTable.turns
    rcases S.tab.mok with e | e | e <;> omega
  unfold setSearch
  refine nk_seek S hx hu hKf hK hKb hin (fun hn => hout K hn hK hKb) 100000 0 none rfl (Nat.zero_le _) (by omega) fun i p hp hk => ?_
  have hi : (L.map fun p => nkH w p.2)[i]? = some (nkH w k) := by
    rw [List.getElem?_map, hp, ← hk]
    rfl
  have hil : i < t.place.toList.length := by
    have h1 := (List.getElem?_eq_some_iff.mp hp).1
    have h2 := S.tab.sz
    rw [List.length_map] at h2
    rw [Array.length_toList, h2]
    exact h1
  obtain ⟨c, hc, e⟩ := S.tab.before hK hi (List.getElem?_eq_getElem hil)
  exact ⟨c, Nat.zero_le _, hc, by rw [List.getElem?_eq_getElem hil, e]⟩

theorem nk_rows_cut (L : List (Addr × NestedKey)) (n : Nat) (x : Addr) (k : NestedKey) : nkRows w (L.take n ++ (x, k) :: L.drop n) = (nkRows w L).take n ++ (nkH w k, Value.ref x) :: (nkRows w L).drop n := by
  unfold nkRows
  simp only [List.map_append, List.map_cons, List.map_take, List.map_drop]
/-- the rows in another order -/
theorem nk_order {es : Array (Int × Value)} {order : Array Nat} (hr : es.toList = nkRows w L) (hp : order.toList.Perm (List.range L.length)) :
    ∃ L2 : List (Addr × NestedKey), (order.filterMap (es[·]?)).toList = nkRows w L2 ∧ L2.Perm L ∧ (L2.map fun p => nkH w p.2) = order.toList.map fun i => (es.map (fun e : Int × Value => e.1)).getD i 0 := by
  have key : ∀ l : List Nat, (∀ i ∈ l, i < L.length) → l.filterMap (fun i => es[i]?) = nkRows w (l.filterMap fun i => L[i]?) ∧ ((l.filterMap fun i => L[i]?).map fun p => nkH w p.2) = l.map fun i => (es.map (fun e : Int × Value => e.1)).getD i 0 := by
    intro l
    induction l with
    | nil => exact fun _ => ⟨rfl, rfl⟩
    | cons i l ih =>
      intro hl
      have hi := hl i List.mem_cons_self
      obtain ⟨e1, e2⟩ := ih fun j hj => hl j (List.mem_cons_of_mem _ hj)
      have g := nk_entry hr (List.getElem?_eq_getElem hi)
      refine ⟨?_, ?_⟩
      · rw [List.filterMap_cons_some g, List.filterMap_cons_some (List.getElem?_eq_getElem hi), e1]
        rfl
      · rw [List.filterMap_cons_some (List.getElem?_eq_getElem hi), List.map_cons, List.map_cons, e2]
        congr 1
        have g2 : (es.map (fun e : Int × Value => e.1))[i]? = some (nkH w (L[i]).2) := by
          rw [Array.getElem?_map, g]
          rfl
        simp [Array.getD_eq_getD_getElem?, g2]
  obtain ⟨e1, e2⟩ := key order.toList fun i hi => List.mem_range.mp (hp.mem_iff.mp hi)
  refine ⟨order.toList.filterMap fun i => L[i]?, by rw [Array.toList_filterMap]; exact e1, ?_, e2⟩
  have all : ∀ n, n ≤ L.length → (List.range n).filterMap (fun i => L[i]?) = L.take n := by
    intro n
    induction n with
    | zero => exact fun _ => rfl
    | succ n ih =>
      intro hn
      have g : L[n]? = some L[n] := List.getElem?_eq_getElem hn
      rw [List.range_succ, List.filterMap_append, ih (by omega), List.take_succ, g, List.filterMap_cons_some g]
      rfl
  have h2 := all L.length (Nat.le_refl _)
  rw [List.take_length] at h2
  have h3 := hp.filterMap fun i => L[i]?
  rw [h2] at h3
  exact h3
/-- the table laid anew, larger -/
theorem nk_relay {o : Obj} (ho : s.heap.get? a = some o) (hex : o.ExactSet) (hd : o.data = .set es ep t) (hrows : es.toList = nkRows w L) (hsz : t.place.size = L.length) (hdm : t.dummies = #[]) (hfl : L.length ≤ t.mask)
    (nd : (L.map (·.2)).Nodup) (tup : ∀ p ∈ L, nkIs P w s.heap p.2 p.1) (ld : w.params.followText "set-order" = true ∨ t.led = true) (few : L.length < 64) {wanted M : Nat}
    (hw : SetTable.sizeAbove wanted - 1 = M) (hM : MaskOk M) (hw2 : SetTable.sizeAbove wanted ≤ 128) (hn : L.length * 5 < M * 3) {Q : Unit → Shared → Prop}
    (hQ : ∀ h' L' es' ep' t', Heap.SameBut a s.heap h' → NSet P w h' a L' es' ep' t' → L'.Perm L → Q () { s with heap := h' }) : wpAny (model P w) A (setRelay a wanted) Q E s := by
  have hsl := nk_size hrows
  obtain ⟨t', order, e, hp, T, em, el, _, _⟩ := relaid_ok t (hs := es.map (fun e : Int × Value => e.1)) (wanted := wanted) hw hM (by rw [Array.size_map, hsl]; omega)
  rw [Array.size_map, hsl] at hp
  obtain ⟨L2, r1, r2, r3⟩ := nk_order hrows hp
  rw [← r3] at T
  have hs2 : (order.filterMap (es[·]?)).size = es.size := by rw [nk_size r1, hsl, r2.length_eq]
  rw [setRelay_eq]
  refine wpAny_bind (wpAny_setState_of ho hd (nk_fits (by rw [hsz, hsl]) hdm (by rw [hsl]; exact hfl)) ?_)
  dsimp only
  refine wp_if_neg (by rw [sizeLine_eq]; omega) ?_
  try refine wpAny_bind (wpAny_pure ?_)
  rw [e]
  dsimp only
  refine wpAny_bind (wp_if_neg (by rw [hs2]; simp) ?_)
  try refine wpAny_bind (wpAny_pure ?_)
  refine wpAny_pure ?_
  dsimp only
  refine wpAny_storeSet_of ho hd ?_ (by rw [hs2, hsl, sizeLine_eq]; omega)
  have sb : Heap.SameBut a s.heap (s.heap.update a (Obj.putSet (order.filterMap (es[·]?)) t')) := Heap.SameBut.update ..
  refine hQ _ L2 _ (ep + 1) t' sb ⟨⟨_, store_at ho hd, ⟨hex.1, hex.2.1, hex.2.2⟩, rfl⟩, r1, T, (r2.map (·.2)).nodup_iff.mpr nd, fun p hpm => nk_same (tup p (r2.mem_iff.mp hpm)) ho hd sb, by rw [el]; exact ld, ?_, by rw [r2.length_eq]; exact few⟩ r2
  rw [r2.length_eq, em]
  exact hn

theorem tab_plain {t : SetTable} {hs : List Int} (T : TabOk t hs) (b : Bool) : TabOk { t with plain := b } hs := ⟨T.ris, T.dm, T.sz, T.mok, T.bd, T.reach⟩
/-- ADDING -/
theorem nk_add (S : NSet P w s.heap a L es ep t) {x : Addr} {k : NestedKey} (hx : nkIs P w s.heap k x) (hu : A.units + 8 < cLine) (hfew : L.length + 1 < 64) {Q : Bool → Shared → Prop}
    (hQ : ∀ b h' L' es' ep' t', Heap.SameBut a s.heap h' → NSet P w h' a L' es' ep' t' → (k ∈ L.map (·.2) → L' = L) → (k ∉ L.map (·.2) → L'.Perm ((x, k) :: L)) → Q b { s with heap := h' }) :
    wpAny (model P w) A (setAddHashed a (.ref x) (nkH w k)) Q E s := by
  obtain ⟨o, ho, hex, hd⟩ := S.ob
  have hroom := S.room
  unfold setAddHashed
  refine wpAny_holding ?_
  rw [show (100000 : Nat) = 99999 + 1 from rfl, setAddHashedIn_succ]
  refine wpAny_bind (wpAny_setState_of ho hd S.fits ?_)
  dsimp only
  refine wp_if_neg (by simp [byScan, Value.scannable]) ?_
  try refine wpAny_bind (wpAny_pure ?_)
  refine wpAny_bind (nk_search S hx hu (fun hm => ?_) fun K hm hK hb => ?_)
  · exact wpAny_pure (hQ false s.heap L es ep t (Heap.SameBut.refl a s.heap) S (fun _ => rfl) fun z => absurd hm z)
  · dsimp only
    refine wpAny_bind (wpAny_setState_of ho hd S.fits ?_)
    dsimp only
    obtain ⟨q1, q2, q3, q4, q5, q6, _, _, q9⟩ := S.tab.put hK hb
    rw [List.length_map] at q9
    generalize hpt : t.put (way t.mask (nkH w k) K) = pt at q1 q3 q4 q5 q6 q9 ⊢
    obtain ⟨t1, n⟩ := pt
    dsimp only at q1 q3 q4 q5 q6 q9 ⊢
    generalize SetTable.below t.place (way t.mask (nkH w k) K) = n' at q1 q2 q3
    subst q1
    -- behind the store
    have rest : ∀ t2 : SetTable, TabOk t2 ((L.map fun p => nkH w p.2).take n ++ nkH w k :: (L.map fun p => nkH w p.2).drop n) → t2.mask = t.mask → t2.led = t.led → t2.fill = L.length + 1 →
        wpAny (model P w) A (do
          storeSet a (SetTable.insertAt es n (nkH w k, Value.ref x)) t2
          if !false && t2.tooFull then setRelay a (SetTable.grown (es.size + 1))
          return true) Q E s := by
      intro t2 T2 m2 l2 f2
      have hin : (SetTable.insertAt es n (nkH w k, Value.ref x)).toList = nkRows w (L.take n ++ (x, k) :: L.drop n) := by
        rw [SetTable.toList_insertAt, nk_rows_cut, S.rows]
      have pm := put_perm L n (x, k)
      have hhs : (L.take n ++ (x, k) :: L.drop n).map (fun p => nkH w p.2) = (L.map fun p => nkH w p.2).take n ++ nkH w k :: (L.map fun p => nkH w p.2).drop n := by
        simp only [List.map_append, List.map_cons, List.map_take, List.map_drop]
      rw [← hhs] at T2
      have nd1 : ((L.take n ++ (x, k) :: L.drop n).map (·.2)).Nodup := by
        refine (pm.map (·.2)).nodup_iff.mpr ?_
        rw [List.map_cons]
        exact List.nodup_cons.mpr ⟨hm, S.nd⟩
      have hlen : (L.take n ++ (x, k) :: L.drop n).length = L.length + 1 := pm.length_eq
      have hes := nk_size hin
      generalize SetTable.insertAt es n (nkH w k, Value.ref x) = es1 at hin hes ⊢
      generalize L.take n ++ (x, k) :: L.drop n = L1 at pm hlen T2 nd1 hin hes
      have sb : Heap.SameBut a s.heap (s.heap.update a (Obj.putSet es1 t2)) := Heap.SameBut.update ..
      have ho1 := store_at (es' := es1) (t' := t2) ho hd
      refine wpAny_bind (wpAny_storeSet_of ho hd ?_ (by rw [hes, hlen, sizeLine_eq]; omega))
      generalize s.heap.update a (Obj.putSet es1 t2) = h1 at sb ho1 ⊢
      have tup1 : ∀ p ∈ L1, nkIs P w h1 p.2 p.1 := fun p hp => by
        rcases List.mem_cons.mp (pm.mem_iff.mp hp) with e | hp
        · rw [e]
          exact nk_same hx ho hd sb
        · exact nk_same (S.tup p hp) ho hd sb
      have ld1 : w.params.followText "set-order" = true ∨ t2.led = true := by rw [l2]; exact S.led
      have sz2 : t2.place.size = L1.length := by
        have h := T2.sz
        rw [List.length_map] at h
        exact h
      by_cases hf : t2.tooFull = true
      · have hfull : (L.length + 1) * 5 ≥ t2.mask * 3 := by
          have h := hf
          unfold SetTable.tooFull at h
          rw [decide_eq_true_eq, f2] at h
          exact h
        have two : (t.mask = 7 ∧ L.length = 4) ∨ (t.mask = 31 ∧ L.length = 18) := by
          rcases S.tab.mok with e | e | e
          · left; rw [m2, e] at hfull; rw [e] at hroom; exact ⟨e, by omega⟩
          · right; rw [m2, e] at hfull; rw [e] at hroom; exact ⟨e, by omega⟩
          · exfalso; rw [m2, e] at hfull; omega
        have go : ∀ M, SetTable.sizeAbove (SetTable.grown (L.length + 1)) - 1 = M → MaskOk M → SetTable.sizeAbove (SetTable.grown (L.length + 1)) ≤ 128 → (L.length + 1) * 5 < M * 3 →
            wpAny (model P w) A (setRelay a (SetTable.grown (es.size + 1))) (fun _ s' => wpAny (model P w) A (pure true) Q E s') E { s with heap := h1 } := fun M c1 c2 c3 c4 => by
          rw [nk_size S.rows]
          refine nk_relay (s := { s with heap := h1 }) ho1 ⟨hex.1, hex.2.1, hex.2.2⟩ rfl hin sz2 T2.dm (by rw [hlen, m2]; omega) nd1 tup1 ld1 (by rw [hlen]; exact hfew) c1 c2 c3 (by rw [hlen]; exact c4) ?_
          intro h2 L2 es2 ep2 t2 sb2 S2 pm2
          exact wpAny_pure (hQ true h2 L2 es2 ep2 t2 (sb.trans sb2) S2 (fun z => absurd z hm) fun _ => pm2.trans pm)
        have go2 : wpAny (model P w) A (setRelay a (SetTable.grown (es.size + 1))) (fun _ s' => wpAny (model P w) A (pure true) Q E s') E { s with heap := h1 } := by
          rcases two with ⟨_, e2⟩ | ⟨_, e2⟩
          · exact go 31 (by rw [e2, size_20]) (.inr (.inl rfl)) (by rw [e2, size_20]; decide) (by omega)
          · exact go 127 (by rw [e2, size_76]) (.inr (.inr rfl)) (by rw [e2, size_76]; decide) (by omega)
        first
          | (refine wpAny_bind ?_; refine wp_if_pos (by simp [hf]) ?_; exact go2)
          | (refine wp_if_pos (by simp [hf]) ?_; refine wpAny_bind ?_; exact go2)
      · have fin : Q true { s with heap := h1 } := by
          refine hQ true h1 L1 es1 (ep + 1) t2 sb ⟨⟨_, ho1, ⟨hex.1, hex.2.1, hex.2.2⟩, rfl⟩, hin, T2, nd1, tup1, ld1, ?_, by rw [hlen]; exact hfew⟩ (fun z => absurd z hm) fun _ => pm
          have h := hf
          unfold SetTable.tooFull at h
          rw [decide_eq_true_eq, f2] at h
          rw [hlen]
          omega
        first
          | exact wp_if_neg (by simp [hf]) (wpAny_pure fin)
          | (refine wpAny_bind ?_; refine wp_if_neg (by simp [hf]) ?_; exact wpAny_pure (wpAny_pure fin))
    have byv : ∀ b : Bool, wpAny (model P w) A (do
          storeSet a (SetTable.insertAt es n (nkH w k, Value.ref x)) (if b = true then t1 else { t1 with plain := false })
          if !false && (if b = true then t1 else { t1 with plain := false }).tooFull then setRelay a (SetTable.grown (es.size + 1))
          return true) Q E s := fun b => by
      cases b with
      | true => exact rest t1 q3 q4 q5 q9
      | false => exact rest { t1 with plain := false } (tab_plain q3 false) q4 q5 q9
    by_cases hp1 : t1.plain = true
    · first
        | (refine wpAny_bind ?_; refine wp_if_pos hp1 ?_; exact nk_byvalue 8 k _ _ _ hx.1 fun b => byv b)
        | exact wp_if_pos hp1 (wpAny_bind (nk_byvalue 8 k _ _ _ hx.1 fun b => byv b))
    · first
        | (refine wpAny_bind ?_; refine wp_if_neg hp1 ?_; exact wpAny_pure (byv true))
        | exact wp_if_neg hp1 (wpAny_bind (wpAny_pure (byv true)))
        | exact wp_if_neg hp1 (byv true)

/-- what the set has got of the first i items -/
structure GotN (ks : List (Addr × NestedKey)) (i : Nat) (L : List (Addr × NestedKey)) : Prop where
  sub : ∀ p ∈ L, p ∈ ks.take i
  all : ∀ p ∈ ks.take i, p.2 ∈ L.map (·.2)
  len : L.length ≤ i
theorem GotN.next {ks L L' : List (Addr × NestedKey)} {i : Nat} {x : Addr × NestedKey} (g : GotN ks i L) (h : ks[i]? = some x) (c1 : x.2 ∈ L.map (·.2) → L' = L) (c2 : x.2 ∉ L.map (·.2) → L'.Perm (x :: L)) : GotN ks (i + 1) L' := by
  have e := L2.take_next h
  by_cases hm : x.2 ∈ L.map (·.2)
  · rw [c1 hm]
    refine ⟨fun p hp => by rw [e]; exact List.mem_append_left _ (g.sub p hp), fun p hp => ?_, Nat.le_succ_of_le g.len⟩
    rw [e] at hp
    rcases List.mem_append.mp hp with z | z
    · exact g.all p z
    · rw [List.mem_singleton.mp z]
      exact hm
  · have pm := c2 hm
    refine ⟨fun p hp => ?_, fun p hp => ?_, by rw [pm.length_eq]; exact Nat.succ_le_succ g.len⟩
    · rw [e]
      rcases List.mem_cons.mp (pm.mem_iff.mp hp) with z | z
      · rw [z]
        exact List.mem_append_right _ (List.mem_singleton.mpr rfl)
      · exact List.mem_append_left _ (g.sub p z)
    · rw [(pm.map (·.2)).mem_iff, List.map_cons]
      rw [e] at hp
      rcases List.mem_append.mp hp with z | z
      · exact List.mem_cons_of_mem _ (g.all p z)
      · rw [List.mem_singleton.mp z]
        exact List.mem_cons_self
theorem nk_fresh {h : Heap} {a : Addr} (ho : h.get? a = some { cls := .type "set", dict := none, data := .set #[] 0 (.fresh 0 0 (!w.params.followText "set-order")) }) : NSet P w h a [] #[] 0 (.fresh 0 0 (!w.params.followText "set-order")) := by
  refine ⟨⟨_, ho, ⟨rfl, rfl, rfl⟩, rfl⟩, rfl, ⟨List.Pairwise.nil, rfl, rfl, .inl rfl, fun x hx => ?_, fun i h j hi => ?_⟩, List.nodup_nil, fun p hp => ?_, ?_, by show 0 * 5 < 7 * 3; decide, by show 0 < 64; decide⟩
  · cases hx
  · simp at hi
  · cases hp
  · show _ ∨ (!w.params.followText "set-order") = true
    cases w.params.followText "set-order"
    · exact .inr rfl
    · exact .inl rfl
/-- the loop of set.update -/
theorem nk_update {I : Addr} {fp wr : List Addr} {G : Array GenState → Array GenState → Prop} {n : Nat} {Pv : Nat → Value → Prop} {St : Nat → Shared → Prop} {R : Result → Shared → Prop}
    (W : WalksS P w A.in1 I fp wr G n Pv St) (S : Addr) (hSf : S ∉ fp) (ks : List (Addr × NestedKey)) (hn : n = ks.length) (hfew : ks.length < 64) (hval : ∀ i v, Pv i v → ∃ p, ks[i]? = some p ∧ v = .ref p.1)
    (h0 : Heap) (hk : ∀ p ∈ ks, nkIs P w h0 p.2 p.1) (hS0 : h0.get? S = none) (hw0 : ∀ b ∈ wr, h0.get? b = none) (hu : A.in1.units + 8 < cLine) :
    ∀ (k i : Nat) (s : Shared), n - i = k → i ≤ n → St i s → (∀ b o, h0.get? b = some o → s.heap.get? b = some o) → (∃ L es ep t, NSet P w s.heap S L es ep t ∧ GotN ks i L) →
      (∀ s' L es ep t, Moved (S :: wr) G s s' → NSet P w s'.heap S L es ep t → GotN ks n L → (∀ b o, h0.get? b = some o → s'.heap.get? b = some o) → R (.ok (.ret .none)) s') →
      codeAny (model P w) A (.builtin "set.update.loop" ⟨[.ref S, .ref I], []⟩) R s := by
  have hSw : S ∉ wr := fun h => hSf (W.sub _ h)
  have hsub : ∀ b ∈ wr, b ∈ S :: wr := fun b hb => List.mem_cons_of_mem _ hb
  have stay : ∀ {s s' : Shared}, Moved wr G s s' → (∀ b o, h0.get? b = some o → s.heap.get? b = some o) → ∀ b o, h0.get? b = some o → s'.heap.get? b = some o := fun hm hkp b o e =>
    hm.heap b o (fun hb => by rw [hw0 b hb] at e; cases e) (hkp b o e)
  intro k
  induction k with
  | zero =>
    intro i s hk' hi hst hkp ⟨L, es, ep, t, hS, g⟩ hR
    obtain rfl : i = n := by omega
    refine codeAny_builtin F.entry_set_update_loop ?_
    rw [Around.under_plainId F.plain_set_update_loop _]
    show wpAny _ A.in1 (pyNext (.ref I) >>= _) _ _ s
    refine wpAny_bind (W.done s _ _ hst fun s' hm => ?_)
    show wpAny _ A.in1 (ret Value.none) _ _ s'
    have hkp' := stay hm hkp
    exact wpAny_pure (hR s' L es ep t (hm.mono hsub) (hS.keep (fun o e => hm.heap S o hSw e) fun p hp => nk_keep (hk p (List.mem_of_mem_take (g.sub p hp))) hkp') g hkp')
  | succ k ih =>
    intro i s hk' hi hst hkp ⟨L, es, ep, t, hS, g⟩ hR
    have hlt : i < n := by omega
    refine codeAny_builtin F.entry_set_update_loop ?_
    rw [Around.under_plainId F.plain_set_update_loop _]
    show wpAny _ A.in1 (pyNext (.ref I) >>= _) _ _ s
    refine wpAny_bind (W.item i s _ _ hlt hst fun v s' hP hst' hm => ?_)
    obtain ⟨p, hp, rfl⟩ := hval i v hP
    have hkp' := stay hm hkp
    have hS' : NSet P w s'.heap S L es ep t := hS.keep (fun o e => hm.heap S o hSw e) fun q hq => nk_keep (hk q (List.mem_of_mem_take (g.sub q hq))) hkp'
    have hx : nkIs P w s'.heap p.2 p.1 := nk_keep (hk p (List.mem_of_getElem? hp)) hkp'
    show wpAny _ A.in1 (holding [Value.ref p.1] (setAdd S (.ref p.1)) >>= _) _ _ s'
    refine wpAny_bind (wpAny_holding ?_)
    unfold setAdd
    refine wpAny_holding (wpAny_bind ((nestedKind P w).pyHash hu hx ?_))
    refine nk_add (s := { s' with toks := s'.toks + (nestedKind P w).draws p.2 }) hS' hx hu (by have := g.len; omega) fun b h' L' es' ep' t' hsb hS2 c1 c2 => ?_
    have hkp2 : ∀ b o, h0.get? b = some o → h'.get? b = some o := fun b o e => (hsb.2 b (fun z => by rw [z, hS0] at e; cases e)).trans (hkp' b o e)
    refine wpAny_pure ⟨plainId_quiet F.plain_set_update_loop _, ih (i + 1) _ (by omega) hlt (W.frame _ s' _ _ hst' (Nat.le_add_right _ _) fun b hb o e => ?_) hkp2 ⟨L', es', ep', t', hS2, g.next hp c1 c2⟩ fun s'' L2 es2 ep2 t2 hm'' hS'' g'' hkp'' => ?_⟩
    · rw [hsb.2 b (fun h : b = S => hSf (by rw [← h]; exact hb))]
      exact e
    · refine hR s'' L2 es2 ep2 t2 (Moved.trans W.gtrans ((hm.mono hsub).then_heap (Nat.le_add_right _ _) fun b o hb e => ?_) hm'') hS'' g'' hkp''
      rw [hsb.2 b (fun h : b = S => hb (by rw [h]; exact List.mem_cons_self))]
      exact e

abbrev freshSet (w : World) : Obj := { cls := .type "set", dict := none, data := .set #[] 0 (.fresh 0 0 (!w.params.followText "set-order")) }
set_option maxHeartbeats 8000000 in
/-- set(xs), xs a list of nested tuples -/
theorem nk_set {l : Addr} {items : Array Value} (ks : List (Addr × NestedKey)) {Q : Value → Shared → Prop} (hh : A.handled = none) (hl : s.heap.IsList l items) (hit : items.toList = ks.map fun p => Value.ref p.1)
    (hk : ∀ p ∈ ks, nkIs P w s.heap p.2 p.1) (hfew : ks.length < 64) (hu : A.units + 20 < cLine)
    (h : ∀ (h' : Heap) (tk : Nat) L es ep t, NSet P w h' s.heap.objs.size L es ep t → GotN ks ks.length L → (∀ b o, s.heap.get? b = some o → h'.get? b = some o) → Q (.ref s.heap.objs.size) { s with heap := h', toks := tk }) :
    wpAny (model P w) A (call (.type "set") [.ref l]) Q E s := by
  have hisz : items.size = ks.length := by
    rw [← Array.length_toList, hit]
    exact List.length_map ..
  obtain ⟨c, tl, hmro⟩ := F.called_set.mro
  have hmade := F.called_set.made
  have hsub := F.called_set.sub
  refine wpAny_call (codeAny_of_tree ?_)
  show wpAny _ _ (callAny (.type "set") _) _ _ _
  refine wpAny_pure ⟨Code.quiet_builtin _ (by decide +kernel), codeAny_builtin F.entry_type_call ?_⟩
  rw [Around.under_plain (weight_type_call_type "set" [.ref l] []) rfl]
  have h1 := F.called_set.notType
  have h2 := F.called_set.canCreate
  have hct := F.typeCall_set_1 (.ref l)
  repeat (any_goals (first | assumption | wp_step))
  refine codeAny_mono (code_set_led1 (.ref l) (E := E) (Q₁ := fun obj s₁ => obj = .ref s.heap.objs.size ∧ s₁ = { s with heap := s.heap.push { cls := .type "set", dict := none, data := .set #[] 0 (.fresh 0 0 (!w.params.followText "set-order")) } }) ⟨rfl, rfl⟩) fun r s₁ hr => ?_
  cases r with
  | error e => exact hr
  | ok fl =>
    cases fl with
    | ret obj =>
      obtain ⟨rfl, rfl⟩ := hr
      have hS : (s.heap.push (freshSet w)).get? s.heap.objs.size = some (freshSet w) := Heap.get?_push_size _ rfl
      have hT : Shared.TypeIs { s with heap := s.heap.push (freshSet w) } (.ref s.heap.objs.size) "set" := ⟨_, hS, rfl⟩
      have hli := F.called_set.init.lookup
      have hbi := F.called_set.init.bind (.ref s.heap.objs.size)
      repeat (any_goals (first | assumption | wp_step))
      refine codeAny_mono (codeAny_call_builtin (R := wants (fun r s₂ => r = .none ∧ ∃ h' tk L es ep t, s₂ = { s with heap := h', toks := tk } ∧ NSet P w h' s.heap.objs.size L es ep t ∧ GotN ks ks.length L ∧
          (∀ b o, s.heap.get? b = some o → h'.get? b = some o)) E) F.called_set.init.plain F.entry_set_init (check_set_init_1 hT ?_)) fun r₂ s₂ hr₂ => ?_
      · obtain ⟨ol, hol, hcl, nl, hdl⟩ := hl
        obtain ⟨ocls, odict, odata, oslots⟩ := ol
        simp only at hcl hdl
        subst hcl hdl
        have hol' : (s.heap.push (freshSet w)).get? l = some { cls := .type "list", dict := odict, data := .seq items nl, slots := oslots } := Heap.get?_push_of_some _ hol
        have hsls := F.sub_list_set
        have hslf := F.sub_list_frozenset
        have hne : (Value.type "list" == Value.type "dict") = false := by decide
        have hl1 : (s.heap.push (freshSet w)).IsList l items := ⟨_, hol', rfl, nl, rfl⟩
        unfold Builtin.«set.__init__» noKeywords Builtin.Frozenset.updateFrom
        generalize hPI : pyIter = PI
        wp_walk
        subst hPI
        refine wpAny_pyIter_list hl1 ?_
        refine wpAny_bind (wpAny_runValue ?_)
        have hlS : l < s.heap.objs.size := Heap.lt_size hol
        have hh3 : A.in1.in1.in1.handled = none := by simp [hh]
        have hneI : l ≠ (s.heap.push (freshSet w)).objs.size := by
          rw [Heap.size_push]
          exact Nat.ne_of_lt (Nat.lt_succ_of_lt hlS)
        have none_of : ∀ b, s.heap.objs.size ≤ b → s.heap.get? b = none := fun b hb => by
          cases q : s.heap.get? b with
          | none => rfl
          | some o => exact absurd (Nat.lt_of_lt_of_le (Heap.lt_size q) hb) (Nat.lt_irrefl _)
        refine nk_update ((Walks.list hh3 _ l hneI items).toS) s.heap.objs.size ?nf ks hisz hfew (fun i v hv => ?nv) s.heap hk (none_of _ (Nat.le_refl _)) (fun b hb => none_of b ?nw) (by show A.units + 1 + 1 + 1 + 8 < cLine; omega) (items.size - 0) 0 _ (by omega) (Nat.zero_le _)
          ⟨⟨_, Heap.get?_push_size _ rfl, rfl, rfl⟩, (hl1.push _)⟩ (fun b o e => Heap.get?_push_of_some _ (Heap.get?_push_of_some _ e)) ?start ?rest
        case nf =>
          rw [Heap.size_push]
          simp only [List.mem_cons, List.mem_singleton, List.not_mem_nil, or_false, not_or]
          exact ⟨Nat.ne_of_lt (Nat.lt_succ_self _), Nat.ne_of_gt hlS⟩
        case nv =>
          have hv : items[i]? = some v := hv
          have q : items.toList[i]? = some v := by
            rw [Array.getElem?_toList]
            exact hv
          rw [hit, List.getElem?_map] at q
          cases hq : ks[i]? with
          | none =>
            rw [hq] at q
            cases q
          | some p =>
            rw [hq] at q
            exact ⟨p, rfl, (Option.some.inj q).symm⟩
        case nw =>
          rw [List.mem_singleton.mp hb, Heap.size_push]
          exact Nat.le_succ _
        case start =>
          refine ⟨[], #[], 0, _, nk_fresh (Heap.get?_push_of_some _ hS), ⟨fun p hp => (by cases hp), fun p hp => (by simp at hp), Nat.le_refl _⟩⟩
        case rest =>
          intro s' L es ep t hm hS' g' hkp
          obtain ⟨h', g2, d', tk', os'⟩ := s'
          obtain rfl : g2 = s.gens := hm.gens
          obtain rfl : d' = s.drawn := hm.drawn
          obtain rfl : os' = s.os := hm.os
          show wpAny _ _ _ _ _ _
          refine wpAny_pure ?_
          show wpAny _ _ (ret Value.none) _ _ _
          rw [hisz] at g'
          exact wpAny_pure ⟨rfl, h', tk', L, es, ep, t, rfl, hS', g', hkp⟩
      · cases r₂ with
        | error e => exact hr₂
        | ok fl₂ =>
          cases fl₂ with
          | ret r =>
            obtain ⟨rfl, h', tk, L, es, ep, t, rfl, hS', g', hk'⟩ := hr₂
            repeat (any_goals (first | assumption | wp_step))
            exact h _ _ _ _ _ _ hS' g' hk'
          | _ => exact hr₂.elim
    | _ => exact hr.elim
end
end Kt
/-! sets of texts, by scan; sorted of one; the two-clause set comprehension -/
namespace Kt
open PySem PySem.Spec PyProof.Rows L2
/-- an entry of a set of texts -/
def EntS (w : World) (e : Int × Value) : Prop := ∃ (x : Str) (t : Tok), e.2 = .str x t ∧ e.1 = hashStr w x
def txtOf (e : Int × Value) : Str := match e.2 with | .str x _ => x | _ => Str.empty
/-- at a stands the set of the texts ys (said by their members), of at most ys.length entries -/
def SetS (w : World) (h : Heap) (a : Addr) (ys : List Str) : Prop :=
  ∃ o es ep t, h.get? a = some o ∧ o.ExactSet ∧ o.data = .set es ep t ∧ (∀ e ∈ es.toList, EntS w e) ∧ (es.toList.map txtOf).Nodup ∧ (∀ y, y ∈ ys ↔ y ∈ es.toList.map txtOf) ∧
    es.size ≤ ys.length ∧ es.size < scanBound ∧ t.fits es.size = true ∧ Ris t.place.toList ∧ (w.params.followText "set-order" = true ∨ t.led = true)
section
variable {P : Program} {w : World} {A : Around} {E : Value → Shared → Prop} {s : Shared} {a : Addr} {ys : List Str}
theorem SetS.at {h h' : Heap} (R : SetS w h a ys) (k : ∀ o, h.get? a = some o → h'.get? a = some o) : SetS w h' a ys := by
  obtain ⟨o, es, ep, t, ho, r⟩ := R
  exact ⟨o, es, ep, t, k o ho, r⟩
theorem ents_elems {l : List (Int × Value)} (g : ∀ e ∈ l, EntS w e) : ElemsOf (strKind P w) l := fun e he => by
  obtain ⟨x, t, h1, h2⟩ := g e he
  exact ⟨⟨x, by rw [h1]; exact strKind_is P w x t, h2⟩, by rw [h1]; rfl⟩
theorem ents_is {e : Int × Value} (g : EntS w e) (k : Str) : (strKind P w).is k e.2 = true ↔ txtOf e = k := by
  obtain ⟨x, t, h1, _⟩ := g
  unfold txtOf
  rw [h1]
  show Value.isStrOf k (.str x t) = true ↔ x = k
  simp [Value.isStrOf]
theorem ents_mem {l : List (Int × Value)} (g : ∀ e ∈ l, EntS w e) (k : Str) : k ∈ l.map txtOf ↔ ∃ e ∈ l, (strKind P w).is k e.2 = true := by
  rw [List.mem_map]
  exact ⟨fun ⟨e, he, q⟩ => ⟨e, he, (ents_is (g e he) k).2 q⟩, fun ⟨e, he, q⟩ => ⟨e, he, (ents_is (g e he) k).1 q⟩⟩
/-- what the add leaves behind its store -/
theorem setS_tail {g : Bool → Sem Unit} (hg : ∀ (b : Bool) (s₁ : Shared) (Q' : Unit → Shared → Prop), Q' () s₁ → wpAny (model P w) A (g b) Q' E s₁)
    {o : Obj} {es : Array (Int × Value)} {ep : Nat} {t : SetTable} (ho : s.heap.get? a = some o) (hex : o.ExactSet) (hd : o.data = .set es ep t)
    {es1 : Array (Int × Value)} {t2 : SetTable} {zs : List Str} (g1 : ∀ e ∈ es1.toList, EntS w e) (nd1 : (es1.toList.map txtOf).Nodup) (m1 : ∀ k, k ∈ zs ↔ k ∈ es1.toList.map txtOf) (le1 : es1.size ≤ zs.length)
    (hb1 : es1.size < scanBound) (hf2 : t2.fits es1.size = true) (hr : Ris t2.place.toList) (hl : w.params.followText "set-order" = true ∨ t2.led = true) {wasDummy : Bool} {R : Option Bool → Shared → Prop}
    (hR : ∀ h', Heap.SameBut a s.heap h' → SetS w h' a zs → R (some true) { s with heap := h' }) :
    wpAny (model P w) A (do
        storeSet a es1 t2
        if (!wasDummy && t2.tooFull) = true then do
            g (relayAll t2 es1 (SetTable.grown es1.size)).2.2
            storeSet a (relayAll t2 es1 (SetTable.grown es1.size)).1 (relayAll t2 es1 (SetTable.grown es1.size)).2.1
            pure (some true)
          else pure (some true)) R E s := by
  have ho1 := store_at (es' := es1) (t' := t2) ho hd
  have sb1 := Heap.SameBut.update s.heap a (Obj.putSet es1 t2)
  refine wpAny_bind (wpAny_storeSet_of ho hd ?_ (fits_of_scanBound hb1))
  split
  · have pm := relayAll_perm t2 es1 (SetTable.grown es1.size)
    have hf3 := relayAll_fits t2 es1 (SetTable.grown es1.size)
    have hr3 := relayAll_ris t2 es1 (SetTable.grown es1.size)
    have hl3 := relayAll_led t2 es1 (SetTable.grown es1.size)
    generalize relayAll t2 es1 (SetTable.grown es1.size) = Z at pm hf3 hr3 hl3 ⊢
    obtain ⟨es2, t3, gave⟩ := Z
    dsimp only at pm hf3 hr3 hl3 ⊢
    have hsz : es2.size = es1.size := by rw [← Array.length_toList, pm.length_eq, Array.length_toList]
    have hb2 : es2.size < scanBound := by rw [hsz]; exact hb1
    refine wpAny_bind (hg _ _ _ (wpAny_bind (wpAny_storeSet_of ho1 rfl ?_ (fits_of_scanBound hb2))))
    have ho2 := store_at (es' := es2) (t' := t3) ho1 rfl
    exact wpAny_pure (hR _ (sb1.trans (Heap.SameBut.update _ a _)) ⟨_, es2, _, t3, ho2, hex, rfl, fun e he => g1 e (pm.mem_iff.mp he), (pm.map txtOf).nodup_iff.mpr nd1, fun k => (m1 k).trans (pm.map txtOf).mem_iff.symm, by rw [hsz]; exact le1, hb2, hf3, hr3,
      hl.imp id fun z => by rw [hl3]; exact z⟩)
  · exact wpAny_pure (hR _ sb1 ⟨_, es1, _, t2, ho1, hex, rfl, g1, nd1, m1, le1, hb1, hf2, hr, hl⟩)

theorem setS_put {k : Str} {tk : Tok} {Q : Bool → Shared → Prop} (R : SetS w s.heap a ys) (room : ys.length + 1 < scanBound)
    (hQ : ∀ b h', Heap.SameBut a s.heap h' → SetS w h' a (ys ++ [k]) → Q b { s with heap := h' }) : wpAny (model P w) A (setAddHashed a (.str k tk) ((strKind P w).hash k)) Q E s := by
  obtain ⟨o, es, ep, t, ho, hex, hd, g, nd, hm, hle, hb, hf, hr, hl⟩ := R
  have hkey : (strKind P w).is k (.str k tk) = true := strKind_is P w k tk
  have hsc : (Value.str k tk).scannable = true := rfl
  have hel : ElemsOf (strKind P w) es.toList := ents_elems g
  have up : es.size ≤ (ys ++ [k]).length := by rw [List.length_append]; omega
  unfold setAddHashed setAddHashedIn
  refine wpAny_holding (wpAny_bind (wpAny_setState_of ho hd hf ?_))
  dsimp only
  rw [byScan_of hsc hb hel]
  simp only [↓reduceIte]
  unfold setAddByScan
  refine wpAny_bind (wpAny_bind (wpAny_rule (wpAny_bind (wpAny_setScan_of hkey ho hd hf hel ?_))))
  cases hfi : List.findIdx? (fun e => (strKind P w).is k e.2) es.toList with
  | some j =>
    dsimp only
    obtain ⟨hj, pj, _⟩ := List.findIdx?_eq_some_iff_getElem.mp hfi
    have hin : k ∈ es.toList.map txtOf := (ents_mem (P := P) g k).2 ⟨es.toList[j], List.getElem_mem hj, pj⟩
    refine wpAny_pure (wpAny_pure (hQ false s.heap (Heap.SameBut.refl a s.heap) ⟨o, es, ep, t, ho, hex, hd, g, nd, fun i => ?_, up, hb, hf, hr, hl⟩))
    rw [List.mem_append, List.mem_singleton, ← hm i]
    exact ⟨fun z => z.elim id fun e => by rw [e]; exact (hm k).mpr hin, .inl⟩
  | none =>
    dsimp only
    have hnk : k ∉ es.toList.map txtOf := fun z => by
      obtain ⟨e, he, q⟩ := (ents_mem (P := P) g k).1 z
      have c := List.findIdx?_eq_none_iff.mp hfi e he
      rw [q] at c
      cases c
    have hgw : ∀ (b : Bool) {s₁ : Shared} {Q' : Unit → Shared → Prop}, Q' () s₁ → wpAny (model P w) A (match b with | true => rule "set.scan.the-table-gave-way" | false => pure ()) Q' E s₁ :=
      fun b s₁ Q' q => by cases b <;> first | exact wpAny_pure q | exact wpAny_rule q
    have pm := layNew_perm t es ((strKind P w).hash k) (.str k tk)
    have hf1 := layNew_fits t es ((strKind P w).hash k) (.str k tk)
    have hr1 := layNew_ris t es ((strKind P w).hash k) (.str k tk) hr
    have hl1 := layNew_led t es ((strKind P w).hash k) (.str k tk)
    generalize layNew t es ((strKind P w).hash k) (.str k tk) = Z at pm hf1 hr1 hl1 ⊢
    obtain ⟨es1, t1, wasDummy, gave⟩ := Z
    dsimp only at pm hf1 hr1 hl1 ⊢
    rw [Array.toList_push] at pm
    have pc : es1.toList.Perm (((strKind P w).hash k, Value.str k tk) :: es.toList) := pm.trans (List.perm_append_singleton _ _)
    have pk : (es1.toList.map txtOf).Perm (k :: es.toList.map txtOf) := pc.map txtOf
    have g1 : ∀ e ∈ es1.toList, EntS w e := fun e he => by
      rcases List.mem_cons.mp (pc.mem_iff.mp he) with z | z
      · rw [z]
        exact ⟨k, tk, rfl, rfl⟩
      · exact g e z
    have nd1 : (es1.toList.map txtOf).Nodup := pk.nodup_iff.mpr (List.nodup_cons.mpr ⟨hnk, nd⟩)
    have m1 : ∀ i, i ∈ ys ++ [k] ↔ i ∈ es1.toList.map txtOf := fun i => by
      rw [List.mem_append, List.mem_singleton, hm i, pk.mem_iff, List.mem_cons]
      exact Or.comm
    have hsz : es1.size = es.size + 1 := by rw [← Array.length_toList, pc.length_eq, List.length_cons, Array.length_toList]
    have hb1 : es1.size < scanBound := by rw [hsz]; omega
    have le1 : es1.size ≤ (ys ++ [k]).length := by rw [hsz, List.length_append, List.length_singleton]; omega
    have hled : w.params.followText "set-order" = true ∨ t1.led = true := hl.imp id fun z => by rw [hl1]; exact z
    refine wpAny_bind (hgw _ ?_)
    split
    · refine wpAny_bind ?_
      rw [hashByValue_scannable 8 hsc]
      refine wpAny_pure ?_
      refine setS_tail ?_ ho hex hd g1 nd1 m1 le1 hb1 ?_ ?_ ?_ ?_
      · intro b s₁ Q' q; cases b <;> first | exact wpAny_pure q | exact wpAny_rule q
      · first | (split <;> first | exact hf1 | exact SetTable.fits_plain_off hf1) | exact hf1
      · first | (split <;> exact hr1) | exact hr1
      · first | (split <;> exact hled) | exact hled
      · intro h' sb r; dsimp only; exact wpAny_pure (hQ true h' sb r)
    · refine wpAny_bind (wpAny_pure ?_)
      simp only [↓reduceIte]
      refine setS_tail ?_ ho hex hd g1 nd1 m1 le1 hb1 hf1 hr1 hled ?_
      · intro b s₁ Q' q; cases b <;> first | exact wpAny_pure q | exact wpAny_rule q
      · intro h' sb r; dsimp only; exact wpAny_pure (hQ true h' sb r)
/-- acc.add(k), as a comprehension says it -/
theorem setS_add {k : Str} {tk : Tok} {Q : Value → Shared → Prop} (R : SetS w s.heap a ys) (room : ys.length + 1 < scanBound)
    (hQ : ∀ h', Heap.SameBut a s.heap h' → SetS w h' a (ys ++ [k]) → Q .none { s with heap := h', toks := s.toks + 1 }) : wpAny (model P w) A (call (.builtin "set.add") [.ref a, .str k tk]) Q E s := by
  have hT : s.TypeIs (.ref a) "set" := by
    obtain ⟨o, _, _, _, ho, hex, _⟩ := R
    exact ⟨o, ho, hex.1⟩
  refine wpAny_call_entry F.slot_set_add hT F.entry_set_add ?_ (F.args_set_add_2 _ _)
  unfold Builtin.«set.add» Builtin.Frozenset.oneOther
  simp only [List.isEmpty_nil, bind_assoc]
  unfold Builtin.Frozenset.addrOf setAdd
  refine wpAny_bind (wpAny_pure ?_)
  try dsimp only
  refine wpAny_bind (wpAny_pure ?_)
  try dsimp only
  refine wpAny_bind (wpAny_holding (wpAny_bind ((strKind P w).pyHash (strKind_is P w k tk) ?_)))
  refine setS_put (s := { s with toks := s.toks + 1 }) R room fun b h' sb r => ?_
  show wpAny _ _ (ret Value.none) _ _ _
  exact wpAny_pure ⟨_, rfl, hQ h' sb r⟩
theorem setS_fresh {h : Heap} (w : World) : SetS w (h.push (freshSet w)) h.objs.size [] := by
  refine ⟨_, #[], 0, _, Heap.get?_push_size _ rfl, ⟨rfl, rfl, rfl⟩, rfl, fun e he => by simp at he, by simp, fun k => by simp, Nat.le_refl _, by decide, by rfl, List.Pairwise.nil, ?_⟩
  show _ ∨ (!w.params.followText "set-order") = true
  cases w.params.followText "set-order"
  · exact .inr rfl
  · exact .inl rfl
def SetSO (w : World) (a : Addr) (ys : List Str) : HO := .ext fun h => SetS w h a ys
theorem setSO_new {H : Hp} {h : Heap} (R : SetS w h a ys) : ObjOk P w H h a (SetSO w a ys) := by
  have hx : ∃ o, h.get? a = some o := by
    obtain ⟨o, _, _, _, ho, _⟩ := R
    exact ⟨o, ho⟩
  exact ⟨R, hx, fun h1 h2 p k => SetS.at p k⟩
end
end Kt
/-! the heap less some addresses; data; canonical orders -/
namespace Kt
open PySem PySem.Spec PyProof.Rows L2
/-! ### the heap less some addresses and less tables -/
/-- what is no table -/
def noTb : HO → Bool
  | .tbl _ => false
  | _ => true
def dl (cs : List Addr) (H : Hp) : Hp := fun b => if b ∈ cs then none else (H b).filter noTb
variable {cs : List Addr} {H H' H1 H2 : Hp} {c p b : Addr} {o x : HO} {K : PySem.W.Frag}
theorem dl_some : dl cs H b = some x ↔ b ∉ cs ∧ H b = some x ∧ noTb x = true := by
  unfold dl
  by_cases h : b ∈ cs
  · simp [h]
  · simp [h, Option.filter_eq_some_iff]
theorem dl_le (cs : List Addr) (H : Hp) : Same (dl cs H) H := fun b x h => (dl_some.1 h).2.1
theorem dl_same (s : Same H H') : Same (dl cs H) (dl cs H') := fun b x h => by
  obtain ⟨h1, h2, h3⟩ := dl_some.1 h
  exact dl_some.2 ⟨h1, s _ _ h2, h3⟩
theorem dl_mono {ds : List Addr} (h : ∀ a ∈ cs, a ∈ ds) : Same (dl ds H) (dl cs H) := fun b x e => by
  obtain ⟨h1, h2, h3⟩ := dl_some.1 e
  exact dl_some.2 ⟨fun z => h1 (h _ z), h2, h3⟩
theorem dl_in (h : c ∈ cs) : dl cs (upd H c o) = dl cs H := by
  funext b
  unfold dl
  by_cases hb : b ∈ cs
  · rw [if_pos hb, if_pos hb]
  · rw [if_neg hb, if_neg hb, upd_ne (show b ≠ c from fun e => hb (by rw [e]; exact h))]
theorem up_same (h : H p = none) : Same H (upd H p o) := fun b x e => by
  rw [upd_ne (ne_of_none e h)]
  exact e
theorem dl_up (h : H p = none) : Same (dl cs H) (dl cs (upd H p o)) := dl_same (up_same h)
/-- a new one, from then on left out -/
theorem dl_new (h : H p = none) : Same (dl cs H) (dl (p :: cs) H) := fun b x e => by
  obtain ⟨h1, h2, h3⟩ := dl_some.1 e
  exact dl_some.2 ⟨fun z => (List.mem_cons.1 z).elim (ne_of_none h2 h) h1, h2, h3⟩
/-- all but c stays -/
def Kp (c : Addr) (H H' : Hp) : Prop := ∀ b x, b ≠ c → H b = some x → H' b = some x
theorem Kp.refl (c : Addr) (H : Hp) : Kp c H H := fun _ _ _ h => h
theorem Kp.of (s : Same H H') : Kp c H H' := fun b x _ h => s b x h
theorem Kp.trans {H2 : Hp} (s : Kp c H H1) (t : Kp c H1 H2) : Kp c H H2 := fun b x n h => t b x n (s b x n h)
theorem Kp.up : Kp c H (upd H c o) := fun b x n h => by
  rw [upd_ne n]
  exact h
theorem Kp.dl (s : Kp c H H') (h : c ∈ cs) : Same (dl cs H) (dl cs H') := fun b x e => by
  obtain ⟨h1, h2, h3⟩ := dl_some.1 e
  exact dl_some.2 ⟨h1, s _ _ (fun z => h1 (z ▸ h)) h2, h3⟩
theorem Kp.free (s : Kp c H H') (hc : H c = some o) {l : Addr} (h : H' l = none) (hc' : H' c = some x) : H l = none := by
  cases q : H l with
  | none => rfl
  | some u =>
    by_cases e : l = c
    · rw [e, hc'] at h
      cases h
    · rw [s l u e q] at h
      cases h
theorem Kp.at (s : Kp c H H') (h : H b = some x) (n : b ≠ c) : H' b = some x := s b x n h
theorem Kp.tabs {T : List (Addr × Str)} {zs : List V} (s : Kp c H H') (hc : H c = some (.lst zs)) (t : LamX.Tabs T H) : LamX.Tabs T H' := fun q hq => by
  obtain ⟨ps, h1, h2, h3⟩ := t q hq
  refine ⟨ps, s _ _ (ne_of h1 hc (by intro e; cases e)) h1, h2, fun pos cv hcv => ?_⟩
  obtain ⟨c', e1, e2⟩ := h3 pos cv hcv
  exact ⟨c', e1, s _ _ (ne_of e2 hc (by intro e; cases e)) e2⟩
theorem ext_dl (s : LamX.ExtN H H') : Same (dl cs H) (dl cs H') := fun b x e => by
  obtain ⟨h1, h2, h3⟩ := dl_some.1 e
  refine dl_some.2 ⟨h1, s _ _ h2 fun ps z => ?_, h3⟩
  rw [z] at h3
  cases h3
/-! ### data -/
mutual
theorem dp_same (s : Same H H') : ∀ {d : PyData} {v : V}, Dp K H v d → Dp K H' v d
  | _, _, .non => .non
  | _, _, .bl b => .bl b
  | _, _, .int i => .int i
  | _, _, .str x => .str x
  | _, _, .lst h g => .lst (s.seq h) (dps_same s g)
  | _, _, .tup h g => .tup (by
    rcases h with (h | ⟨o, h⟩) | h
    · exact .inl (.inl (s _ _ h))
    · exact .inl (.inr ⟨o, s _ _ h⟩)
    · exact .inr h) (dps_same s g)
theorem dps_same (s : Same H H') : ∀ {ds : List PyData} {vs : List V}, DpAll K H vs ds → DpAll K H' vs ds
  | _, _, .nil => .nil
  | _, _, .cons h g => .cons (dp_same s h) (dps_same s g)
end
theorem same_tup {a : Addr} {xs : List V} (s : Same H H') (h : SqT K H a xs) : SqT K H' a xs := by
  rcases h with (h | ⟨o, h⟩) | h
  · exact .inl (.inl (s _ _ h))
  · exact .inl (.inr ⟨o, s _ _ h⟩)
  · exact .inr h
theorem dps_len : ∀ {ds : List PyData} {vs : List V}, DpAll K H vs ds → vs.length = ds.length
  | _, _, .nil => rfl
  | _, _, .cons _ g => congrArg (· + 1) (dps_len g)
theorem dps_get : ∀ {ds : List PyData} {vs : List V} {i : Nat} {v : V}, DpAll K H vs ds → vs[i]? = some v → ∃ d, ds[i]? = some d ∧ Dp K H v d
  | _, _, _, _, .nil, e => by simp at e
  | _, _, 0, _, .cons h _, e => by
    cases e
    exact ⟨_, rfl, h⟩
  | _, _, i + 1, v, .cons _ g, e => dps_get (i := i) (v := v) g e
theorem dps_at : ∀ {ds : List PyData} {vs : List V} {i : Nat} {d : PyData}, DpAll K H vs ds → ds[i]? = some d → ∃ v, vs[i]? = some v ∧ Dp K H v d
  | _, _, _, _, .nil, e => by simp at e
  | _, _, 0, _, .cons h _, e => by
    cases e
    exact ⟨_, rfl, h⟩
  | _, _, i + 1, v, .cons _ g, e => dps_at (i := i) g e
theorem dps_app : ∀ {ds es : List PyData} {vs us : List V}, DpAll K H vs ds → DpAll K H us es → DpAll K H (vs ++ us) (ds ++ es)
  | _, _, _, _, .nil, g => g
  | _, _, _, _, .cons h t, g => .cons h (dps_app t g)
theorem dps_one {d : PyData} {v : V} (h : Dp K H v d) : DpAll K H [v] [d] := .cons h .nil
theorem dps_snoc {d : PyData} {ds : List PyData} {v : V} {vs : List V} (g : DpAll K H vs ds) (h : Dp K H v d) : DpAll K H (vs ++ [v]) (ds ++ [d]) := dps_app g (dps_one h)
theorem dps_take : ∀ {ds : List PyData} {vs : List V} (n : Nat), DpAll K H vs ds → DpAll K H (vs.take n) (ds.take n)
  | _, _, 0, _ => by
    rw [List.take_zero, List.take_zero]
    exact .nil
  | _, _, _ + 1, .nil => .nil
  | _, _, n + 1, .cons h g => .cons h (dps_take n g)
theorem dps_drop : ∀ {ds : List PyData} {vs : List V} (n : Nat), DpAll K H vs ds → DpAll K H (vs.drop n) (ds.drop n)
  | _, _, 0, g => g
  | _, _, _ + 1, .nil => .nil
  | _, _, n + 1, .cons _ g => dps_drop n g
theorem dps_str : ∀ {xs : List Str} {vs : List V}, DpAll K H vs (xs.map PyData.str) → vs = xs.map V.str
  | [], _, .nil => rfl
  | x :: xs, _, .cons h g => by
    cases h
    rw [dps_str g]
    rfl
theorem dps_strs (K : PySem.W.Frag) (H : Hp) : ∀ (xs : List Str), DpAll K H (xs.map V.str) (xs.map PyData.str)
  | [] => .nil
  | x :: xs => .cons (.str x) (dps_strs K H xs)
theorem dps_int : ∀ {xs : List Int} {vs : List V}, DpAll K H vs (xs.map PyData.int) → vs = xs.map V.int
  | [], _, .nil => rfl
  | x :: xs, _, .cons h g => by
    cases h
    rw [dps_int g]
    rfl
theorem dps_ints (K : PySem.W.Frag) (H : Hp) : ∀ (xs : List Int), DpAll K H (xs.map V.int) (xs.map PyData.int)
  | [] => .nil
  | x :: xs => .cons (.int x) (dps_ints K H xs)
theorem dp_list {v : V} {ds : List PyData} (h : Dp K H v (.list ds)) : ∃ a xs, v = .ref a ∧ SqL K H a xs ∧ DpAll K H xs ds := by
  cases h with
  | lst h g => exact ⟨_, _, rfl, h, g⟩
theorem dp_tup {v : V} {ds : List PyData} (h : Dp K H v (.tuple ds)) : ∃ a xs, v = .ref a ∧ SqT K H a xs ∧ DpAll K H xs ds := by
  cases h with
  | tup h g => exact ⟨_, _, rfl, h, g⟩
/-- a term: a tuple of texts -/
def tm (t : List Str) : PyData := .tuple (t.map .str)
abbrev Pr := List Str × List Str
def prD (q : Pr) : PyData := .tuple [tm q.1, tm q.2]
def trD (q : Pr) : PyData := .tuple [.int ((q.1.length + q.2.length : Nat) : Int), tm q.1, tm q.2]
def colD (r : List Int) : PyData := .tuple (r.map .int)
theorem dp_tm {v : V} {t : List Str} (h : Dp K H v (tm t)) : ∃ a, v = .ref a ∧ SqT K H a (t.map V.str) := by
  obtain ⟨a, xs, rfl, h, g⟩ := dp_tup h
  rw [dps_str g] at h
  exact ⟨a, rfl, h⟩
theorem dp_tm_of {a : Addr} {t : List Str} (h : SqT K H a (t.map V.str)) : Dp K H (.ref a) (tm t) := .tup h (dps_strs K H t)
theorem dp_pr {v : V} {q : Pr} (h : Dp K H v (prD q)) : ∃ a u w, v = .ref a ∧ SqT K H a [u, w] ∧ Dp K H u (tm q.1) ∧ Dp K H w (tm q.2) := by
  obtain ⟨a, xs, rfl, h, g⟩ := dp_tup h
  cases g with
  | cons g1 g =>
    cases g with
    | cons g2 g =>
      cases g
      exact ⟨a, _, _, rfl, h, g1, g2⟩
theorem dp_pr_of {a : Addr} {u w : V} {q : Pr} (h : SqT K H a [u, w]) (h1 : Dp K H u (tm q.1)) (h2 : Dp K H w (tm q.2)) : Dp K H (.ref a) (prD q) := .tup h (.cons h1 (.cons h2 .nil))
/-! ### orders -/
section
variable {α : Type} {k : α → PyData}
abbrev srt (k : α → PyData) (l : List α) : List α := l.mergeSort (PySem.W.dataLe false k)
def KInj (k : α → PyData) : Prop := ∀ a b, PySem.W.keyToks (k a) = PySem.W.keyToks (k b) → a = b
theorem le_tot (k : α → PyData) : PySem.W.TotalLe (PySem.W.dataLe false k) := PySem.W.sortLe_total _ _ _
theorem le_anti (inj : KInj k) {a b : α} (h1 : PySem.W.dataLe false k a b = true) (h2 : PySem.W.dataLe false k b a = true) : a = b := by
  have e1 : (PyProof.Rows.lexLt itemOrd (PySem.W.keyToks (k b)) (PySem.W.keyToks (k a))) = false := by
    have z : (!PyProof.Rows.lexLt itemOrd (PySem.W.keyToks (k b)) (PySem.W.keyToks (k a))) = true := h1
    simpa using z
  have e2 : (PyProof.Rows.lexLt itemOrd (PySem.W.keyToks (k a)) (PySem.W.keyToks (k b))) = false := by
    have z : (!PyProof.Rows.lexLt itemOrd (PySem.W.keyToks (k a)) (PySem.W.keyToks (k b))) = true := h2
    simpa using z
  refine inj a b ?_
  exact (listOrd itemOrd).total _ _ e2 e1
theorem srt_sorted (k : α → PyData) (l : List α) : (srt k l).Pairwise fun a b => PySem.W.dataLe false k a b = true := PySem.W.sort_pairwise (le_tot k) l
theorem srt_perm_self (k : α → PyData) (l : List α) : (srt k l).Perm l := List.mergeSort_perm l _
theorem sorted_eq (inj : KInj k) : ∀ {l m : List α}, l.Perm m → l.Pairwise (fun a b => PySem.W.dataLe false k a b = true) → m.Pairwise (fun a b => PySem.W.dataLe false k a b = true) → l = m
  | [], m, p, _, _ => (List.nil_perm.1 p).symm
  | a :: l, m, p, hl, hm => by
    cases m with
    | nil => exact absurd p.length_eq (by simp)
    | cons b m =>
      have e : a = b := by
        have ha : a ∈ b :: m := p.mem_iff.1 List.mem_cons_self
        have hb : b ∈ a :: l := p.mem_iff.2 List.mem_cons_self
        rcases List.mem_cons.1 ha with e | ha
        · exact e
        · rcases List.mem_cons.1 hb with e | hb
          · exact e.symm
          · exact le_anti inj ((List.pairwise_cons.1 hl).1 b hb) ((List.pairwise_cons.1 hm).1 a ha)
      subst e
      rw [sorted_eq inj (p.cons_inv) (List.pairwise_cons.1 hl).2 (List.pairwise_cons.1 hm).2]
theorem srt_perm (inj : KInj k) {l m : List α} (p : l.Perm m) : srt k l = srt k m :=
  sorted_eq inj ((srt_perm_self k l).trans (p.trans (srt_perm_self k m).symm)) (srt_sorted k l) (srt_sorted k m)
theorem srt_of_sorted (inj : KInj k) {l m : List α} (p : l.Perm m) (h : m.Pairwise fun a b => PySem.W.dataLe false k a b = true) : srt k l = m :=
  sorted_eq inj ((srt_perm_self k l).trans p) (srt_sorted k l) h
theorem srt_mem {l : List α} {a : α} : a ∈ srt k l ↔ a ∈ l := (srt_perm_self k l).mem_iff
/-- the items read through a map -/
theorem srt_map {β : Type} (f : β → α) (l : List β) (inj : KInj k) : (srt (fun b => k (f b)) l).map f = srt k (l.map f) := by
  refine (srt_of_sorted inj ((srt_perm_self _ l).map f).symm ?_).symm
  exact List.pairwise_map.2 (srt_sorted (fun b => k (f b)) l)
end
theorem toks_strs : ∀ {xs ys : List Str} {l m : List (Int ⊕ List Nat)}, PySem.W.keyToksAll (xs.map PyData.str) ++ l = PySem.W.keyToksAll (ys.map PyData.str) ++ m → xs = ys ∧ l = m
  | [], [], l, m, h => by
    simp [PySem.W.keyToksAll] at h
    exact ⟨rfl, h⟩
  | [], y :: ys, l, m, h => by simp [PySem.W.keyToksAll] at h
  | x :: xs, [], l, m, h => by simp [PySem.W.keyToksAll] at h
  | x :: xs, y :: ys, l, m, h => by
    simp only [List.map_cons, PySem.W.keyToksAll, PySem.W.keyToks, List.cons_append, List.nil_append, List.cons.injEq, true_and, Sum.inr.injEq] at h
    obtain ⟨h1, h2⟩ := h
    obtain ⟨e1, e2⟩ := toks_strs h2
    have e : x = y := by
      cases x
      cases y
      rw [Str.mk.injEq]
      exact Array.toList_inj.1 h1
    exact ⟨by rw [e, e1], e2⟩
theorem toks_ints : ∀ {xs ys : List Int} {l m : List (Int ⊕ List Nat)}, PySem.W.keyToksAll (xs.map PyData.int) ++ l = PySem.W.keyToksAll (ys.map PyData.int) ++ m → xs = ys ∧ l = m
  | [], [], l, m, h => by
    simp [PySem.W.keyToksAll] at h
    exact ⟨rfl, h⟩
  | [], y :: ys, l, m, h => by simp [PySem.W.keyToksAll] at h
  | x :: xs, [], l, m, h => by simp [PySem.W.keyToksAll] at h
  | x :: xs, y :: ys, l, m, h => by
    simp only [List.map_cons, PySem.W.keyToksAll, PySem.W.keyToks, List.cons_append, List.nil_append, List.cons.injEq, true_and, Sum.inl.injEq] at h
    obtain ⟨h1, h2⟩ := h
    obtain ⟨e1, e2⟩ := toks_ints h2
    exact ⟨by rw [h1, e1], e2⟩
theorem inj_str : KInj PyData.str := fun a b h => by
  simp only [PySem.W.keyToks, List.cons.injEq, and_true, Sum.inr.injEq] at h
  cases a
  cases b
  rw [Str.mk.injEq]
  exact Array.toList_inj.1 h
theorem inj_col : KInj colD := fun a b h => by
  have h' : PySem.W.keyToksAll (a.map PyData.int) = PySem.W.keyToksAll (b.map PyData.int) := h
  exact (toks_ints (l := []) (m := []) (by rw [h'])).1
theorem inj_tr : KInj trD := fun a b h => by
  have h' : PySem.W.keyToksAll [.int ((a.1.length + a.2.length : Nat) : Int), tm a.1, tm a.2] = PySem.W.keyToksAll [.int ((b.1.length + b.2.length : Nat) : Int), tm b.1, tm b.2] := h
  simp only [PySem.W.keyToksAll, PySem.W.keyToks, tm, List.cons_append, List.nil_append, List.cons.injEq, true_and] at h'
  obtain ⟨_, h2⟩ := h'
  obtain ⟨e1, h3⟩ := toks_strs h2
  simp only [List.cons.injEq, true_and] at h3
  obtain ⟨e2, _⟩ := toks_strs h3
  exact Prod.ext e1 e2
/-- the shadow of a list of pairs in its order -/
def shadow (ps : List Pr) : List Pr := srt trD ps
theorem eqvAll_map {α : Type} {f : α → PyData} (h : ∀ a b, PyData.eqv (f a) (f b) = true ↔ a = b) : ∀ (l m : List α), PyData.eqvAll (l.map f) (m.map f) = true ↔ l = m
  | [], [] => by simp [PyData.eqvAll]
  | [], b :: m => by simp [PyData.eqvAll]
  | a :: l, [] => by simp [PyData.eqvAll]
  | a :: l, b :: m => by simp [PyData.eqvAll, h a b, eqvAll_map h l m]
theorem eqv_str (a b : Str) : PyData.eqv (.str a) (.str b) = true ↔ a = b := by simp [PyData.eqv]
theorem eqv_tm (a b : List Str) : PyData.eqv (tm a) (tm b) = true ↔ a = b := by
  show PyData.eqv (.tuple _) (.tuple _) = true ↔ _
  simp only [PyData.eqv]
  exact eqvAll_map eqv_str a b
theorem eqv_pr (a b : Pr) : PyData.eqv (prD a) (prD b) = true ↔ a = b := by
  simp only [prD, PyData.eqv, PyData.eqvAll, Bool.and_eq_true, and_true, eqv_tm]
  exact (Prod.ext_iff (x := a) (y := b)).symm
theorem eqv_list {α : Type} {f : α → PyData} (h : ∀ a b, PyData.eqv (f a) (f b) = true ↔ a = b) (l m : List α) : PyData.eqv (.list (l.map f)) (.list (m.map f)) = true ↔ l = m := by
  simp only [PyData.eqv]
  exact eqvAll_map h l m
theorem eqv_tuple {α : Type} {f : α → PyData} (h : ∀ a b, PyData.eqv (f a) (f b) = true ↔ a = b) (l m : List α) : PyData.eqv (.tuple (l.map f)) (.tuple (m.map f)) = true ↔ l = m := by
  simp only [PyData.eqv]
  exact eqvAll_map h l m
end Kt
/-! comprehensions whose result is any object: one core; {k: True for ..}; {x for .. for ..} -/
namespace Kt
open PySem PySem.Spec PyProof.Rows L2
section
variable {X : Cx}
/-- the reading: o₀ the new object, tb the body's -/
def tCc (o₀ : Addr → HO) (wi : TI) (g : TG) (tt : TT) (tb : L2.St → Hp → Addr → (Hp → Prop) → Prop) (vs : List Nat) : TE := fun σ H Q =>
  wi σ H fun J H1 => ∀ D, H1 D = none → ∃ W : Nat → Nat → Hp → Prop, (∃ m, W 0 m (upd H1 D (o₀ D))) ∧
    ∀ i m H, W i m H → (J.stop i H ∧ Q (.ref D) H) ∨
      (J.go i H ∧ ∃ Nx : Hp → Prop, (∀ H', Nx H' → ∃ m', m' < m ∧ W (i + 1) m' H') ∧
        ∀ x H', J.yld i H x H' → g x (wipe σ vs) H' fun σ2 H2 => wipe σ2 vs = wipe σ vs ∧
          tt σ2 H2 fun b H3 => if b = true then tb σ2 H3 D Nx else Nx H3)
/-- what a turn of the loop asks -/
abbrev Turns (P : Program) (w : World) (A : Around) (tg : Expr) (ifs : List Expr) (it : Value) (env : Env) (R : Result → Shared → Prop) (I : Nat → Shared → Prop) (B : (Shared → Prop) → Shared → Prop) : Prop :=
  ∀ n s, I n s → wpAny (model P w) A (pyNext it) (fun r a => match r with
    | none => R (.ok .next) a
    | some v => wpAny (model P w) A (letOwnedTupleGo tg it v) (fun _ a => wpAny (model P w) A (assign tg env v) (fun _ a =>
        wpAny (model P w) A (forIn ifs true fun c r => if r = true then do let ok ← isTrue c env (eval c env); pure (ForInStep.yield ok) else pure (ForInStep.yield r)) (fun ok a =>
          if ok = true then B (fun z => ∃ m, m < n ∧ I m z) a else ∃ m, m < n ∧ I m a)
          (notedBy (model P w) A env fun e z => R (.error e) z) a) (notedBy (model P w) A env fun e z => R (.error e) z) a) (notedBy (model P w) A env fun e z => R (.error e) z) a)
    (notedBy (model P w) A env fun e z => R (.error e) z) s
abbrev InBlk (X : Cx) (scope : Scope) (F : Cx → Prop) : Prop := ∀ (s : Shared) (H : Hp) (C : Addr) (cl : List (Str × Addr)) (fp : List Addr), F (X.blk s H scope (compEnvC scope cl C X.env) fp)
/-- the body in a context: from its reading the wp -/
def BodyOk (B : Env → Addr → (Result → Shared → Prop) → (Shared → Prop) → Shared → Prop) (tb : L2.St → Hp → Addr → (Hp → Prop) → Prop) (vs : List Nat) (X : Cx) : Prop :=
  ∀ (pins : List (Addr × Obj)) (s : Shared) (σ : L2.St) (H : Hp) (D : Addr) (Nx : Hp → Prop) (R : Result → Shared → Prop) (G : Shared → Prop), Inv X pins σ H s → tb σ H D Nx →
    (∀ σ' H' s', Inv X pins σ' H' s' → σ'.length = σ.length → (∀ (j : Nat) v, (wipe σ vs)[j]? = some (some v) → σ'[j]? = some (some v)) → Nx H' → G s') → B X.env D R G s
theorem comp_core {ce₀ tg iter : Expr} {ifs : List Expr} {cs : List Comprehension} {scope : Scope} {own : List (Str × Nat)} {pos : Pos} {new : Sem Value} {ob : Obj} {o₀ : Addr → HO}
    {wi : TI} {g : TG} {tt : TT} {tb : L2.St → Hp → Addr → (Hp → Prop) → Prop} {B : Env → Addr → (Result → Shared → Prop) → (Shared → Prop) → Shared → Prop}
    (hcl : clausesOf ce₀ = ⟨tg, iter, ifs, 0⟩ :: cs)
    (mk : ∀ (Q : Value → Shared → Prop) (E : Value → Shared → Prop) (s : Shared), Q (.ref s.heap.objs.size) { s with heap := s.heap.push ob } → wpAny (model X.prog X.w) X.A new Q E s)
    (nob : ∀ v, ob.data ≠ .cell v)
    (fresh : ∀ (H : Hp) (h : Heap), h.objs.size ≠ sysModules → ObjOk X.prog X.w (upd H h.objs.size (o₀ h.objs.size)) (h.push ob) h.objs.size (o₀ h.objs.size))
    (start : ∀ (it : Value) (D : Addr) (env : Env) (R : Result → Shared → Prop) (s : Shared), codeAny (model X.prog X.w) X.A (.compLoop ce₀ 0 it (.ref D) env) R s →
      wpAny (model X.prog X.w) X.A (pyIter it) (fun j z => codeAny (model X.prog X.w) X.A (.compLoop ce₀ 0 j (.ref D) env) R z) (notedBy (model X.prog X.w) X.A env fun x z => R (.error x) z) s →
      codeAny (model X.prog X.w) X.A (.compStart ce₀ 0 it (.ref D) env) R s)
    (loops : ∀ (it : Value) (D : Addr) (env : Env) (R : Result → Shared → Prop) (I : Nat → Shared → Prop), Turns X.prog X.w X.A tg ifs it env R I (B env D R) → ∀ n s, I n s → codeAny (model X.prog X.w) X.A (.compLoop ce₀ 0 it (.ref D) env) R s)
    (calm : X.calm = true) (nd : X.N.Nodup) (pi : PI X tg iter wi) (ok : BlkOk X.N X.env.scope scope own)
    (pg : InBlk X scope fun Y => PG Y tg g) (pt : InBlk X scope fun Y => PTs Y ifs tt) (pb : InBlk X scope fun Y => BodyOk B tb (own.map (·.2)) Y)
    (fo : ∀ x, foldedSetIterable iter X.env x = pure x) {pins : List (Addr × Obj)} {s : Shared} {σ : L2.St} {H : Hp} {Q : VK} (I : Inv X pins σ H s) (q : tCc o₀ wi g tt tb (own.map (·.2)) σ H Q) :
    wpAny (model X.prog X.w) X.A (comprehension ce₀ scope X.env pos new false (eval iter X.env) none) (fun v z => ∃ x H', Inv X pins σ H' z ∧ RelV x v ∧ Q x H') X.xe s := by
  have clos := closure_ok (env := X.env) (scope := scope) fun y hy e => (ok.free y hy e).elim (fun k => I.ok.has _ (.inl k)) fun k => I.ok.has _ (.inr k)
  refine wpAny_comprehension_free (use := none) hcl fo clos ok.kind (fun y hy e => by rw [ok.uniq y hy, e]) ?_
  refine thn (pi.run pins s σ H _ I q) fun src a ha => thn ha fun itr b hb => ?_
  obtain ⟨it, fp, tn, J, Hb, rfl, Ib, T, sb, fb, q⟩ := hb
  refine mk _ _ _ (newEnv_comp ?_)
  have big := Ib.big
  obtain ⟨D, hD⟩ : ∃ D, b.heap.objs.size = D := ⟨_, rfl⟩
  have free : Hb D = none := Ib.hok.fresh (Nat.le_of_eq hD)
  obtain ⟨W, ⟨m₀, w₀⟩, turn⟩ := q D free
  obtain ⟨c, hc⟩ : ∃ c : Shared, c = { b with heap := b.heap.push ob } := ⟨_, rfl⟩
  have Ic : Inv X pins σ (upd Hb D (o₀ D)) c := by
    rw [hc]
    refine Ib.laid (t' := b.toks) (fun u o e => Heap.get?_push_of_some _ e) (Nat.le_of_eq hD) ?_
    rw [← hD]
    exact fresh Hb b.heap (fun z => by
      first
        | exact absurd (z ▸ big) (by decide)
        | (rw [z] at big; revert big; decide)
        | omega)
  have ch : c.heap = b.heap.push ob := by rw [hc]
  have low : ∀ u ∈ fp, u < b.heap.objs.size := fun u hu => let ⟨o, e, _⟩ := T.obj _ _ sb u hu; Heap.lt_size e
  have fc : ∀ u ∈ fp, FpOk X pins (upd Hb D (o₀ D)) u ∧ u < c.heap.objs.size := fun u hu => by
    have l := low u hu
    refine ⟨⟨?_, (fb u hu).2⟩, by rw [ch, Heap.size_push]; exact Nat.lt_succ_of_lt l⟩
    rw [upd_ne (by rw [← hD]; exact Nat.ne_of_lt l)]
    exact (fb u hu).1
  have sc : tn 0 c.heap := T.keep _ _ _ sb fun u _ o e => by rw [ch]; exact Heap.get?_push_of_some _ e
  have I4 := block_start Ic ok nd fc
  obtain ⟨cells, hcells⟩ : ∃ l, l = cellsFrom (c.heap.objs.size + 1) scope.names (cloFrom X.env.cells scope.names []) := ⟨_, rfl⟩
  have g4 := pg c (upd Hb D (o₀ D)) c.heap.objs.size cells fp
  have t4 := pt c (upd Hb D (o₀ D)) c.heap.objs.size cells fp
  have b4 := pb c (upd Hb D (o₀ D)) c.heap.objs.size cells fp
  rw [hD, ← hc]
  rw [← hcells] at I4 ⊢
  obtain ⟨d, hd⟩ : ∃ d : Shared, d = { c with heap := pushCells (c.heap.push { cls := .type "dict", data := .dict #[] }) scope.names } := ⟨_, rfl⟩
  rw [← hd] at I4 ⊢
  have fp0 : ∀ u ∈ fp, (upd Hb D (o₀ D)) u = none := fun u hu => (fc u hu).1.1
  obtain ⟨en, hen⟩ : ∃ en, en = compEnvC scope cells c.heap.objs.size X.env := ⟨_, rfl⟩
  have loc : en.locals = c.heap.objs.size := by rw [hen]; rfl
  rw [← hen] at I4 g4 t4 b4
  show codeAny _ _ (.compStart ce₀ 0 (.ref it) (.ref D) (compEnvC scope cells c.heap.objs.size X.env)) (compPost (model X.prog X.w) X.A X.xe none _ (.ref D) c.heap.objs.size) d
  rw [← hen]
  generalize hH : upd Hb D (o₀ D) = Hc at Ic I4 g4 t4 b4 w₀ fp0 fc
  have sd : tn 0 d.heap := T.keep _ _ _ sc fun u _ o e => by rw [hd]; exact pushCells_keeps _ _ _ _ (Heap.get?_push_of_some _ e)
  have stand : ∀ {σ' : L2.St} {H' : Hp} {z : Shared}, Inv (X.blk c Hc scope en fp) [] σ' H' z → (∀ u ∈ fp, H' u = none) → ∀ u ∈ fp, FpOk (X.blk c Hc scope en fp) [] H' u := fun {σ' H' z} J n u hu =>
    ⟨n u hu, (J.ok.exf u hu).1, J.ok.exfs u hu, .inl hu, fun x k e => (J.ok.exf u hu).2 x k e, fun p hp => by cases hp⟩
  suffices loop : codeAny (model X.prog X.w) X.A (.compLoop ce₀ 0 (.ref it) (.ref D) en) (compPost (model X.prog X.w) X.A X.xe none (fun v z => ∃ x H', Inv X pins σ H' z ∧ RelV x v ∧ Q x H') (.ref D) c.heap.objs.size) d from
    start _ _ _ _ _ loop (T.self X.A 0 _ _ _ sd loop)
  refine loops _ _ _ _ (fun n z => ∃ i H', Inv (X.blk c Hc scope en fp) [] (wipe σ (own.map (·.2))) H' z ∧ tn i z.heap ∧ (∀ u ∈ fp, H' u = none) ∧ W i n H') ?_ m₀ d ⟨0, Hc, I4, sd, fp0, w₀⟩
  rintro n z ⟨i, Hz, Iz, sz, nz, wz⟩
  rcases turn i n Hz wz with ⟨stop, fin⟩ | ⟨go, Nx, hNx, step⟩
  · refine thnF (T.done (X.blk c Hc scope en fp) rfl rfl rfl calm i [] z _ Hz (fun _ _ => False) Iz (stand Iz nz) sz stop) fun r y ⟨hr, Iy⟩ => ?_
    subst hr
    have back : Inv X pins σ Hz y := Ic.call' (ch := fp) Iy.os Iy.base Iy.hok Iy.bare fun u hu =>
      have k := (fc u hu).1.2
      ⟨k.2.2.1, k.1, k.2.2.2.1, k.2.2.2.2⟩
    have nC : Hz c.heap.objs.size = none := by
      have k : Hz en.locals = none := Iy.free
      rw [loc] at k
      exact k
    obtain ⟨ns, hns, _⟩ := Iy.loc
    have hns : y.heap.Ns en.locals ns := hns
    rw [loc] at hns
    obtain ⟨_, f1, f2, f3, f4, f5⟩ := Ic.fpOk (Nat.le_refl _) nC
    exact ⟨ns, hns, fun h'' sm => ⟨.ref D, Hz, back.turned (t' := y.toks) (fun u o hu e => (sm.2 u hu).trans e) nC f1 f3 f4 f5, rfl, fin⟩⟩
  · refine thnF (T.item (X.blk c Hc scope en fp) rfl rfl rfl calm i [] z _ Hz (fun _ _ => False) Iz (stand Iz nz) sz go) fun r y ⟨u, hr, hy⟩ => ?_
    subst hr
    refine thnF hy fun _ y ⟨x, Hy, Iy, ry, yy, sy, ny⟩ => ?_
    have Jy := Iy.pinned (stand Iy ny) (T.obj _ _ sy)
    refine thnF (g4.run _ y _ Hy x u _ Jy ry (step x Hy yy)) fun _ v ⟨σv, Hv, Iv, hw, qv⟩ => ?_
    refine thnF (t4.run _ v σv Hv _ Iv qv) fun bb k ⟨Hk, Ik, qk⟩ => ?_
    have fin : ∀ σ' H' s', Inv (X.blk c Hc scope en fp) ([] ++ pinsAt fp y.heap) σ' H' s' → σ'.length = σv.length → (∀ (j : Nat) v, (wipe σv (own.map (·.2)))[j]? = some (some v) → σ'[j]? = some (some v)) → Nx H' →
        ∃ m, m < n ∧ ∃ i H', Inv (X.blk c Hc scope en fp) [] (wipe σ (own.map (·.2))) H' s' ∧ tn i s'.heap ∧ (∀ u ∈ fp, H' u = none) ∧ W i m H' := fun σ' H' s' J hl hw' nx => by
      obtain ⟨m', hm, w'⟩ := hNx H' nx
      have pin : ∀ u ∈ fp, ∀ o, y.heap.get? u = some o → s'.heap.get? u = some o ∧ H' u = none := fun u hu o e =>
        have k := J.pin (u, o) (List.mem_append_right _ (List.mem_append_right _ (mem_pinsAt hu e)))
        ⟨k.1, k.2.1⟩
      refine ⟨m', hm, i + 1, H', (J.unpinned (pins := [])).weak (by rw [← hw, wipe_length, hl]) (fun j v e => hw' j v (by rw [hw]; exact e)), T.keep _ _ _ sy fun u hu o e => (pin u hu o e).1, fun u hu => ?_, w'⟩
      · obtain ⟨o, e, _⟩ := T.obj _ _ sy u hu
        exact (pin u hu o e).2
    cases bb with
    | false =>
      simp only [Bool.false_eq_true, if_false] at qk ⊢
      exact fin _ _ _ Ik rfl (fun j v e => (wipe_some e).1) qk
    | true =>
      simp only [if_true] at qk ⊢
      exact b4 _ k σv Hk D Nx _ _ Ik qk fin
end
end Kt
/-! rules: nested keys; dicts of them; sets of them; sorted of a set, of data -/
namespace Kt
open PySem PySem.Spec PyProof.Rows L2
/-! ### keys as data -/
mutual
def pk : NestedKey → PyData
  | .none => .none
  | .num i => .int i
  | .text x => .str x
  | .tup ks => .tuple (pks ks)
def pks : List NestedKey → List PyData
  | [] => []
  | k :: ks => pk k :: pks ks
end
def kT (t : List Str) : NestedKey := .tup (t.map .text)
def kP (q : Pr) : NestedKey := .tup [kT q.1, kT q.2]
def kTr (q : Pr) : NestedKey := .tup [.num ((q.1.length + q.2.length : Nat) : Int), kT q.1, kT q.2]
def kC (r : List Int) : NestedKey := .tup (r.map .num)
theorem pks_text : ∀ t : List Str, pks (t.map .text) = t.map .str
  | [] => rfl
  | x :: t => by
    show PyData.str x :: pks (t.map .text) = PyData.str x :: t.map .str
    rw [pks_text t]
theorem pks_num : ∀ t : List Int, pks (t.map .num) = t.map .int
  | [] => rfl
  | x :: t => by
    show PyData.int x :: pks (t.map .num) = PyData.int x :: t.map .int
    rw [pks_num t]
theorem pk_T (t : List Str) : pk (kT t) = tm t := by
  show PyData.tuple (pks (t.map .text)) = _
  rw [pks_text]
  rfl
theorem pk_P (q : Pr) : pk (kP q) = prD q := by
  show PyData.tuple [pk (kT q.1), pk (kT q.2)] = _
  rw [pk_T, pk_T]
  rfl
theorem pk_Tr (q : Pr) : pk (kTr q) = trD q := by
  show PyData.tuple [_, pk (kT q.1), pk (kT q.2)] = _
  rw [pk_T, pk_T]
  rfl
theorem pk_C (r : List Int) : pk (kC r) = colD r := by
  show PyData.tuple (pks (r.map .num)) = _
  rw [pks_num]
  rfl
theorem texts_inj : ∀ {a b : List Str}, (a.map NestedKey.text) = b.map .text → a = b
  | [], [], _ => rfl
  | [], _ :: _, h => by cases h
  | _ :: _, [], h => by cases h
  | x :: a, y :: b, h => by
    rw [List.map_cons, List.map_cons, List.cons.injEq, NestedKey.text.injEq] at h
    rw [h.1, texts_inj h.2]
theorem nums_inj : ∀ {a b : List Int}, (a.map NestedKey.num) = b.map .num → a = b
  | [], [], _ => rfl
  | [], _ :: _, h => by cases h
  | _ :: _, [], h => by cases h
  | x :: a, y :: b, h => by
    rw [List.map_cons, List.map_cons, List.cons.injEq, NestedKey.num.injEq] at h
    rw [h.1, nums_inj h.2]
theorem kT_inj {a b : List Str} (h : kT a = kT b) : a = b := texts_inj (NestedKey.tup.inj h)
theorem kC_inj {a b : List Int} (h : kC a = kC b) : a = b := nums_inj (NestedKey.tup.inj h)
theorem kP_inj {a b : Pr} (h : kP a = kP b) : a = b := by
  have e := NestedKey.tup.inj h
  rw [List.cons.injEq, List.cons.injEq] at e
  exact Prod.ext (kT_inj e.1) (kT_inj e.2.1)
theorem kTr_inj {a b : Pr} (h : kTr a = kTr b) : a = b := by
  have e := NestedKey.tup.inj h
  rw [List.cons.injEq, List.cons.injEq, List.cons.injEq] at e
  exact Prod.ext (kT_inj e.2.1) (kT_inj e.2.2.1)
theorem texts_depth : ∀ t : List Str, NestedKey.depthAll (t.map .text) ≤ 1
  | [] => by simp [NestedKey.depthAll]
  | x :: t => by
    have := texts_depth t
    simp only [List.map_cons, NestedKey.depthAll, NestedKey.depth]
    omega
theorem nums_depth : ∀ t : List Int, NestedKey.depthAll (t.map .num) ≤ 1
  | [] => by simp [NestedKey.depthAll]
  | x :: t => by
    have := nums_depth t
    simp only [List.map_cons, NestedKey.depthAll, NestedKey.depth]
    omega
theorem kT_depth (t : List Str) : (kT t).depth ≤ 2 := by
  have := texts_depth t
  unfold kT
  rw [nk_depth]
  omega
theorem kC_depth (t : List Int) : (kC t).depth ≤ 2 := by
  have := nums_depth t
  unfold kC
  rw [nk_depth]
  omega
theorem kP_depth (q : Pr) : (kP q).depth ≤ 8 := by
  have h1 := kT_depth q.1
  have h2 := kT_depth q.2
  unfold kP
  rw [nk_depth]
  simp only [NestedKey.depthAll]
  omega
theorem kTr_depth (q : Pr) : (kTr q).depth ≤ 8 := by
  have h1 := kT_depth q.1
  have h2 := kT_depth q.2
  unfold kTr
  rw [nk_depth]
  simp only [NestedKey.depthAll, NestedKey.depth]
  omega
section
variable {X : Cx} {pins : List (Addr × Obj)} {σ : L2.St} {H : Hp} {s : Shared}
mutual
theorem nk_of (I : Inv X pins σ H s) : ∀ (k : NestedKey) (v : V) (u : Value), Dp X.K H v (pk k) → RelV v u → NestedIs s.heap k u
  | .none, v, u, h, r => by
    unfold pk at h
    cases h
    cases r
    exact .none
  | .num i, v, u, h, r => by
    unfold pk at h
    cases h
    obtain ⟨t, rfl⟩ := r
    exact .int i t
  | .text x, v, u, h, r => by
    unfold pk at h
    cases h
    obtain ⟨t, rfl⟩ := r
    exact .text x t
  | .tup ks, v, u, h, r => by
    unfold pk at h
    cases h with
    | tup hs ha =>
      cases r
      obtain ⟨its, rv, ⟨o, ho, hc, n, hd⟩, _⟩ := I.tuple hs
      exact .tup ho hc hd (by simpa using nks_of I ks _ its ha rv)
theorem nks_of (I : Inv X pins σ H s) : ∀ (ks : List NestedKey) (vs : List V) (us : List Value), DpAll X.K H vs (pks ks) → Vals vs us → NestedAll s.heap ks us
  | [], vs, us, h, r => by
    unfold pks at h
    cases h
    cases r
    exact .nil
  | k :: ks, vs, us, h, r => by
    unfold pks at h
    cases h with
    | cons h1 h2 =>
      cases r with
      | cons r1 r2 => exact .cons (nk_of I k _ _ h1 r1) (nks_of I ks _ _ h2 r2)
end
theorem nkIs_of (I : Inv X pins σ H s) {k : NestedKey} {a : Addr} (h : Dp X.K H (.ref a) (pk k)) (hd : k.depth ≤ 8) : nkIs X.prog X.w s.heap k a := ⟨nk_of I k _ _ h rfl, hd⟩
end
/-! ### a dict whose keys are nested tuples, its values all true -/
abbrev NL := List (Addr × NestedKey)
def enT (p : Addr × NestedKey) : NestedKey × Addr × Value := (p.2, p.1, .bool true)
def DN (P : Program) (w : World) (h : Heap) (d : Addr) (L : NL) : Prop :=
  ∃ o es ep, h.get? d = some o ∧ o.ExactDict ∧ o.data = .dict es ep ∧ es.toList = (L.map enT).map (entryOfKey (nestedKind P w)) ∧ (L.map (·.2)).Nodup ∧ L.length ≤ sizeLine ∧ (d == sysModules) = false
def DNO (P : Program) (w : World) (d : Addr) (L : NL) : HO := .ext fun h => DN P w h d L
open Classical in
noncomputable def putN (L : NL) (b : Addr) (k : NestedKey) : NL := if k ∈ L.map (·.2) then L else L ++ [(b, k)]
theorem putN_len (L : NL) (b : Addr) (k : NestedKey) : (putN L b k).length ≤ L.length + 1 := by
  unfold putN
  split
  · omega
  · simp
theorem putN_mem {L : NL} {b : Addr} {k : NestedKey} {p : Addr × NestedKey} (h : p ∈ putN L b k) : p ∈ L ∨ p = (b, k) := by
  unfold putN at h
  split at h
  · exact .inl h
  · rcases List.mem_append.1 h with h | h
    · exact .inl h
    · exact .inr (List.mem_singleton.1 h)
theorem putN_keys (L : NL) (b : Addr) (k x : NestedKey) : x ∈ (putN L b k).map (·.2) ↔ x ∈ L.map (·.2) ∨ x = k := by
  unfold putN
  split
  · rename_i h
    exact ⟨.inl, fun z => z.elim id fun e => e ▸ h⟩
  · rw [List.map_append, List.mem_append]
    simp
theorem putN_new {L : NL} {b : Addr} {k : NestedKey} (h : k ∉ L.map (·.2)) : putN L b k = L ++ [(b, k)] := by
  unfold putN
  rw [if_neg h]
theorem enT_keys (L : NL) : (L.map enT).map (·.1) = L.map (·.2) := by
  rw [List.map_map]
  rfl
section
variable {P : Program} {w : World}
theorem dnO_ok {H : Hp} {h : Heap} {d : Addr} {L : NL} (R : DN P w h d L) : ObjOk P w H h d (DNO P w d L) := by
  have hx : ∃ o, h.get? d = some o := let ⟨o, _, _, ho, _⟩ := R; ⟨o, ho⟩
  refine ⟨R, hx, fun h1 h2 p k => ?_⟩
  obtain ⟨o, es, ep, ho, r⟩ := p
  exact ⟨o, es, ep, k o ho, r⟩
theorem dn_full {h : Heap} {d : Addr} {L : NL} (R : DN P w h d L) (ht : ∀ p ∈ L, nkIs P w h p.2 p.1) : h.DictOfH (nestedKind P w) d (L.map enT) := by
  obtain ⟨o, es, ep, ho, he, hd, hr, hn, _⟩ := R
  refine ⟨o, es, ep, ho, he, hd, hr, fun x hx => ?_, by rw [enT_keys]; exact hn⟩
  obtain ⟨p, hp, rfl⟩ := List.mem_map.1 hx
  exact ht p hp
theorem at_none {L : NL} {k : NestedKey} (h : k ∉ L.map (·.2)) : atKey (L.map enT) k = none := by
  have z : ∀ L : NL, k ∉ L.map (·.2) → atKey (L.map enT) k = none := by
    intro L
    induction L with
    | nil => intro _; rfl
    | cons p L ih =>
      intro h
      rw [List.map_cons, List.mem_cons, not_or] at h
      have ih := ih h.2
      unfold atKey at ih ⊢
      have ne : p.2 ≠ k := fun e => h.1 e.symm
      simp [List.find?_cons, enT, ne] at ih ⊢
      exact ih
  exact z L h
theorem at_some {L : NL} {k : NestedKey} (h : k ∈ L.map (·.2)) : ∃ p, atKey (L.map enT) k = some p := by
  have z : ∀ L : NL, k ∈ L.map (·.2) → ∃ p, atKey (L.map enT) k = some p := by
    intro L
    induction L with
    | nil => intro h; cases h
    | cons p L ih =>
      intro h
      by_cases e : p.2 = k
      · refine ⟨(p.1, .bool true), ?_⟩
        unfold atKey
        simp [List.find?_cons, enT, e]
      · have h' : k ∈ L.map (·.2) := by
          rcases List.mem_cons.1 (by simpa using h : k ∈ p.2 :: L.map (·.2)) with z | z
          · exact absurd z.symm e
          · exact z
        obtain ⟨q, hq⟩ := ih h'
        refine ⟨q, ?_⟩
        unfold atKey at hq ⊢
        simp [List.find?_cons, enT, e] at hq ⊢
        exact hq
  exact z L h
theorem stored_put (L : NL) (b : Addr) (k : NestedKey) : storedH (L.map enT) k b (.bool true) = (putN L b k).map enT := by
  unfold putN
  by_cases h : k ∈ L.map (·.2)
  · rw [if_pos h]
    obtain ⟨p, hp⟩ := at_some h
    rw [storedH_old hp, List.map_map]
    refine List.map_congr_left fun q _ => ?_
    unfold putAt enT
    simp only [Function.comp]
    split <;> simp_all
  · rw [if_neg h, storedH_new (at_none h), List.map_append]
    rfl
end
section
variable {X : Cx}
theorem dn_at {pins : List (Addr × Obj)} {σ : L2.St} {H : Hp} {s : Shared} {d : Addr} {L : NL} (I : Inv X pins σ H s) (h : H d = some (DNO X.prog X.w d L)) : DN X.prog X.w s.heap d L := (I.hok d _ h).1
theorem dn_empty {P : Program} {w : World} (h : Heap) (hb : h.objs.size ≠ sysModules) : DN P w (h.push { cls := .type "dict", data := .dict #[] }) h.objs.size [] :=
  ⟨_, #[], 0, Heap.get?_push_size _ rfl, ⟨rfl, rfl, rfl⟩, rfl, rfl, List.nodup_nil, Nat.zero_le _, beq_eq_false_iff_ne.2 hb⟩
/-- {} -/
def tDNewN (P : Program) (w : World) : TE := fun _ H Q => ∀ p, H p = none → Q (.ref p) (upd H p (DNO P w p []))
theorem pe_dnewN {pos : Pos} : PE X (.Dict [] [] pos) (tDNewN X.prog X.w) := ⟨fun pins s σ H Q I h =>
  wpAny_Dict_empty ⟨.ref s.heap.objs.size, _, I.laid (a := s.heap.objs.size) (o := DNO X.prog X.w s.heap.objs.size []) (t' := s.toks) (fun _ _ q => Heap.get?_push_of_some _ q) (Nat.le_refl _) (dnO_ok (dn_empty s.heap (Nat.ne_of_gt I.big))), rfl, h _ (I.hok.fresh (Nat.le_refl _))⟩⟩
/-- after the store -/
theorem dn_write {pins : List (Addr × Obj)} {σ : L2.St} {H : Hp} {s : Shared} {d b : Addr} {L : NL} {k : NestedKey} {h' : Heap} {t' : Nat} (I : Inv X pins σ H s) (hd : H d = some (DNO X.prog X.w d L)) (room : L.length < sizeLine)
    (dd : h'.DictOfH (nestedKind X.prog X.w) d (storedH (L.map enT) k b (.bool true))) (hs : Heap.SameBut d s.heap h') : Inv X pins σ (upd H d (DNO X.prog X.w d (putN L b k))) { s with heap := h', toks := t' } := by
  rw [stored_put] at dd
  obtain ⟨o, es, ep, ho, he, hdt, hr, _, hn⟩ := dd
  have lo : (d == sysModules) = false := let ⟨_, _, _, _, _, _, _, _, _, e⟩ := dn_at I hd; e
  refine I.write (x := d) (e := d) (by rw [hd]; exact True.intro) (.inl rfl) (fun c q hc z => (hs.2 c hc).trans z) ⟨o, ho⟩ (dnO_ok ⟨o, es, ep, ho, he, hdt, hr, by rw [enT_keys] at hn; exact hn, ?_, lo⟩)
  have := putN_len L b k
  omega
def KeysAt (K : PySem.W.Frag) (H : Hp) (L : NL) : Prop := ∀ p ∈ L, Dp K H (.ref p.1) (pk p.2) ∧ p.2.depth ≤ 8
theorem KeysAt.is {pins : List (Addr × Obj)} {σ : L2.St} {H : Hp} {s : Shared} {L : NL} (k : KeysAt X.K H L) (I : Inv X pins σ H s) : ∀ p ∈ L, nkIs X.prog X.w s.heap p.2 p.1 := fun p hp => nkIs_of I (k p hp).1 (k p hp).2
theorem KeysAt.same {K : PySem.W.Frag} {H H' : Hp} {L : NL} (k : KeysAt K H L) (s : Same H H') : KeysAt K H' L := fun p hp => ⟨dp_same s (k p hp).1, (k p hp).2⟩
theorem KeysAt.put {K : PySem.W.Frag} {H : Hp} {L : NL} {b : Addr} {k : NestedKey} (h : KeysAt K H L) (hb : Dp K H (.ref b) (pk k)) (hd : k.depth ≤ 8) : KeysAt K H (putN L b k) := fun p hp =>
  (putN_mem hp).elim (h p) fun e => by
    rw [e]
    exact ⟨hb, hd⟩
/-- d[k] = True -/
def sDPutN (P : Program) (w : World) (K : PySem.W.Frag) (td ty tv : TE) : TS := fun D σ H => tv σ H fun v H1 => td σ H1 fun x H2 => ty σ H2 fun y H3 => ∃ d b L k, v = .bl true ∧ x = .ref d ∧ y = .ref b ∧
  H3 d = some (DNO P w d L) ∧ L.length < sizeLine ∧ KeysAt K H3 L ∧ Dp K H3 (.ref b) (pk k) ∧ k.depth ≤ 8 ∧ D.nx σ (upd H3 d (DNO P w d (putN L b k)))
theorem ps_dputN {o i value : Expr} {pos pos' : Pos} {td ty tv : TE} (hu : X.A.units + 64 < cLine) (ho : PE X o td) (hi : PE X i ty) (hv : PE X value tv) (hs : swapsWith value (some (.Subscript o i pos')) pos.line X.env = pure false) :
    PS X (.Assign [.Subscript o i pos'] value pos) (sDPutN X.prog X.w X.K td ty tv) := by
  refine ⟨fun pins s σ H D I h => ?_⟩
  refine wpAny_Assign_Subscript (thn (hv.run pins s σ H _ I h) fun r a ⟨v, Ha, Ia, rv, q⟩ => thn (ho.run pins a σ Ha _ Ia q) fun u b ⟨x, Hb, Ib, rx, q⟩ => thn (hi.run pins b σ Hb _ Ib q) fun iv c ⟨y, Hc, Ic, ry, d, e, L, k, e1, e2, e3, hd, room, hk, hb, dp, q3⟩ => ?_) hs
  subst e1 e2 e3
  cases rv
  cases rx
  cases ry
  refine wpAny_setItem_heap (hsz := by rw [List.length_map]; omega) (show X.A.units + 1 + 8 < cLine by omega) (nkIs_of Ic hb dp) (dn_full (dn_at Ic hd) (hk.is Ic)) fun h' dd hs => ?_
  exact ⟨σ, _, dn_write Ic hd room dd hs, q3⟩
/-- len(d) -/
theorem call_lenN (hu : X.A.units + 64 < cLine) : CallR X (.builtin "len") (fun xs H Q => ∃ d L, xs = [V.ref d] ∧ H d = some (DNO X.prog X.w d L) ∧ KeysAt X.K H L ∧ Q (.int L.length) H) := by
  intro pins s σ H xs us Q I r h
  obtain ⟨d, L, rfl, hd, hk, q⟩ := h
  rw [Vals.ref1 r]
  have R := dn_at I hd
  obtain ⟨_, _, _, _, _, _, _, _, hz, lo⟩ := id R
  refine call_len_dictH lo (dn_full R (hk.is I)) (by rw [List.length_map]; rw [sizeLine_eq] at hz; omega) ?_
  rw [List.length_map]
  exact ⟨.int ((L.length : Nat) : Int), H, I.tok _, ⟨_, rfl⟩, q⟩
/-- list(d) -/
theorem call_listN (calm : X.calm = true) : CallR X (.type "list") (fun xs H Q => ∃ d L, xs = [V.ref d] ∧ H d = some (DNO X.prog X.w d L) ∧ KeysAt X.K H L ∧ ∀ p, H p = none → Q (.ref p) (upd H p (.lst (L.map fun q => V.ref q.1)))) := by
  intro pins s σ H xs us Q I r h
  obtain ⟨d, L, rfl, hd, hk, q⟩ := h
  rw [Vals.ref1 r]
  have R := dn_at I hd
  obtain ⟨_, _, _, _, _, _, _, _, hz, lo⟩ := id R
  obtain ⟨es, ep, raw, hsz, hat⟩ := (dn_full R (hk.is I)).raw
  rw [List.length_map] at hsz
  refine PySem.W.kdl_call (PySem.KdlSrc.rawDict lo) (I.ok.hd calm) raw (by omega) fun h' tk acc c' up hD hacc => ?_
  have hv : Vals (L.map fun q => V.ref q.1) acc.toList := by
    have e : acc.toList = L.map fun q => Value.ref q.1 := by
      refine List.ext_getElem? fun i => ?_
      rw [Array.getElem?_toList, List.getElem?_map]
      by_cases hi : i < es.size
      · have ha : i < acc.size := by rw [hacc.1]; exact hi
        rw [Array.getElem?_eq_getElem ha, List.getElem?_eq_getElem (show i < L.length by omega)]
        obtain ⟨hi', ev⟩ := hacc.2 i _ (Array.getElem?_eq_getElem ha)
        obtain ⟨y, hy, h1, _⟩ := hat i hi
        rw [List.getElem?_map, List.getElem?_eq_getElem (show i < L.length by omega)] at hy
        have ey : enT L[i] = y := Option.some.inj hy
        rw [ev, h1, ← ey]
        rfl
      · rw [Array.getElem?_eq_none (by rw [hacc.1]; omega), List.getElem?_eq_none (by omega)]
        rfl
    rw [e]
    have z : ∀ L : NL, Vals (L.map fun q => V.ref q.1) (L.map fun q => Value.ref q.1) := fun L => by
      induction L with
      | nil => exact .nil
      | cons p L ih => exact .cons rfl ih
    exact z L
  refine ⟨.ref s.heap.objs.size, _, I.laid (o := .lst (L.map fun q => V.ref q.1)) (t' := tk) up (Nat.le_refl _) ⟨by rw [List.length_map]; exact hz, acc.toList, c', hv, by rw [Array.toArray_toList]; exact hD⟩, rfl, q _ (I.hok.fresh (Nat.le_refl _))⟩
end
end Kt
/-! set(xs) of nested tuples, sorted of a set, sorted of data -/
namespace Kt
open PySem PySem.Spec PyProof.Rows L2
theorem perm_lift {α β : Type} {f : α → β} {vs ws : List β} (p : vs.Perm ws) : ∀ L : List α, ws = L.map f → ∃ L1 : List α, L1.Perm L ∧ vs = L1.map f := by
  induction p with
  | nil =>
    intro L e
    exact ⟨L, .refl _, e⟩
  | cons x p ih =>
    intro L e
    cases L with
    | nil => cases e
    | cons a L =>
      rw [List.map_cons, List.cons.injEq] at e
      obtain ⟨L1, p1, e1⟩ := ih L e.2
      exact ⟨a :: L1, p1.cons a, by rw [List.map_cons, ← e1, e.1]⟩
  | swap x y l =>
    intro L e
    match L, e with
    | [], e => cases e
    | [_], e => cases e
    | a :: b :: L, e =>
      simp only [List.map_cons, List.cons.injEq] at e
      exact ⟨b :: a :: L, List.Perm.swap _ _ _, by simp [e.1, e.2.1, e.2.2]⟩
  | trans p q ih1 ih2 =>
    intro L e
    obtain ⟨L1, p1, e1⟩ := ih2 L e
    obtain ⟨L2, p2, e2⟩ := ih1 L1 e1
    exact ⟨L2, p2.trans p1, e2⟩
theorem each_map_of {α β : Type} {f : β → α} : ∀ {l : List α} {m : List β}, PySem.W.EachIs (fun v b => v = f b) l m → l = m.map f
  | _, _, .nil => rfl
  | _, _, .cons h t => by rw [List.map_cons, h, each_map_of t]
theorem each_of {α β : Type} {R : α → β → Prop} {f : β → α} : ∀ {m : List β}, (∀ b ∈ m, R (f b) b) → PySem.W.EachIs R (m.map f) m
  | [], _ => .nil
  | b :: m, h => .cons (h b List.mem_cons_self) (each_of fun c hc => h c (List.mem_cons_of_mem _ hc))
/-- what sorted asks of the data -/
structure Srt {β : Type} (A : Around) (enc : β → PyData) (L : List β) : Prop where
  al : PySem.W.AllAlike (L.map enc)
  so : PySem.W.Sortable (L.map enc)
  dp : ∀ b ∈ L, A.units + 2 + (enc b).depth < cLine
  len : L.length ≤ sizeLine
theorem Srt.perm {β : Type} {A : Around} {enc : β → PyData} {L M : List β} (h : Srt A enc L) (p : M.Perm L) : Srt A enc M where
  al := fun d hd e he => h.al d ((p.map enc).mem_iff.1 hd) e ((p.map enc).mem_iff.1 he)
  so := h.so.imp (fun z d hd => z d ((p.map enc).mem_iff.1 hd)) fun z d hd => z d ((p.map enc).mem_iff.1 hd)
  dp := fun b hb => h.dp b (p.mem_iff.1 hb)
  len := by rw [p.length_eq]; exact h.len
section
variable {P : Program} {w : World} {A : Around} {E : Value → Shared → Prop} {s : Shared} {β : Type} {enc : β → PyData} {f : β → Value} {L : List β} {a : Addr}
/-- sorted of what is collected in some order -/
theorem sorted_got {Q : Value → Shared → Prop}
    (got : ∀ (E' : Value → Shared → Prop) (Q' : List Value → Shared → Prop), (∀ z out, (∀ b o, s.heap.get? b = some o → z.heap.get? b = some o) → s.heap.objs.size ≤ z.heap.objs.size → z.gens = s.gens → z.os = s.os → out.Perm (L.map f) → Q' out z) → wpAny (model P w) A.in1 (collect (.ref a)) Q' E' s)
    (ok : Srt A enc L) (rd : ∀ b ∈ L, ∃ as, Reads s.heap (f b) (enc b) as)
    (h : ∀ z p c L1, (∀ b o, s.heap.get? b = some o → z.heap.get? b = some o) → z.gens = s.gens → z.os = s.os → s.heap.objs.size ≤ p → L1.Perm L → z.heap.get? p = some (seqObj "list" ((srt enc L1).map f).toArray c) → Q (.ref p) z) :
    wpAny (model P w) A (call (.builtin "sorted") [.ref a]) Q E s := by
  refine Calls.call_function_entry kind_sorted plain_sorted entry_sorted (args_sorted1 _) ?_
  unfold Builtin.«sorted»
  refine wpAny_bind (m := checkCount "sorted" 1 1 _) (wpAny_pure ?_)
  refine wpAny_bind (got _ _ fun b vs up le g o pm => ?_)
  obtain ⟨L1, p1, rfl⟩ := perm_lift pm L rfl
  have ok1 := ok.perm p1
  have rd1 : ∀ x ∈ L1, ∃ as, Reads b.heap (f x) (enc x) as := fun x hx => by
    obtain ⟨as, r⟩ := rd x (p1.mem_iff.1 hx)
    exact ⟨as, PyProof.Rows.Reads.keeps up r⟩
  have hz : (L1.map f).length ≤ sizeLine := by rw [List.length_map]; exact ok1.len
  refine wpAny_bind (wpAny_newList ?_ hz)
  have ho : (b.heap.push (seqObj "list" (L1.map f).toArray 0)).get? b.heap.objs.size = some (seqObj "list" (L1.map f).toArray 0) := Heap.get?_push_size _ rfl
  have up2 : ∀ c o, b.heap.get? c = some o → (PySem.W.sortingHeap (b.heap.push (seqObj "list" (L1.map f).toArray 0)) b.heap.objs.size (L1.map f)).get? c = some o := fun c o e =>
    PySem.W.sortingHeap_old (Nat.ne_of_lt (Heap.lt_size e)) (Heap.get?_push_of_some _ e)
  have er : PySem.W.EachIs (fun v x => ∃ as, Reads (PySem.W.sortingHeap (b.heap.push (seqObj "list" (L1.map f).toArray 0)) b.heap.objs.size (L1.map f)) v (enc x) as) (L1.map f) L1 := each_of fun x hx => by
    obtain ⟨as, r⟩ := rd1 x hx
    exact ⟨as, PyProof.Rows.Reads.keeps up2 r⟩
  refine wpAny_bind (wpAny_holding (wpAny_call_entry PySem.F.slot_list_sort ⟨_, ho, rfl⟩ PySem.F.entry_list_sort
    (PySem.W.list_sort_vals (κ := PySem.W.dataKind (PySem.W.sortingHeap (b.heap.push (seqObj "list" (L1.map f).toArray 0)) b.heap.objs.size (L1.map f)) (L1.map enc)) ho
      (PySem.W.SortsAt.data (PySem.W.each_map (R := fun v d => ∃ as, Reads _ v d as) enc er) ok1.al ok1.so (PySem.W.bound_map fun x hx => ok1.dp x hx)) hz ⟨.none, rfl, ?_⟩) (PyProof.Rows.args_list_sort _)))
  have es := PySem.W.sortVals_data (R := fun v x => v = f x) false (each_of fun x _ => rfl) er ok1.al
  rw [each_map_of es]
  obtain ⟨c, hc⟩ := sortedHeap_at (vs := L1.map f) (out := ((srt enc L1).map f).toArray) ho
  refine wpAny_pure ⟨_, rfl, h _ _ c L1 (fun x o e => ?_) g o le p1 hc⟩
  have lt := Heap.lt_size (up x o e)
  exact (sortedHeap_old (Nat.ne_of_lt lt) (by rw [size_push']; exact Nat.lt_succ_of_lt lt)).trans (Heap.get?_push_of_some _ (up x o e))
end
/-! ### sets of nested tuples, as things of the heap -/
def NS (P : Program) (w : World) (h : Heap) (a : Addr) (L : NL) : Prop :=
  ∃ es ep t, (∃ o, h.get? a = some o ∧ o.ExactSet ∧ o.data = .set es ep t) ∧ es.toList = nkRows w L ∧ TabOk t (L.map fun p => nkH w p.2) ∧ (L.map (·.2)).Nodup ∧ (w.params.followText "set-order" = true ∨ t.led = true) ∧ L.length * 5 < t.mask * 3 ∧ L.length < 64
def NSO (P : Program) (w : World) (a : Addr) (L : NL) : HO := .ext fun h => NS P w h a L
section
variable {X : Cx} {β : Type}
theorem nsO_ok {P : Program} {w : World} {H : Hp} {h : Heap} {a : Addr} {L : NL} (R : NS P w h a L) : ObjOk P w H h a (NSO P w a L) := by
  refine ⟨R, let ⟨_, _, _, ⟨o, ho, _⟩, _⟩ := R; ⟨o, ho⟩, fun h1 h2 p k => ?_⟩
  obtain ⟨es, ep, t, ⟨o, ho, r⟩, q⟩ := p
  exact ⟨es, ep, t, ⟨o, k o ho, r⟩, q⟩
theorem ns_of {P : Program} {w : World} {h : Heap} {a : Addr} {L : NL} {es : Array (Int × Value)} {ep : Nat} {t : SetTable} (R : NSet P w h a L es ep t) : NS P w h a L := ⟨es, ep, t, R.ob, R.rows, R.tab, R.nd, R.led, R.room, R.few⟩
theorem refs_eq {ks : NL} {us : List Value} (r : Vals (ks.map fun p => V.ref p.1) us) : us = ks.map fun p => Value.ref p.1 := by
  have z : ∀ (ks : NL) (us : List Value), Vals (ks.map fun p => V.ref p.1) us → us = ks.map fun p => Value.ref p.1 := fun ks => by
    induction ks with
    | nil =>
      intro us r
      cases r
      rfl
    | cons p ks ih =>
      intro us r
      cases r with
      | cons h t =>
        cases h
        rw [List.map_cons, ih _ t]
  exact z ks us r
theorem refs_vals {α : Type} (g : α → Addr) : ∀ l : List α, Vals (l.map fun p => V.ref (g p)) (l.map fun p => Value.ref (g p))
  | [] => .nil
  | p :: l => .cons rfl (refs_vals g l)
/-- the pairs of an address and an item, as keys -/
def asN (f : β → NestedKey) (l : List (Addr × β)) : NL := l.map fun p => (p.1, f p.2)
theorem asN_in {f : β → NestedKey} {l : List (Addr × β)} {p : Addr × NestedKey} (h : p ∈ asN f l) : ∃ q ∈ l, p = (q.1, f q.2) := by
  obtain ⟨q, hq, rfl⟩ := List.mem_map.1 h
  exact ⟨q, hq, rfl⟩
theorem lift_in {α γ : Type} {g : α → γ} {l : List α} : ∀ {m : List γ}, (∀ x ∈ m, ∃ y ∈ l, x = g y) → ∃ k : List α, m = k.map g ∧ ∀ y ∈ k, y ∈ l
  | [], _ => ⟨[], rfl, fun y hy => by cases hy⟩
  | x :: m, h => by
    obtain ⟨y, hy, e⟩ := h x List.mem_cons_self
    obtain ⟨k, e1, h1⟩ := lift_in (m := m) fun z hz => h z (List.mem_cons_of_mem _ hz)
    refine ⟨y :: k, by rw [List.map_cons, e, e1], fun z hz => ?_⟩
    rcases List.mem_cons.1 hz with e | hz
    · rw [e]
      exact hy
    · exact h1 z hz
/-- items at addresses -/
def ItAt (K : PySem.W.Frag) (H : Hp) (f : β → NestedKey) (l : List (Addr × β)) : Prop := ∀ p ∈ l, Dp K H (.ref p.1) (pk (f p.2))
theorem ItAt.same {K : PySem.W.Frag} {H H' : Hp} {f : β → NestedKey} {l : List (Addr × β)} (h : ItAt K H f l) (s : Same H H') : ItAt K H' f l := fun p hp => dp_same s (h p hp)
theorem ItAt.dps {K : PySem.W.Frag} {H : Hp} {f : β → NestedKey} : ∀ {l : List (Addr × β)}, ItAt K H f l → DpAll K H (l.map fun p => V.ref p.1) (l.map fun p => pk (f p.2))
  | [], _ => .nil
  | p :: l, h => .cons (h p List.mem_cons_self) (ItAt.dps fun q hq => h q (List.mem_cons_of_mem _ hq))
/-- set(xs) -/
theorem cr_setN {f : β → NestedKey} (inj : ∀ x y, f x = f y → x = y) (dep : ∀ x, (f x).depth ≤ 8) (calm : X.calm = true) (hu : X.A.units + 64 < cLine) :
    CallR X (.type "set") fun xs H Q => ∃ (l : Addr) (ks : List (Addr × β)), xs = [V.ref l] ∧ SqL X.K H l (ks.map fun p => V.ref p.1) ∧ ItAt X.K H f ks ∧ ks.length < 64 ∧
      ∀ a L, H a = none → (∀ p ∈ L, p ∈ ks) → (∀ p ∈ ks, p.2 ∈ L.map (·.2)) → (L.map (·.2)).Nodup → Q (.ref a) (upd H a (NSO X.prog X.w a (asN f L))) := by
  intro pins s σ H xs us Q I r h
  obtain ⟨l, ks, rfl, hl, hk, few, q⟩ := h
  rw [Vals.ref1 r]
  obtain ⟨its, rv, pl, hz⟩ := I.list hl
  have e : its = (asN f ks).map fun p => Value.ref p.1 := refs_eq (by
    unfold asN
    rw [List.map_map]
    exact rv)
  refine nk_set (P := X.prog) (w := X.w) (asN f ks) (I.ok.hd calm) pl.isList (by simpa using e) (fun p hp => ?_) (by unfold asN; rw [List.length_map]; exact few) (by omega) fun h' tk L es ep t R g up => ?_
  · obtain ⟨z, hz, rfl⟩ := asN_in hp
    exact nkIs_of I (hk z hz) (dep _)
  · obtain ⟨LT, rfl, hin⟩ := lift_in (g := fun p : Addr × β => (p.1, f p.2)) (l := ks) (m := L) fun p hp => asN_in (List.mem_of_mem_take (g.sub p hp))
    refine ⟨.ref s.heap.objs.size, _, I.laid (t' := tk) up (Nat.le_refl _) (nsO_ok (ns_of R)), rfl, q _ LT (I.hok.fresh (Nat.le_refl _)) hin (fun p hp => ?_) ?_⟩
    · have z := g.all (p.1, f p.2) (by rw [List.take_length]; exact List.mem_map.2 ⟨p, hp, rfl⟩)
      obtain ⟨y, hy, ey⟩ := List.mem_map.1 z
      obtain ⟨u, hu', rfl⟩ := List.mem_map.1 hy
      exact List.mem_map.2 ⟨u, hu', inj _ _ ey⟩
    · have nd := R.nd
      rw [List.map_map] at nd
      have e : ((fun p : Addr × NestedKey => p.2) ∘ fun p : Addr × β => (p.1, f p.2)) = f ∘ fun p => p.2 := rfl
      rw [e, ← List.map_map] at nd
      exact List.Pairwise.of_map f (fun _ _ hne e => hne (congrArg f e)) nd
/-- sorted of such a set -/
theorem cr_sortedN {f : β → NestedKey} (calm : X.calm = true) :
    CallR X (.builtin "sorted") fun vs H Q => ∃ (a : Addr) (L : List (Addr × β)), vs = [V.ref a] ∧ H a = some (NSO X.prog X.w a (asN f L)) ∧ ItAt X.K H f L ∧ Srt X.A (fun p : Addr × β => pk (f p.2)) L ∧
      ∀ L1 p, L1.Perm L → H p = none → Q (.ref p) (upd H p (.lst ((srt (fun p : Addr × β => pk (f p.2)) L1).map fun p => V.ref p.1))) := by
  intro pins s σ H vs us Q I r h
  obtain ⟨a, L, rfl, ha, hk, ok, q⟩ := h
  rw [Vals.ref1 r]
  obtain ⟨es, ep, t, ⟨o, ho, he, hd⟩, rows, tab, nd, led, room, few⟩ := (I.hok a _ ha).1
  have hsz := nk_size rows
  have hfit : t.fits es.size = true := by
    have := tab.sz
    rw [List.length_map] at this
    exact nk_fits (by rw [hsz, this]) tab.dm (by rw [hsz]; omega)
  refine sorted_got (L := L) (f := fun p : Addr × β => Value.ref p.1) (enc := fun p : Addr × β => pk (f p.2)) (fun E' Q' hq => collect_set (A := X.A.in1) (I.ok.hd calm) ⟨o, ho, he.1, hd⟩ hfit (by rw [hsz]; unfold scanBound; omega) tab.ris led fun z out k1 k2 k3 k4 pm => hq z out k1 k2 k3 k4 (by
      rw [rows] at pm
      unfold nkRows asN at pm
      rw [List.map_map, List.map_map] at pm
      exact pm)) ok (fun b hb => Dp.reads I _ _ _ (hk b hb) rfl) fun z p c L1 up g o le p1 hp => ?_
  have hn : H p = none := I.hok.fresh le
  have hv : Vals ((srt (fun p : Addr × β => pk (f p.2)) L1).map fun p => V.ref p.1) ((srt (fun p : Addr × β => pk (f p.2)) L1).map fun p => Value.ref p.1) := refs_vals _ _
  have len : ((srt (fun p : Addr × β => pk (f p.2)) L1).map fun p => V.ref p.1).length ≤ sizeLine := by
    rw [List.length_map, (srt_perm_self _ L1).length_eq, p1.length_eq]
    exact ok.len
  have J : Inv X pins σ (upd H p (.lst ((srt (fun p : Addr × β => pk (f p.2)) L1).map fun p => V.ref p.1))) { s with heap := z.heap, gens := z.gens, drawn := z.drawn, toks := z.toks } :=
    I.call (ch := []) (Un.laid up le hn) (I.hok.laid up le ⟨len, _, c, hv, hp⟩) (by rw [g]; exact I.bare) (fun _ y => nomatch y)
  have ez : z = { s with heap := z.heap, gens := z.gens, drawn := z.drawn, toks := z.toks } := by
    cases z
    cases s
    cases o
    rfl
  rw [ez]
  exact ⟨.ref p, _, J, rfl, q L1 p p1 hn⟩
/-- sorted of a set of texts -/
theorem cr_sortedX (calm : X.calm = true) : CallR X (.builtin "sorted") fun vs H Q => ∃ (a : Addr) (ys : List Str), vs = [V.ref a] ∧ H a = some (SetSO X.w a ys) ∧ X.A.units + 64 < cLine ∧
    ∀ (zs : List Str) (p : Addr), zs.Nodup → (∀ y, y ∈ zs ↔ y ∈ ys) → H p = none → Q (.ref p) (upd H p (.lst (zs.map V.str))) := by
  intro pins s σ H vs us Q I r h
  obtain ⟨a, ys, rfl, ha, hu, q⟩ := h
  rw [Vals.ref1 r]
  obtain ⟨o, es, ep, t, ho, he, hd, ent, nd, mem, le, hb, hf, ris, led⟩ := (I.hok a _ ha).1
  have hb64 : es.toList.length < 4096 := by rw [Array.length_toList]; exact hb
  refine sorted_got (L := es.toList) (f := fun e => e.2) (enc := fun e => PyData.str (txtOf e)) (fun E' Q' hq => collect_set (A := X.A.in1) (I.ok.hd calm) ⟨o, ho, he.1, hd⟩ hf hb ris led hq) ?_ (fun b hbm => ?_) fun z p c L1 up g o le p1 hp => ?_
  · refine ⟨fun d hd e he => ?_, .inr fun d hd => ?_, fun b _ => ?_, by rw [sizeLine_eq]; omega⟩
    · obtain ⟨_, _, rfl⟩ := List.mem_map.1 hd
      obtain ⟨_, _, rfl⟩ := List.mem_map.1 he
      rfl
    · obtain ⟨_, _, rfl⟩ := List.mem_map.1 hd
      exact ⟨fun z => (by cases z), fun xs z => (by cases z)⟩
    · show X.A.units + 2 + PyData.depth (.str _) < cLine
      simp only [PyData.depth]
      omega
  · obtain ⟨x, t, h1, h2⟩ := ent b hbm
    unfold txtOf
    rw [h1]
    exact ⟨_, Reads.str x t⟩
  · have hn : H p = none := I.hok.fresh le
    have pm : (srt (fun e : Int × Value => PyData.str (txtOf e)) L1).Perm es.toList := (srt_perm_self _ L1).trans p1
    have ent' : ∀ e ∈ srt (fun e : Int × Value => PyData.str (txtOf e)) L1, EntS X.w e := fun e he => ent e (pm.mem_iff.1 he)
    have hv : ∀ l : List (Int × Value), (∀ e ∈ l, EntS X.w e) → Vals ((l.map txtOf).map V.str) (l.map fun e => e.2) := fun l => by
      induction l with
      | nil => intro _; exact .nil
      | cons e l ih =>
        intro h
        refine .cons ?_ (ih fun x hx => h x (List.mem_cons_of_mem _ hx))
        obtain ⟨x, t, h1, _⟩ := h e List.mem_cons_self
        have et : txtOf e = x := by
          unfold txtOf
          rw [h1]
        show RelV (.str (txtOf e)) e.2
        rw [et, h1]
        exact ⟨t, rfl⟩
    have len : (((srt (fun e : Int × Value => PyData.str (txtOf e)) L1).map txtOf).map V.str).length ≤ sizeLine := by
      have e1 := pm.length_eq
      have e2 := sizeLine_eq
      rw [List.length_map, List.length_map]
      omega
    have J : Inv X pins σ (upd H p (.lst (((srt (fun e : Int × Value => PyData.str (txtOf e)) L1).map txtOf).map V.str))) { s with heap := z.heap, gens := z.gens, drawn := z.drawn, toks := z.toks } :=
      I.call (ch := []) (Un.laid up le hn) (I.hok.laid up le ⟨len, _, c, hv _ ent', hp⟩) (by rw [g]; exact I.bare) (fun _ y => nomatch y)
    have ez : z = { s with heap := z.heap, gens := z.gens, drawn := z.drawn, toks := z.toks } := by
      cases z
      cases s
      cases o
      rfl
    rw [ez]
    refine ⟨.ref p, _, J, rfl, q _ p ((pm.map txtOf).nodup_iff.2 nd) (fun y => ?_) hn⟩
    rw [(pm.map txtOf).mem_iff]
    exact (mem y).symm
/-- sorted of a list of data -/
theorem cr_sortedV (enc : β → PyData) : CallR X (.builtin "sorted") fun vs H Q => ∃ (a : Addr) (xs : List V) (L : List β) (Hd : Hp), vs = [V.ref a] ∧ SqL X.K H a xs ∧ Same Hd H ∧ DpAll X.K Hd xs (L.map enc) ∧ Srt X.A enc L ∧
    ∀ ys p, DpAll X.K Hd ys ((srt enc L).map enc) → H p = none → Q (.ref p) (upd H p (.lst ys)) := by
  intro pins s σ H vs us Q I r h
  obtain ⟨a, xs, L, Hd, rfl, ha, sm, hx, ok, q⟩ := h
  rw [Vals.ref1 r]
  obtain ⟨its, rv, pl, hz⟩ := I.list ha
  have both : ∀ (L : List β) (xs : List V) (us : List Value), DpAll X.K Hd xs (L.map enc) → Vals xs us → PySem.W.EachIs (fun v b => ∃ x, RelV x v ∧ Dp X.K Hd x (enc b)) us L := fun L => by
    induction L with
    | nil =>
      intro xs us g r
      cases g
      cases r
      exact .nil
    | cons b L ih =>
      intro xs us g r
      cases g with
      | cons g1 g2 =>
        cases r with
        | cons r1 r2 => exact .cons ⟨_, r1, g1⟩ (ih _ _ g2 r2)
  have e := both L xs its hx rv
  have el : its.length = L.length := e.length
  refine PySem.W.sorted_data (R := fun v b => ∃ x, RelV x v ∧ Dp X.K Hd x (enc b)) (enc := enc) pl.isList e (e.mono fun v b ⟨x, r, d⟩ => Dp.reads I _ _ _ (dp_same sm d) r) ok.al ok.so ok.len (fun b hb => ok.dp b hb) fun out hlen eo => ?_
  have back : ∀ (M : List β) (us : List Value), PySem.W.EachIs (fun v b => ∃ x, RelV x v ∧ Dp X.K Hd x (enc b)) us M → ∃ ys, Vals ys us ∧ DpAll X.K Hd ys (M.map enc) := fun M => by
    induction M with
    | nil =>
      intro us e
      cases e
      exact ⟨[], .nil, .nil⟩
    | cons b M ih =>
      intro us e
      cases e with
      | cons h t =>
        obtain ⟨x, r, d⟩ := h
        obtain ⟨ys, v, g⟩ := ih _ t
        exact ⟨x :: ys, .cons r v, .cons d g⟩
  obtain ⟨ys, hv, hd⟩ := back _ _ eo
  obtain ⟨c, hc⟩ := sortedAll_at s.heap its (List.toArray out)
  have le : s.heap.objs.size ≤ s.heap.objs.size + 1 := Nat.le_succ _
  have hn : H (s.heap.objs.size + 1) = none := I.hok.fresh le
  refine ⟨.ref (s.heap.objs.size + 1), _, I.laid (o := .lst ys) (t' := s.toks) (fun b u hb => sortedAll_old hb) le ⟨?_, out, c, hv, hc⟩, rfl, q ys _ hd hn⟩
  rw [hv.length, hlen]
  exact ok.len
end
end Kt
/-! {key: True for ..}; {x for .. for ..} -/
namespace Kt
open PySem PySem.Spec PyProof.Rows L2
section
variable {P : Program} {w : World} {A : Around}
abbrev Nt (P : Program) (w : World) (A : Around) (env : Env) (R : Result → Shared → Prop) : Value → Shared → Prop := notedBy (model P w) A env fun e z => R (.error e) z
/-! ### dicts -/
def BD (P : Program) (w : World) (A : Around) (kx vx : Expr) : Env → Addr → (Result → Shared → Prop) → (Shared → Prop) → Shared → Prop := fun env D R G a =>
  wpAny (model P w) A (eval kx env) (fun kv b => wpAny (model P w) A (eval vx env) (fun vv c => wpAny (model P w) A (dictSet D kv vv) (fun _ d => G d) (Nt P w A env R) c) (Nt P w A env R) b) (Nt P w A env R) a
theorem loops_dict {kx vx tg iter : Expr} {ifs : List Expr} {scope : Scope} {pos : Pos} (it : Value) (D : Addr) (env : Env) (R : Result → Shared → Prop) (I : Nat → Shared → Prop) (T : Turns P w A tg ifs it env R I (BD P w A kx vx env D R)) (n : Nat) (s : Shared) (h : I n s) :
    codeAny (model P w) A (.compLoop (.DictComp kx vx [⟨tg, iter, ifs, 0⟩] scope pos) 0 it (.ref D) env) R s :=
  compLoop_anyD I T n h
/-! ### sets, two clauses -/
variable {elt t0 i0 t1 i1 : Expr} {ifs : List Expr} {scope : Scope} {pos : Pos}
abbrev SC2 (elt t0 i0 t1 i1 : Expr) (ifs : List Expr) (scope : Scope) (pos : Pos) : Expr := .SetComp elt [⟨t0, i0, ifs, 0⟩, ⟨t1, i1, [], 0⟩] scope pos
theorem turn_outer (it acc : Value) (env : Env) : compTurn (SC2 elt t0 i0 t1 i1 ifs scope pos) 0 it acc env = (do
    standAt i0.pos
    match ← pyNext it with
    | none => pure (.done .next)
    | some u =>
      letOwnedTupleGo t0 it u
      assign t0 env u
      let mut ok := true
      for c in ifs do
        if ok then ok ← isTrue c env (eval c env)
      if ok then
        let y ← eval i1 env
        standAt i1.pos
        let y ← foldedSetIterable i1 env y
        let _ ← runOwn (.compStart (SC2 elt t0 i0 t1 i1 ifs scope pos) 1 (← holding [y] (pyIter y)) acc env) env
      again (.compLoop (SC2 elt t0 i0 t1 i1 ifs scope pos) 0 it acc env)) := by rfl
theorem turn_inner (it acc : Value) (env : Env) : compTurn (SC2 elt t0 i0 t1 i1 ifs scope pos) 1 it acc env = (do
    standAt i1.pos
    match ← pyNext it with
    | none => pure (.done .next)
    | some u =>
      letOwnedTupleGo t1 it u
      assign t1 env u
      let mut ok := true
      for c in ([] : List Expr) do
        if ok then ok ← isTrue c env (eval c env)
      if ok then
        (do let u ← eval elt env; standAt elt.pos; let _ ← call (.builtin "set.add") [acc, u])
      again (.compLoop (SC2 elt t0 i0 t1 i1 ifs scope pos) 1 it acc env)) := by rfl
def B2 (P : Program) (w : World) (A : Around) (e i1 : Expr) : Env → Addr → (Result → Shared → Prop) → (Shared → Prop) → Shared → Prop := fun env D R G a =>
  wpAny (model P w) A (eval i1 env) (fun x b => wpAny (model P w) A (pyIter x) (fun j c => codeAny (model P w) A (.compStart e 1 j (.ref D) env) (fun r z => match r with | .ok _ => G z | .error _ => False) c) (Nt P w A env R) b) (Nt P w A env R) a
theorem loops_outer (fo : ∀ env x, foldedSetIterable i1 env x = pure x) (it : Value) (D : Addr) (env : Env) (R : Result → Shared → Prop) (I : Nat → Shared → Prop) (T : Turns P w A t0 ifs it env R I (B2 P w A (SC2 elt t0 i0 t1 i1 ifs scope pos) i1 env D R)) (n : Nat) (s : Shared) (h : I n s) :
    codeAny (model P w) A (.compLoop (SC2 elt t0 i0 t1 i1 ifs scope pos) 0 it (.ref D) env) R s := by
  refine codeAny_loop rfl I (fun n a hI => ?_) n h
  show wpAny _ A ((compTurn (SC2 elt t0 i0 t1 i1 ifs scope pos) 0 it (.ref D) env).onRaise (fun x => do noteFrame x env; theTreesLotGoes x)) _ _ a
  refine wpAny_noted ?_
  rw [turn_outer]
  refine wpAny_bind (wpAny_standAt (wpAny_bind (wpAny_mono (T n a hI) (fun r b k => ?_) fun _ _ k => k)))
  cases r with
  | none => exact wpAny_pure k
  | some u =>
    refine wpAny_bind (wpAny_mono k (fun _ b k => ?_) fun _ _ k => k)
    refine wpAny_bind (wpAny_mono k (fun _ b k => wpAny_bind (wpAny_mono k (fun ok b k => ?_) fun _ _ k => k)) fun _ _ k => k)
    cases ok with
    | false => exact wpAny_pure ⟨rfl, k⟩
    | true =>
      have k : B2 P w A (SC2 elt t0 i0 t1 i1 ifs scope pos) i1 env D R (fun z => ∃ m, m < n ∧ I m z) b := k
      unfold B2 at k
      refine wpAny_bind (wpAny_mono k (fun x c k => ?_) fun _ _ k => k)
      refine wpAny_bind (wpAny_standAt (wpAny_bind (wpAny_of_eq (fo env x) (wpAny_bind (wpAny_holding (wpAny_mono k (fun j d k => ?_) fun _ _ k => k))))))
      refine wpAny_bind (wpAny_runOwn ?_)
      rw [Around.mark_none]
      refine codeAny_mono k fun r z hr => ?_
      cases r with
      | error e => exact hr.elim
      | ok f =>
        first
          | exact wpAny_pure ⟨rfl, hr⟩
          | exact wpAny_bind (wpAny_pure (wpAny_pure ⟨rfl, hr⟩))
theorem loop_inner (it : Value) (D : Addr) (env : Env) (R : Result → Shared → Prop) (I : Nat → Shared → Prop)
    (T : ∀ n s, I n s → wpAny (model P w) A (pyNext it) (fun r a => match r with
      | none => R (.ok .next) a
      | some v => wpAny (model P w) A (letOwnedTupleGo t1 it v) (fun _ a => wpAny (model P w) A (assign t1 env v) (fun _ a => wpAny (model P w) A (eval elt env) (fun u a =>
          wpAny (model P w) A (call (.builtin "set.add") [.ref D, u]) (fun _ a => ∃ m, m < n ∧ I m a) (Nt P w A env R) a) (Nt P w A env R) a) (Nt P w A env R) a) (Nt P w A env R) a) (Nt P w A env R) s)
    (n : Nat) (s : Shared) (h : I n s) : codeAny (model P w) A (.compLoop (SC2 elt t0 i0 t1 i1 ifs scope pos) 1 it (.ref D) env) R s := by
  refine codeAny_loop rfl I (fun n a hI => ?_) n h
  show wpAny _ A ((compTurn (SC2 elt t0 i0 t1 i1 ifs scope pos) 1 it (.ref D) env).onRaise (fun x => do noteFrame x env; theTreesLotGoes x)) _ _ a
  refine wpAny_noted ?_
  rw [turn_inner]
  refine wpAny_bind (wpAny_standAt (wpAny_bind (wpAny_mono (T n a hI) (fun r b k => ?_) fun _ _ k => k)))
  cases r with
  | none => exact wpAny_pure k
  | some u =>
    refine wpAny_bind (wpAny_mono k (fun _ b k => ?_) fun _ _ k => k)
    refine wpAny_bind (wpAny_mono k (fun _ b k => wpAny_bind (wpAny_tests_nil ?_)) fun _ _ k => k)
    exact wpAny_bind (wpAny_bind (wpAny_mono k (fun x c k => wpAny_bind (wpAny_standAt (wpAny_bind (wpAny_mono k (fun _ d k => wpAny_pure (wpAny_pure ⟨rfl, k⟩)) fun _ _ k => k)))) fun _ _ k => k))
theorem start_inner {it acc : Value} {env : Env} {R : Result → Shared → Prop} {s : Shared} (h0 : codeAny (model P w) A (.compLoop (SC2 elt t0 i0 t1 i1 ifs scope pos) 1 it acc env) R s)
    (h : wpAny (model P w) A (pyIter it) (fun j z => codeAny (model P w) A (.compLoop (SC2 elt t0 i0 t1 i1 ifs scope pos) 1 j acc env) R z) (Nt P w A env R) s) :
    codeAny (model P w) A (.compStart (SC2 elt t0 i0 t1 i1 ifs scope pos) 1 it acc env) R s := by
  refine codeAny_of_tree ?_
  show wpAny _ _ ((compStart (SC2 elt t0 i0 t1 i1 ifs scope pos) 1 it acc env).onRaise (fun x => do noteFrame x env; standAt theWindowsPlace)) _ _ s
  refine wpAny_notedAt ?_
  unfold compStart
  show wpAny _ _ (ask >>= _) _ _ s
  refine wpAny_bind (wpAny_askSetting (wpAny_ite ?_))
  split
  · first
      | exact wpAny_pure ⟨rfl, h0⟩
      | exact wpAny_bind (wpAny_pure (wpAny_pure ⟨rfl, h0⟩))
  · refine wpAny_bind (wpAny_rule ?_)
    show wpAny _ _ (standAt i1.pos >>= _) _ _ s
    exact wpAny_bind (wpAny_standAt (wpAny_bind (wpAny_mono h (fun j z k => wpAny_pure ⟨rfl, k⟩) fun _ _ k => k)))
end
section
variable {X : Cx}
/-- {key: True for ..}, the body's reading -/
def tbN (P : Program) (w : World) (K : PySem.W.Frag) (tk tv : TE) : L2.St → Hp → Addr → (Hp → Prop) → Prop := fun σ H D Nx => tk σ H fun y H1 => tv σ H1 fun z H2 => ∃ b k L, y = .ref b ∧ z = .bl true ∧
  H2 D = some (DNO P w D L) ∧ L.length < sizeLine ∧ KeysAt K H2 L ∧ Dp K H2 (.ref b) (pk k) ∧ k.depth ≤ 8 ∧ Nx (upd H2 D (DNO P w D (putN L b k)))
theorem pe_dcN {kx vx tg iter : Expr} {ifs : List Expr} {scope : Scope} {own : List (Str × Nat)} {pos : Pos} {wi : TI} {g : TG} {tt : TT} {tk tv : TE} (calm : X.calm = true) (nd : X.N.Nodup) (hu : X.A.units + 64 < cLine) (pi : PI X tg iter wi) (ok : BlkOk X.N X.env.scope scope own)
    (pg : InBlk X scope fun Y => PG Y tg g) (pt : InBlk X scope fun Y => PTs Y ifs tt) (hk : InBlk X scope fun Y => PE Y kx tk) (hv : InBlk X scope fun Y => PE Y vx tv) (fo : ∀ x, foldedSetIterable iter X.env x = pure x := by intro _; rfl) :
    PE X (.DictComp kx vx [⟨tg, iter, ifs, 0⟩] scope pos) (tCc (fun D => DNO X.prog X.w D []) wi g tt (tbN X.prog X.w X.K tk tv) (own.map (·.2))) := by
  refine ⟨fun pins s σ H Q I h => ?_⟩
  rw [arm_eval_DictComp]
  refine comp_core (B := BD X.prog X.w X.A kx vx) (ob := { cls := .type "dict", data := .dict #[] }) rfl (fun Q E s q => wpAny_newObj_type q) (fun v z => by cases z) (fun H h ne => dnO_ok (dn_empty h ne)) (fun it D env R s h0 h1 => codeAny_compStart_dict h0 h1)
    (fun it D env R I T n s h => loops_dict it D env R I T n s h) calm nd pi ok pg pt (fun s0 H0 C cl fp pins s σ H D Nx R G I q fin => ?_) fo I h
  refine thnF ((hk s0 H0 C cl fp).run pins s σ H _ I q) fun kv b ⟨y, Hb, Ib, ry, q⟩ => thnF ((hv s0 H0 C cl fp).run pins b σ Hb _ Ib q) fun vv c ⟨z, Hc, Ic, rz, e, k, L, e1, e2, hD, room, ka, hb, dp, nx⟩ => ?_
  subst e1 e2
  cases ry
  cases rz
  refine wpAny_dictSet_heap (hsz := by rw [List.length_map]; omega) (show X.A.units + 8 < cLine by omega) (nkIs_of Ic hb dp) (dn_full (dn_at (X := X.blk s0 H0 scope (compEnvC scope cl C X.env) fp) Ic hD) (KeysAt.is (X := X.blk s0 H0 scope (compEnvC scope cl C X.env) fp) ka Ic)) fun h' dd hs => ?_
  exact fin σ _ _ (dn_write (X := X.blk s0 H0 scope (compEnvC scope cl C X.env) fp) Ic hD room dd hs) rfl (fun j v e => (wipe_some e).1) nx
/-- {x for .. for ..}, texts: the inner loop's reading -/
def tb2 (w : World) (wi1 : TI) (g1 : TG) (te : TE) (vs1 : List Nat) : L2.St → Hp → Addr → (Hp → Prop) → Prop := fun σ H D Nx => wi1 σ H fun J H1 => ∃ W : Nat → Nat → Hp → Prop, (∃ m, W 0 m H1) ∧ ∀ j k H, W j k H →
  (J.stop j H ∧ Nx H) ∨ (J.go j H ∧ ∃ Nx1 : Hp → Prop, (∀ H', Nx1 H' → ∃ k', k' < k ∧ W (j + 1) k' H') ∧ ∀ x H', J.yld j H x H' → g1 x (wipe σ vs1) H' fun σ3 H5 => wipe σ3 vs1 = wipe σ vs1 ∧
    te σ3 H5 fun y H7 => ∃ x ys, y = .str x ∧ H7 D = some (SetSO w D ys) ∧ ys.length + 1 < scanBound ∧ Nx1 (upd H7 D (SetSO w D (ys ++ [x]))))
theorem pe_sc2 {elt tg iter tg1 iter1 : Expr} {ifs : List Expr} {scope : Scope} {own : List (Str × Nat)} {vs1 : List Nat} {pos : Pos} {wi wi1 : TI} {g g1 : TG} {tt : TT} {te : TE} (calm : X.calm = true) (nd : X.N.Nodup) (pi : PI X tg iter wi) (ok : BlkOk X.N X.env.scope scope own) (hv : ∀ i ∈ vs1, i ∈ own.map (·.2))
    (pg : InBlk X scope fun Y => PG Y tg g) (pt : InBlk X scope fun Y => PTs Y ifs tt) (pi1 : InBlk X scope fun Y => PI Y tg1 iter1 wi1) (pg1 : InBlk X scope fun Y => PG Y tg1 g1) (he : InBlk X scope fun Y => PE Y elt te)
    (fo : ∀ x, foldedSetIterable iter X.env x = pure x := by intro _; rfl) (fo1 : ∀ env x, foldedSetIterable iter1 env x = pure x := by intro _ _; rfl) :
    PE X (.SetComp elt [⟨tg, iter, ifs, 0⟩, ⟨tg1, iter1, [], 0⟩] scope pos) (tCc (fun D => SetSO X.w D []) wi g tt (tb2 X.w wi1 g1 te vs1) (own.map (·.2))) := by
  refine ⟨fun pins s σ H Q I h => ?_⟩
  rw [PpSet.eval_SetComp]
  refine comp_core (B := B2 X.prog X.w X.A (SC2 elt tg iter tg1 iter1 ifs scope pos) iter1) (ob := freshSet X.w) rfl (fun Q E s q => ?_) (fun v z => by cases z) (fun H h ne => setSO_new (setS_fresh X.w)) (fun it D env R s h0 h1 => PpSet.codeAny_compStart_set h0 h1)
    (fun it D env R I T n s h => loops_outer fo1 it D env R I T n s h) calm nd pi ok pg pt (fun s0 H0 C cl fp pins s σ H D Nx R G I q fin => ?_) fo I h
  · exact PpSet.newSet_ok q
  refine thnF ((pi1 s0 H0 C cl fp).run pins s σ H _ I q) fun x b hb => thnF hb fun itr c hc => ?_
  obtain ⟨it, gp, tn, J, Hc, rfl, Ic, T, sc, fc, W, ⟨m, w0⟩, turn⟩ := hc
  have stand : ∀ {H' : Hp}, (∀ u ∈ gp, H' u = none) → ∀ u ∈ gp, FpOk (X.blk s0 H0 scope (compEnvC scope cl C X.env) fp) pins H' u := fun n u hu => ⟨n u hu, (fc u hu).2⟩
  have loop : codeAny (model X.prog X.w) X.A (.compLoop (SC2 elt tg iter tg1 iter1 ifs scope pos) 1 (.ref it) (.ref D) (compEnvC scope cl C X.env)) (fun r z => match r with | .ok _ => G z | .error _ => False) c := by
    refine loop_inner _ _ _ _ (fun k z => ∃ j H', Inv (X.blk s0 H0 scope (compEnvC scope cl C X.env) fp) pins (wipe σ vs1) H' z ∧ tn j z.heap ∧ (∀ u ∈ gp, H' u = none) ∧ W j k H') ?_ m c
      ⟨0, Hc, Ic.weak (wipe_length _ _) (fun j v e => (wipe_some e).1), sc, fun u hu => (fc u hu).1, w0⟩
    rintro k z ⟨j, Hz, Iz, sz, nz, wz⟩
    rcases turn j k Hz wz with ⟨stop, nx⟩ | ⟨go, Nx1, hNx, step⟩
    · refine thnF (T.done (X.blk s0 H0 scope (compEnvC scope cl C X.env) fp) rfl rfl rfl calm j _ z (wipe σ vs1) Hz (fun _ _ => False) Iz (stand nz) sz stop) fun r y ⟨hr, Iy⟩ => ?_
      subst hr
      refine fin (wipe σ vs1) Hz y Iy (wipe_length _ _) (fun i v e => ?_) nx
      obtain ⟨e1, e2⟩ := wipe_some e
      rw [wipe_out fun q => e2 (hv i q)]
      exact e1
    · refine thnF (T.item (X.blk s0 H0 scope (compEnvC scope cl C X.env) fp) rfl rfl rfl calm j _ z (wipe σ vs1) Hz (fun _ _ => False) Iz (stand nz) sz go) fun r y ⟨u, hr, hy⟩ => ?_
      subst hr
      refine thnF hy fun _ y ⟨x1, Hy, Iy, ry, yy, sy, ny⟩ => ?_
      have Jy := Iy.pinned (stand ny) (T.obj _ _ sy)
      refine thnF ((pg1 s0 H0 C cl fp).run _ y (wipe σ vs1) Hy x1 u _ Jy ry (step x1 Hy yy)) fun _ v ⟨σv, Hv, Iv, hw, qv⟩ => ?_
      refine thnF ((he s0 H0 C cl fp).run _ v σv Hv _ Iv qv) fun e k2 ⟨ye, He, Ie, re, xs, ys, e1, hD, room, nx⟩ => ?_
      subst e1
      obtain ⟨tk, rfl⟩ := re
      have R := (Ie.hok D _ hD).1
      refine setS_add R room fun h' sb R' => ?_
      have hx : ∃ o, h'.get? D = some o := by
        obtain ⟨o, _, _, _, ho, _⟩ := R'
        exact ⟨o, ho⟩
      have If : Inv (X.blk s0 H0 scope (compEnvC scope cl C X.env) fp) (pins ++ pinsAt gp y.heap) σv (upd He D (SetSO X.w D (ys ++ [xs]))) { k2 with heap := h', toks := k2.toks + 1 } :=
        Ie.write (x := D) (e := D) (by rw [hD]; exact True.intro) (.inl rfl) (fun c q hc z => (sb.2 c hc).trans z) hx (setSO_new R')
      obtain ⟨m', hm, w'⟩ := hNx _ nx
      have pin : ∀ u ∈ gp, ∀ o, y.heap.get? u = some o → h'.get? u = some o ∧ (upd He D (SetSO X.w D (ys ++ [xs]))) u = none := fun u hu o e =>
        have z := If.pin (u, o) (List.mem_append_right _ (List.mem_append_right _ (mem_pinsAt hu e)))
        ⟨z.1, z.2.1⟩
      refine ⟨m', hm, j + 1, _, If.unpinned.weak (by rw [← hw, wipe_length]) (fun i v e => ?_), T.keep _ _ _ sy fun u hu o e => (pin u hu o e).1, fun u hu => ?_, w'⟩
      · rw [← hw] at e
        exact (wipe_some e).1
      · obtain ⟨o, e, _⟩ := T.obj _ _ sy u hu
        exact (pin u hu o e).2
  exact start_inner loop (T.self X.A 0 _ _ _ sc loop)
end
end Kt
/-! sorted(.., key=..) -/
namespace Kt
open PySem PySem.Spec PyProof.Rows L2
theorem bt_len : bootBuiltins "len" = some (.builtin "len") := by decide +kernel
theorem bt_sorted : bootBuiltins "sorted" = some (.builtin "sorted") := by decide +kernel
theorem bt_max : bootBuiltins "max" = some (.builtin "max") := by decide +kernel
theorem bt_min : bootBuiltins "min" = some (.builtin "min") := by decide +kernel
theorem bt_abs : bootBuiltins "abs" = some (.builtin "abs") := by decide +kernel
theorem bt_isinstance : bootBuiltins "isinstance" = some (.builtin "isinstance") := by decide +kernel
theorem bt_all : bootBuiltins "all" = some (.builtin "all") := by decide +kernel
theorem bt_tuple : bootBuiltins "tuple" = some (.type "tuple") := by decide +kernel
theorem bt_list : bootBuiltins "list" = some (.type "list") := by decide +kernel
theorem bt_set : bootBuiltins "set" = some (.type "set") := by decide +kernel
theorem bt_dict : bootBuiltins "dict" = some (.type "dict") := by decide +kernel
theorem bt_zip : bootBuiltins "zip" = some (.type "zip") := by decide +kernel
theorem bt_enumerate : bootBuiltins "enumerate" = some (.type "enumerate") := by decide +kernel
theorem bt_range : bootBuiltins "range" = some (.type "range") := by decide +kernel
theorem bt_int : bootBuiltins "int" = some (.type "int") := by decide +kernel
theorem bt_str : bootBuiltins "str" = some (.type "str") := by decide +kernel
section
variable {P : Program} {w : World} {A : Around} {E : Value → Shared → Prop} {s : Shared} {β : Type}
/-- the items of a list or tuple, and where the heap ends then -/
theorem got_seq {Q : List Value → Shared → Prop} {T : String} {a : Addr} {o : Obj} {items : Array Value} {n : Nat} (hT : T = "list" ∨ T = "tuple") (ho : s.heap.get? a = some o) (hc : o.cls = .type T) (hd : o.data = .seq items n) (hz : items.size ≤ sizeLine)
    (h : ∀ g : Heap, (∀ b o, s.heap.get? b = some o → g.get? b = some o) → s.heap.objs.size ≤ g.objs.size → Q items.toList { s with heap := g }) : wpAny (model P w) A (collect (.ref a)) Q E s := by
  unfold collect
  refine wpAny_bind (wpAny_runValue (codeAny_builtin PySem.F.entry_proto_collect ?_))
  rw [Around.under_plainId PySem.F.plain_proto_collect _]
  show wpAny _ A.in1 (newList [] >>= fun l => again (.builtin "list.__iadd__" ⟨[l, .ref a], []⟩)) _ _ s
  refine wpAny_bind (wpAny_newObj_type ?_ (by show 0 ≤ sizeLine; exact Nat.zero_le _))
  refine wpAny_pure ⟨plainId_quiet PySem.F.plain_list_iadd _, codeAny_builtin PySem.F.entry_list_iadd ?_⟩
  rw [Around.under_plainId PySem.F.plain_list_iadd _]
  show wpAny _ A.in1 (Builtin.List.listExtendWith (.ref s.heap.objs.size) (.ref a) (.ref s.heap.objs.size)) _ _ _
  let h1 : Heap := s.heap.push { cls := .type "list", data := .seq ([] : List Value).toArray }
  have e1 : h1.get? s.heap.objs.size = some { cls := .type "list", data := .seq #[] 0 } := Heap.get?_push_size _ rfl
  let h2 : Heap := h1.update s.heap.objs.size (Obj.mapSeq (· ++ items))
  have e2 := Heap.get?_update_self (Obj.mapSeq (· ++ items)) e1 rfl
  have last : wpAny (model P w) A (match Value.ref s.heap.objs.size with
      | Value.ref a => do
        match (← load a).data with
          | Data.seq xs _ => pure xs.toList
          | _ => unsupported "internal:collect"
      | _ => unsupported "internal:collect") Q E { s with heap := h2 } := by
    show wpAny _ A (load s.heap.objs.size >>= _) _ _ _
    refine wpAny_bind (wpAny_load e2 (wpAny_pure ?_))
    have ei : ((#[] : Array Value) ++ items).toList = items.toList := by simp
    show Q ((#[] : Array Value) ++ items).toList _
    rw [ei]
    refine h h2 (fun b o q => ?_) ?_
    · exact (Heap.get?_update_other _ _ (Nat.ne_of_gt (Heap.lt_size q))).trans (Heap.get?_push_of_some _ q)
    · show s.heap.objs.size ≤ (h1.update _ _).objs.size
      rw [Heap.size_update]
      show s.heap.objs.size ≤ (s.heap.push _).objs.size
      rw [Heap.size_push]
      exact Nat.le_succ _
  refine wpAny_mono (wpAny_extend_seq (hsz := hz) (A := A) (s := { s with heap := h1 }) (R := fun r z => r = .ok (.ret (.ref s.heap.objs.size)) ∧ z = { s with heap := h2 }) _ a _ 0 hT e1 (Heap.get?_push_of_some _ ho) hc hd ⟨rfl, rfl⟩) (fun fin z q => ?_) (fun x z q => ?_)
  · cases fin with
    | again c =>
      refine ⟨q.1, codeAny_mono q.2 fun r z q => ?_⟩
      obtain ⟨rfl, rfl⟩ := q
      exact last
    | done f =>
      obtain ⟨e, rfl⟩ := q
      cases e
      exact last
  · cases q.1
/-- sorted of a list or tuple, with a key -/
theorem sorted_keyed {T : String} {a : Addr} {o : Obj} {items : Array Value} {n : Nat} {f : Value} {bs : List β} {R : Value → β → Prop} (k : β → PyData) {Q : Value → Shared → Prop} (hT : T = "list" ∨ T = "tuple") (ho : s.heap.get? a = some o) (hc : o.cls = .type T) (hd : o.data = .seq items n)
    (e : PySem.W.EachIs R items.toList bs) (ok : Srt A k bs) (ht : ∀ x, Builtin.«list.sort» ⟨[.ref x], [(Str.ofString "key", f)]⟩ = ksk_tree x f false)
    (turn : ∀ (v : Value) (x : β), R v x → x ∈ bs → ∀ (h : Heap) (tk : Nat), (∀ b o, s.heap.get? b = some o → h.get? b = some o) →
      wpAny (model P w) A.in1.in1 (call f [v]) (PySem.W.KeyPure (k x) { s with heap := h, toks := tk }) (fun _ _ => False) { s with heap := h, toks := tk })
    (h : ∀ out c h' tk p, (∀ b o, s.heap.get? b = some o → h'.get? b = some o) → s.heap.objs.size ≤ p → h'.get? p = some (seqObj "list" (List.toArray out) c) → PySem.W.EachIs R out (srt k bs) → Q (.ref p) { s with heap := h', toks := tk }) :
    wpAny (model P w) A (call (.builtin "sorted") [.ref a] [(Str.ofString "key", f)]) Q E s := by
  have hz : items.toList.length ≤ sizeLine := by rw [e.length]; exact ok.len
  refine call_function_entry_kw kind_sorted plain_sorted entry_sorted (ksk_s1 _ _) ?_
  unfold Builtin.«sorted»
  refine wpAny_bind (m := checkCount "sorted" 1 1 _) (wpAny_pure ?_)
  refine wpAny_bind (got_seq (A := A.in1) hT ho hc hd (by rw [← Array.length_toList]; exact hz) fun g up le => ?_)
  refine wpAny_bind (wpAny_newList ?_ hz)
  have hn : (g.push (seqObj "list" items.toList.toArray 0)).get? g.objs.size = some (seqObj "list" items.toList.toArray 0) := Heap.get?_push_size _ rfl
  have keep : ∀ {h : Heap}, PySem.W.KeepsBut g.objs.size (g.push (seqObj "list" items.toList.toArray 0)) h → ∀ b o, s.heap.get? b = some o → h.get? b = some o := fun {h} kp b o q =>
    kp b o (Nat.ne_of_lt (Heap.lt_size (up b o q))) (Heap.get?_push_of_some _ (up b o q))
  refine wpAny_bind (wpAny_holding (PySem.W.list_sort_key_data (s := { s with heap := g.push (seqObj "list" items.toList.toArray 0) }) (A := A.in1) (vs := items.toList) (R := R) (b := false) k hn e ok.al ok.so ok.len (fun x hx => ok.dp x hx) (ksk_l1 _ _) (ht _) (fun v x hR hx h tk kp => turn v x hR hx h tk (keep kp)) fun out c h' tk kp hp hl eo => ?_))
  exact wpAny_pure ⟨_, rfl, h out c h' tk _ (keep kp) le hp eo⟩
end
/-! ### the key: len -/
theorem reads_strs {h : Heap} : ∀ {t : List Str} {us : List Value}, Vals (t.map V.str) us → ReadsAll h us (t.map .str) []
  | [], _, .nil => .nil
  | x :: t, _, .cons r g => by
    obtain ⟨tk, rfl⟩ := r
    exact ReadsAll.cons (as := []) (bs := []) (Reads.str x tk) (reads_strs g)
theorem reads_tm {h : Heap} {a : Addr} {t : List Str} {its : List Value} (p : IsTup h a its.toArray) (r : Vals (t.map V.str) its) : Reads h (.ref a) (tm t) [] := by
  obtain ⟨o, ho, hc, n, hd⟩ := p
  exact Reads.tuple ho hc hd (by simpa using reads_strs r)
theorem tup_keep {h h' : Heap} {a : Addr} {its : Array Value} (k : ∀ b o, h.get? b = some o → h'.get? b = some o) (p : IsTup h a its) : IsTup h' a its := by
  obtain ⟨o, ho, r⟩ := p
  exact ⟨o, k _ _ ho, r⟩
section
variable {X : Cx}
/-- each value of a list with what it stands for -/
theorem each_dps {α : Type} {H : Hp} {enc : α → PyData} : ∀ {L : List α} {xs : List V} {us : List Value}, DpAll X.K H xs (L.map enc) → Vals xs us → PySem.W.EachIs (fun v b => ∃ x, RelV x v ∧ Dp X.K H x (enc b)) us L
  | [], _, _, .nil, .nil => .nil
  | _ :: _, _, _, .cons g1 g2, .cons r1 r2 => .cons ⟨_, r1, g1⟩ (each_dps g2 r2)
theorem dps_each {α : Type} {H : Hp} {enc : α → PyData} : ∀ {L : List α} {us : List Value}, PySem.W.EachIs (fun v b => ∃ x, RelV x v ∧ Dp X.K H x (enc b)) us L → ∃ ys, Vals ys us ∧ DpAll X.K H ys (L.map enc)
  | _, _, .nil => ⟨[], .nil, .nil⟩
  | _, _, .cons ⟨x, r, d⟩ t =>
    let ⟨ys, v, g⟩ := dps_each t
    ⟨x :: ys, .cons r v, .cons d g⟩
theorem EachIs_vals {α : Type} {R : Value → α → Prop} {L M : List α} {us : List Value} (e : PySem.W.EachIs R us L) (p : L.length = M.length) : us.length = M.length := e.length.trans p
def lenD (t : List Str) : PyData := .int ((t.length : Nat) : Int)
/-- sorted(ts, key=len), ts a tuple of terms -/
def tSLen (K : PySem.W.Frag) (A : Around) (te : TA) : TE := fun σ H Q => te σ H fun vs H1 => ∃ (a : Addr) (xs : List V) (ts : List (List Str)) (Hd : Hp), vs = [.ref a] ∧ SqT K H1 a xs ∧ Same Hd H1 ∧ DpAll K Hd xs (ts.map tm) ∧ ts.length ≤ 1000 ∧ A.units + 64 < cLine ∧
  ∀ ys p, DpAll K Hd ys ((srt lenD ts).map tm) → H1 p = none → Q (.ref p) (upd H1 p (.lst ys))
theorem pe_sortedLen {e : Expr} {te : TA} {p lp kp pos : Pos} (hg : Gl X "sorted") (hm : X.mg "sorted" = none) (hgl : Gl X "len") (hml : X.mg "len" = none) (ha : PA X [e] te)
    (hs : starEach [e] X.env = [(false, eval e X.env)] := by rfl) :
    PE X (.Call (.Name "sorted" p) [e] [⟨some "key", .Name "len" lp, kp⟩] pos) (tSLen X.K X.A te) := by
  refine ⟨fun pins s σ H Q I h => ?_⟩
  refine wpAny_Call_Name_kw (ld_blt I hg hm bt_sorted ?_)
  refine PyProof.Rows.callWith_kw (thn (ha.run pos pins s σ H _ I h) fun us b ⟨vs, Hb, Ib, rb, a, xs, ts, Hd, e1, hq, sm, hx, few, room, q⟩ => ?_) (by rw [hs]; rfl) (by rw [hs]; rfl) rfl rfl
  show wpAny _ _ (evalAll [(do let v ← eval (.Name "len" lp) X.env; standAt pos; pure v)]) _ _ b
  refine wpAny_evalAll_cons (wpAny_bind (ld_blt Ib hgl hml bt_len (wpAny_bind (wpAny_standAt (wpAny_pure (wpAny_evalAll_nil ?_))))))
  subst e1
  rw [Vals.ref1 rb]
  show wpAny _ _ (call (.builtin "sorted") [.ref a] [(Str.ofString "key", .builtin "len")]) _ _ b
  obtain ⟨its, rv, ⟨o, ho, hc, n, hd⟩, hz⟩ := Ib.tuple hq
  have e := each_dps hx rv
  refine sorted_keyed (β := List Str) lenD (.inr rfl) ho hc hd (R := fun v t => ∃ x, RelV x v ∧ Dp X.K Hd x (tm t)) (by simpa using e) ⟨fun d hd' d' hd'' => ?_, .inr fun d hd' => ?_, fun t _ => ?_, by rw [sizeLine_eq]; omega⟩ (fun x => ksk_t4 _ _) (fun v t ⟨x, r, dx⟩ _ h tk up => ?_) fun out c h' tk p up le hp eo => ?_
  · obtain ⟨_, _, rfl⟩ := List.mem_map.1 hd'
    obtain ⟨_, _, rfl⟩ := List.mem_map.1 hd''
    rfl
  · obtain ⟨_, _, rfl⟩ := List.mem_map.1 hd'
    exact ⟨fun z => (by cases z), fun xs z => (by cases z)⟩
  · show X.A.units + 2 + PyData.depth (.int _) < cLine
    simp only [PyData.depth]
    omega
  · obtain ⟨t', rfl, ht⟩ := dp_tm dx
    cases r
    obtain ⟨us', rv', pl, hz'⟩ := Ib.tuple (same_tup sm ht)
    have hl := rv'.length
    rw [List.length_map] at hl
    have hz2 := line63
    rw [List.length_map] at hz'
    refine len_tuple (tup_keep up pl) (by rw [List.size_toArray]; omega) ⟨h, _, rfl, fun _ _ q => q, ?_⟩
    show Reads h (.int (us'.toArray.size : Nat) _) (.int ((t.length : Nat) : Int)) []
    rw [List.size_toArray, ← hl]
    exact Reads.int _ _
  · obtain ⟨ys, hv, hd'⟩ := dps_each eo
    have hn : Hb p = none := Ib.hok.fresh le
    refine ⟨.ref p, _, Ib.laid (o := .lst ys) (t' := tk) up le ⟨?_, out, c, hv, hp⟩, rfl, q ys p hd' hn⟩
    have h1 := dps_len hd'
    have h2 := (srt_perm_self lenD ts).length_eq
    rw [List.length_map] at h1
    rw [sizeLine_eq]
    omega
end
end Kt
/-! sorted(pairs, key=lambda pair: (len(pair[0]) + len(pair[1]), pair[0], pair[1])) -/
namespace Kt
open PySem PySem.Spec PyProof.Rows L2
def lamArgs (ap : Pos) : Arguments := { posonlyargs := [], args := [{ arg := "pair", annotation := none, pos := ap }], vararg := none, kwonlyargs := [], kw_defaults := [], kwarg := none, defaults := [] }
def lamScope : Scope := { kind := .function, names := [("pair", .local), ("len", .globalImplicit)], isGenerator := false, isCoroutine := false, more := [] }
/-- pair[i] -/
abbrev lamSub (i : Int) (a b c : Pos) : Expr := .Subscript (.Name "pair" a) (.Constant (.int i) 0 b) c
abbrev lamLen (i : Int) (l a b c d : Pos) : Expr := .Call (.Name "len" l) [lamSub i a b c] [] d
section
variable {P : Program} {w : World} {A : Around} {s : Shared} {f b : Addr} {q : Str} {pm ctv : Value} {c' : Addr} {mg mb : Str → Option Value} {x y : Addr} {xs ys : Array Value}
variable {ap l1 a1 b1 d1 e1 l2 a2 b2 d2 e2 pa a3 b3 d3 a4 b4 d4 pt : Pos}
abbrev lamBody (l1 a1 b1 d1 e1 l2 a2 b2 d2 e2 pa a3 b3 d3 a4 b4 d4 pt : Pos) : Expr := .Tuple [.BinOp (lamLen 0 l1 a1 b1 d1 e1) .Add (lamLen 1 l2 a2 b2 d2 e2) pa, lamSub 0 a3 b3 d3, lamSub 1 a4 b4 d4] 0 pt
/-- the lambda called: all that was stays -/
theorem lam_run (hf : s.heap.get? f = some (PySem.W.kla_obj "<lambda>" q (lamArgs ap) (lamBody l1 a1 b1 d1 e1 l2 a2 b2 d2 e2 pa a3 b3 d3 a4 b4 d4 pt) lamScope [] pm c' ctv)) (hc : s.heap.CodeRec (.ref c') q) (g : s.heap.Ns mainGlobals mg) (nl : mg "len" = none) (bt : s.heap.Ns builtinsNs mb)
    (bl : mb "len" = some (.builtin "len")) (lim : s.heap.NoLimit) (room : A.depth < recursionLimit) (p : IsTup s.heap b #[.ref x, .ref y]) (px : IsTup s.heap x xs) (py : IsTup s.heap y ys) (zx : (xs.size : Int) < 2 ^ 60) (zy : (ys.size : Int) < 2 ^ 60) :
    wpAny (model P w) A (call (.ref f) [.ref b]) (fun v z => ∃ h tk t c, z = { s with heap := h, toks := tk } ∧ (∀ b o, s.heap.get? b = some o → h.get? b = some o) ∧ v = .ref t ∧ IsTup h t #[.int ((xs.size : Int) + ys.size) c, .ref x, .ref y]) (fun _ _ => False) s := by
  refine wpAny_call (codeAny_mono (R := fun r z => match r with
    | .ok (.ret v) => ∃ h tk t c, z = { s with heap := h, toks := tk } ∧ (∀ b o, s.heap.get? b = some o → h.get? b = some o) ∧ v = .ref t ∧ IsTup h t #[.int ((xs.size : Int) + ys.size) c, .ref x, .ref y]
    | _ => False) ?_ fun r z hr => ?_)
  · refine PySem.W.kla_callFunE room hf rfl rfl rfl rfl hc ?_
    refine wpAny_of_eq (a := [(("pair" : Str), Value.ref b)]) (by rfl) ?_
    refine wpAny_newFunctionEnv (fun z hz => ?_) (fun z hz => ?_) (fun h₁ hns hsb => ⟨lim.fresh _ hsb, ?_⟩) rfl
    · rcases List.mem_cons.1 hz with e | hz
      · rw [e]
        intro z
        cases z
      · rw [List.mem_singleton.1 hz]
        intro z
        cases z
    · rw [List.mem_singleton.1 hz]
      rfl
    have up : ∀ b o, s.heap.get? b = some o → h₁.get? b = some o := fun b o e => hsb.extBut b o (Nat.ne_of_lt (Heap.lt_size e)) (Heap.get?_push_of_some _ e)
    refine PySem.W.kla_codeExpr ?_
    generalize hE : (fun (e' : Value) (s' : Shared) => wpAny (model P w) (A.deeper _) (leaving _ e') _ _ s') = E
    clear hE
    generalize hen : (newEnv _ _ _ _ _ _ _ _ _ : Env) = en
    have k1 : en.scope.kind = .function := by rw [← hen]; rfl
    have k2 : en.kindOf "pair" = some .local := by rw [← hen]; rfl
    have k3 : en.kindOf "len" = some .globalImplicit := by rw [← hen]; rfl
    have k4 : en.locals = s.heap.objs.size := by rw [← hen]; rfl
    have k5 : en.globals = mainGlobals := by rw [← hen]; rfl
    have k6 : en.builtins = builtinsNs := by rw [← hen]; rfl
    clear hen
    have g' : h₁.Ns en.globals mg := by rw [k5]; exact g.keeps up
    have bt' : h₁.Ns en.builtins mb := by rw [k6]; exact bt.keeps up
    have ns' : h₁.Ns en.locals (fun z => [(("pair" : Str), Value.ref b)].reverse.lookup z) := by rw [k4]; exact hns
    have nm : ∀ (A : Around) (tk : Nat) (r : Pos) (Q : Value → Shared → Prop) (E : Value → Shared → Prop), Q (.ref b) { s with heap := h₁, toks := tk } → wpAny (model P w) A (eval (.Name "pair" r) en) Q E { s with heap := h₁, toks := tk } :=
      fun A tk r Q E q => wpAny_Name (wpAny_loadName_local k1 k2 ns' rfl q) (by decide)
    have p' := tup_keep up p
    have sub : ∀ (A : Around) (i : Nat) (u : Addr) (tk : Nat) (r1 r2 r3 : Pos) (Q : Value → Shared → Prop) (E : Value → Shared → Prop), (#[Value.ref x, .ref y])[i]? = some (.ref u) → i < 2 → Q (.ref u) { s with heap := h₁, toks := tk + 1 } →
        wpAny (model P w) A (eval (lamSub (i : Int) r1 r2 r3) en) Q E { s with heap := h₁, toks := tk } := fun A i u tk r1 r2 r3 Q E hu hi q => by
      refine Subscript_ (nm A tk r1 _ E (wpAny_Constant_int ?_))
      refine subscriptTail_builtinR (x := .ref u) p'.typeIs slot_tuple_getitem.lookup (getItem_tuple (j := i) (Q := fun r z => r = .ref u ∧ Q r z) p' (by omega) (by omega) ?_ hu ⟨rfl, q⟩)
      match i, hi with
      | 0, _ => rfl
      | 1, _ => rfl
    have ln : ∀ (A : Around) (i : Nat) (u : Addr) (us : Array Value) (tk : Nat) (r0 r1 r2 r3 r4 : Pos) (Q : Value → Shared → Prop) (E : Value → Shared → Prop), (#[Value.ref x, .ref y])[i]? = some (.ref u) → i < 2 → IsTup s.heap u us → (us.size : Int) < 2 ^ 60 →
        Q (.int us.size (tk + 2)) { s with heap := h₁, toks := tk + 3 } → wpAny (model P w) A (eval (lamLen (i : Int) r0 r1 r2 r3 r4) en) Q E { s with heap := h₁, toks := tk } := fun A i u us tk r0 r1 r2 r3 r4 Q E hu hi pu zu q => by
      refine wpAny_Call_Name_kw (Calls.Name_function_global k1 k3 (Calls.loadGlobal_builtin g' nl bt' bl ?_) (by decide))
      refine PyProof.Rows.callWith_builtin1 (e := lamSub (i : Int) r1 r2 r3) (rest := []) ?_ rfl rfl
      show wpAny _ _ (spliced ((false, eval (lamSub (i : Int) r1 r2 r3) en) :: backTo r4 (starEach [] en))) _ _ _
      refine Calls.spliced_cons (sub A i u tk r1 r2 r3 _ E hu hi ?_)
      exact Calls.spliced_nil (len_tuple (tup_keep up pu) (by omega) q)
    refine wpAny_Tuple_spliced ?_
    show wpAny _ _ (spliced ((false, eval (.BinOp (lamLen 0 l1 a1 b1 d1 e1) .Add (lamLen 1 l2 a2 b2 d2 e2) pa) en) :: (false, eval (lamSub 0 a3 b3 d3) en) :: (false, eval (lamSub 1 a4 b4 d4) en) :: backTo pt (starEach [] en))) _ _ _
    refine Calls.spliced_cons (wpAny_BinOp (ln _ 0 x xs _ l1 a1 b1 d1 e1 _ _ rfl (by omega) px zx (ln _ 1 y ys _ l2 a2 b2 d2 e2 _ _ rfl (by omega) py zy (add_int ?_))))
    refine Calls.spliced_cons (sub _ 0 x _ a3 b3 d3 _ _ rfl (by omega) ?_)
    refine Calls.spliced_cons (sub _ 1 y _ a4 b4 d4 _ _ rfl (by omega) ?_)
    refine Calls.spliced_nil ⟨by show 3 ≤ sizeLine; decide, ?_⟩
    exact ⟨_, _, _, _, rfl, fun c o e => Heap.get?_push_of_some _ (up c o e), rfl, ⟨_, Heap.get?_push_size _ rfl, rfl, _, rfl⟩⟩
  · cases r with
    | error e => exact hr.elim
    | ok fl =>
      cases fl with
      | ret v => exact hr
      | _ => exact hr.elim
end
section
variable {X : Cx}
def SmallPr (q : Pr) : Prop := q.1.length ≤ 1000 ∧ q.2.length ≤ 1000
/-- sorted(pairs, key=the lambda): the pairs in the order of shadows -/
def tSLam (T : List (Addr × Str)) (K : PySem.W.Frag) (te : TA) : TE := fun σ H Q => te σ H fun vs H1 => LamX.Tabs T H1 ∧ ∀ H2, LamX.ExtN H1 H2 → LamX.Tabs T H2 → ∃ (a : Addr) (xs : List V) (ps : List Pr) (Hd : Hp), vs = [.ref a] ∧ SqL K H2 a xs ∧ Same Hd H2 ∧ DpAll K Hd xs (ps.map prD) ∧
  (∀ q ∈ ps, SmallPr q) ∧ ps.length ≤ 1000 ∧ ∀ ys p, DpAll K Hd ys ((srt trD ps).map prD) → H2 p = none → Q (.ref p) (upd H2 p (.lst ys))
theorem depth_strs : ∀ t : List Str, PyData.depthAll (t.map PyData.str) = 0
  | [] => by simp [PyData.depthAll]
  | x :: t => by
    rw [List.map_cons]
    simp only [PyData.depthAll, PyData.depth, depth_strs t]
    rfl
theorem depth_tm (t : List Str) : (tm t).depth = 1 := by
  unfold tm
  simp only [PyData.depth, depth_strs]
theorem depth_tr (q : Pr) : (trD q).depth ≤ 2 := by
  unfold trD
  simp only [PyData.depth, PyData.depthAll, depth_tm]
  omega
theorem depth_pr (q : Pr) : (prD q).depth ≤ 2 := by
  unfold prD
  simp only [PyData.depth, PyData.depthAll, depth_tm]
  omega
theorem alike_strs : ∀ a b : List Str, PySem.W.alikeAll (a.map PyData.str) (b.map PyData.str) = true
  | [], [] => by simp [PySem.W.alikeAll]
  | [], _ :: _ => by simp [PySem.W.alikeAll]
  | _ :: _, [] => by simp [PySem.W.alikeAll]
  | x :: a, y :: b => by simp [PySem.W.alikeAll, PySem.W.alike, alike_strs a b]
theorem alike_tm (a b : List Str) : PySem.W.alike (tm a) (tm b) = true := by
  unfold tm
  simp only [PySem.W.alike]
  exact alike_strs a b
theorem alike_tr (a b : Pr) : PySem.W.alike (trD a) (trD b) = true := by
  unfold trD
  simp only [PySem.W.alike, PySem.W.alikeAll, alike_tm]
  rfl
theorem srt_tr {A : Around} (hu : A.units + 64 < cLine) (ps : List Pr) (h : ps.length ≤ 1000) : Srt A trD ps := by
  refine ⟨fun d hd e he => ?_, .inl fun d hd => ?_, fun q _ => ?_, by rw [sizeLine_eq]; omega⟩
  · obtain ⟨_, _, rfl⟩ := List.mem_map.1 hd
    obtain ⟨_, _, rfl⟩ := List.mem_map.1 he
    exact alike_tr _ _
  · obtain ⟨q, _, rfl⟩ := List.mem_map.1 hd
    exact ⟨_, _, rfl⟩
  · have := depth_tr q
    omega
theorem pe_sortedLam {T : List (Addr × Str)} {c P : Addr} {e : Expr} {te : TA} {p kp pos lpos ap l1 a1 b1 d1 e1 l2 a2 b2 d2 e2 pa a3 b3 d3 a4 b4 d4 pt : Pos} {k : Nat} (hg : Gl X "sorted") (hm : X.mg "sorted" = none) (hml : X.mg "len" = none) (ha : PA X [e] te) (hr : Room k X.A)
    (TB : LamX.TabB X.base X.mg c P) (hcode : X.env.code = .ref c) (hmT : (P, X.env.qual ++ "<lambda>") ∈ T) (hu : ∀ p ∈ T, p.1 = P → p.2 = X.env.qual ++ "<lambda>") (hs : starEach [e] X.env = [(false, eval e X.env)] := by rfl) :
    PE X (.Call (.Name "sorted" p) [e] [⟨some "key", .Lambda (lamArgs ap) (lamBody l1 a1 b1 d1 e1 l2 a2 b2 d2 e2 pa a3 b3 d3 a4 b4 d4 pt) lamScope lpos, kp⟩] pos) (tSLam T X.K te) := by
  refine ⟨fun pins s σ H Q I h => ?_⟩
  refine wpAny_Call_Name_kw (ld_blt I hg hm bt_sorted ?_)
  refine PyProof.Rows.callWith_kw (thn (ha.run pos pins s σ H _ I h) fun us b ⟨vs, Hb, Ib, rb, hT, q⟩ => ?_) (by rw [hs]; rfl) (by rw [hs]; rfl) rfl rfl
  show wpAny _ _ (evalAll [(do let v ← eval (.Lambda (lamArgs ap) (lamBody l1 a1 b1 d1 e1 l2 a2 b2 d2 e2 pa a3 b3 d3 a4 b4 d4 pt) lamScope lpos) X.env; standAt pos; pure v)]) _ _ b
  refine wpAny_evalAll_cons (wpAny_bind (LamX.lam_make2 Ib TB hcode hmT hu hT rfl (fun y hy e => ?_) fun f c' pm ctv H2 z Iz ex hT2 hf hfn hfr hco => wpAny_bind (wpAny_standAt (wpAny_pure (wpAny_evalAll_nil ?_)))))
  · rcases List.mem_cons.1 hy with z | hy
    · rw [z] at e
      cases e
    · rw [List.mem_singleton.1 hy] at e
      cases e
  obtain ⟨a, xs, ps, Hd, rfl, hq, sm, hx, small, few, q⟩ := q H2 ex hT2
  rw [Vals.ref1 rb]
  show wpAny _ _ (call (.builtin "sorted") [.ref a] [(Str.ofString "key", .ref f)]) _ _ z
  obtain ⟨its, rv, ⟨o, n, ho, hc, _, hd⟩, hz⟩ := Iz.list hq
  have e := each_dps hx rv
  obtain ⟨⟨oc, cvs, ct, g1, g2, g3⟩, _⟩ := Iz.hok c' _ hco
  obtain ⟨mb, bt, hb⟩ := Iz.mod.blt
  have hroom := hr.units
  have hdep := hr.depth
  refine sorted_keyed (β := Pr) trD (.inl rfl) ho hc hd (R := fun v t => ∃ x, RelV x v ∧ Dp X.K Hd x (prD t)) (by simpa using e) (srt_tr hroom ps few) (fun x => ksk_t1 _ _) (fun v t ⟨x, r, dx'⟩ ht h tk up => ?_) fun out c h' tk p up le hp eo => ?_
  · have dx := dp_same sm dx'
    obtain ⟨b', u1, u2, rfl, hp, h1, h2⟩ := dp_pr dx
    obtain ⟨n1, rfl, hn1⟩ := dp_tm h1
    obtain ⟨n2, rfl, hn2⟩ := dp_tm h2
    cases r
    obtain ⟨its0, rv0, pl0, _⟩ := Iz.tuple hp
    obtain ⟨its1, rv1, pl1, hz1⟩ := Iz.tuple hn1
    obtain ⟨its2, rv2, pl2, hz2⟩ := Iz.tuple hn2
    have e0 : its0 = [.ref n1, .ref n2] := by
      cases rv0 with
      | cons r0 t0 =>
        cases r0
        cases t0 with
        | cons r0 t0 =>
          cases r0
          cases t0
          rfl
    subst e0
    have l1' := rv1.length
    have l2' := rv2.length
    rw [List.length_map] at l1' l2' hz1 hz2
    have sl := sizeLine_eq
    have run := lam_run (P := X.prog) (w := X.w) (A := X.A.in1.in1) (s := { z with heap := h, toks := tk }) (b := b') (mg := X.mg) (mb := mb) (up _ _ hf) ⟨c', oc, cvs, ct, rfl, up _ _ g1, g2, g3⟩ ((Iz.mod.glob.keeps Iz.bk).keeps up) hml ((bt.keeps Iz.bk).keeps up)
      ((hb "len" (by decide)).trans bt_len) (Iz.nolimit.keeps up) hdep (tup_keep up pl0) (tup_keep up pl1) (tup_keep up pl2) (by rw [List.size_toArray]; omega) (by rw [List.size_toArray]; omega)
    refine wpAny_mono run (fun v z' hv => ?_) fun _ _ z => z
    obtain ⟨h3, tk3, t3, ck, rfl, up3, rfl, p3⟩ := hv
    refine ⟨h3, tk3, rfl, up3, ?_⟩
    obtain ⟨o3, ho3, hc3, n3, hd3⟩ := p3
    have ei : (((its1.toArray.size : Nat) : Int) + (its2.toArray.size : Nat)) = ((t.1.length + t.2.length : Nat) : Int) := by
      rw [List.size_toArray, List.size_toArray, ← l1', ← l2']
      omega
    rw [ei] at hd3
    have up4 : ∀ b o, z.heap.get? b = some o → h3.get? b = some o := fun b o e => up3 b o (up b o e)
    refine Reads.tuple ho3 hc3 hd3 ?_
    exact ReadsAll.cons (as := []) (bs := []) (Reads.int _ _) (ReadsAll.cons (as := []) (bs := []) (reads_tm (tup_keep up4 pl1) rv1) (ReadsAll.cons (as := []) (bs := []) (reads_tm (tup_keep up4 pl2) rv2) .nil))
  · obtain ⟨ys, hv, hd'⟩ := dps_each eo
    have hn : H2 p = none := Iz.hok.fresh le
    refine ⟨.ref p, _, Iz.laid (o := .lst ys) (t' := tk) up le ⟨?_, out, c, hv, hp⟩, rfl, q ys p hd' hn⟩
    have h1 := dps_len hd'
    have h2 := (srt_perm_self trD ps).length_eq
    rw [List.length_map] at h1
    rw [sizeLine_eq]
    omega
end
end Kt
/-! comprehensions over data, in a heap that only grows; new tuples and lists as data; big division; powers -/
namespace Kt
open PySem PySem.Spec PyProof.Rows L2
def Ne (cs : List Addr) (H : Hp) : Prop := ∀ c ∈ cs, ∃ o, H c = some o ∧ noTb o = true
section
variable {cs : List Addr} {H H' H1 : Hp} {p D : Addr} {K : PySem.W.Frag} {xs : List V} {ds : List PyData} {o : HO}
theorem Ne.nil (H : Hp) : Ne [] H := fun c hc => by cases hc
theorem Ne.same (n : Ne cs H) (s : Same H H') : Ne cs H' := fun c hc =>
  let ⟨o, h1, h2⟩ := n c hc
  ⟨o, s _ _ h1, h2⟩
theorem Ne.ext (n : Ne cs H) (s : LamX.ExtN H H') : Ne cs H' := fun c hc => by
  obtain ⟨o, h1, h2⟩ := n c hc
  refine ⟨o, s _ _ h1 fun ps z => ?_, h2⟩
  rw [z] at h2
  cases h2
theorem Ne.cons (n : Ne cs H) (h : H D = some o) (t : noTb o = true := by rfl) : Ne (D :: cs) H := fun c hc => by
  rcases List.mem_cons.1 hc with e | hc
  · rw [e]
    exact ⟨o, h, t⟩
  · exact n c hc
theorem Ne.not (n : Ne cs H) (h : H p = none) : p ∉ cs := fun z => by
  obtain ⟨o, h1, _⟩ := n p z
  rw [h] at h1
  cases h1
theorem dl_at (h : H p = some o) (n : p ∉ cs) (t : noTb o = true) : dl cs H p = some o := dl_some.2 ⟨n, h, t⟩
/-- a new tuple -/
theorem dp_tupN (n : Ne cs H) (h : H p = none) (g : DpAll K (dl cs H) xs ds) : Dp K (dl cs (upd H p (.tup xs))) (.ref p) (.tuple ds) :=
  .tup (.inl (.inl (dl_at upd_same (n.not h) rfl))) (dps_same (dl_up h) g)
theorem dp_lstN (n : Ne cs H) (h : H p = none) (g : DpAll K (dl cs H) xs ds) : Dp K (dl cs (upd H p (.lst xs))) (.ref p) (.list ds) :=
  .lst (.inl (.inl (dl_at upd_same (n.not h) rfl))) (dps_same (dl_up h) g)
theorem dp_le {v : V} {d : PyData} (g : Dp K (dl cs H) v d) : Dp K H v d := dp_same (dl_le cs H) g
theorem dps_le (g : DpAll K (dl cs H) xs ds) : DpAll K H xs ds := dps_same (dl_le cs H) g
/-- what stood ahead of D, once D is left out -/
theorem dl_out (s : Same H1 H) (nD : H1 D = none) : Same (dl cs H1) (dl (D :: cs) H) := (dl_new nD).trans (dl_same s)
theorem dl_less : Same (dl (D :: cs) H) (dl cs H) := dl_mono fun a ha => List.mem_cons_of_mem _ ha
end
/-! ### a comprehension's list -/
/-- after i turns: all that was stands, the list at D holds the data out i -/
def PvC (cs : List Addr) (K : PySem.W.Frag) (H1 : Hp) (D : Addr) (out : Nat → List PyData) (i : Nat) (H : Hp) : Prop := Same H1 H ∧ ∃ acc, H D = some (.lst acc) ∧ DpAll K (dl (D :: cs) H) acc (out i)
section
variable {cs : List Addr} {K : PySem.W.Frag} {H1 H H4 : Hp} {D : Addr} {out : Nat → List PyData} {i : Nat} {y : V} {d : PyData}
theorem pv0 (nD : H1 D = none) (h : out 0 = []) : PvC cs K H1 D out 0 (upd H1 D (.lst [])) := ⟨up_same nD, [], upd_same, by rw [h]; exact .nil⟩
theorem PvC.ne (p : PvC cs K H1 D out i H) (nc : Ne cs H1) : Ne (D :: cs) H := let ⟨s, _, e, _⟩ := p; (nc.same s).cons e
theorem PvC.put (p : PvC cs K H1 D out i H) (nD : H1 D = none) (s : Same H H4) (dy : Dp K (dl (D :: cs) H4) y d) (e : out (i + 1) = out i ++ [d]) (z : (out i).length < sizeLine) :
    ∃ acc, H4 D = some (.lst acc) ∧ acc.length < sizeLine ∧ PvC cs K H1 D out (i + 1) (upd H4 D (.lst (acc ++ [y]))) := by
  obtain ⟨s1, acc, eD, da⟩ := p
  refine ⟨acc, s _ _ eD, by rw [dps_len da]; exact z, fun b x hb => ?_, acc ++ [y], upd_same, ?_⟩
  · rw [upd_ne (fun z => by rw [z, nD] at hb; cases hb)]
    exact s _ _ (s1 b x hb)
  · rw [dl_in List.mem_cons_self, e]
    exact dps_snoc (dps_same (dl_same s) da) dy
theorem PvC.skip (p : PvC cs K H1 D out i H) (s : Same H H4) (e : out (i + 1) = out i) : PvC cs K H1 D out (i + 1) H4 := by
  obtain ⟨s1, acc, eD, da⟩ := p
  exact ⟨s1.trans s, acc, s _ _ eD, by rw [e]; exact dps_same (dl_same s) da⟩
theorem PvC.seq {a : Addr} {xs : List V} (p : PvC cs K H1 D out i H) (h : SqL K H1 a xs) : SqL K H a xs := p.1.seq h
theorem PvC.tup {a : Addr} {xs : List V} (p : PvC cs K H1 D out i H) (h : SqT K H1 a xs) : SqT K H a xs := same_tup p.1 h
end
/-- the mapped data of the first i -/
theorem take_map_succ {α β : Type} {l : List α} {f : α → β} {i : Nat} {x : α} (h : l[i]? = some x) : (l.take (i + 1)).map f = (l.take i).map f ++ [f x] := by
  rw [List.take_add_one, h, List.map_append]
  rfl
theorem take_filter_yes {α β : Type} {l : List α} {f : α → β} {p : α → Bool} {i : Nat} {x : α} (h : l[i]? = some x) (hp : p x = true) : ((l.take (i + 1)).filter p).map f = ((l.take i).filter p).map f ++ [f x] := by
  rw [List.take_add_one, h, List.filter_append, List.map_append]
  simp [hp]
theorem take_filter_no {α β : Type} {l : List α} {f : α → β} {p : α → Bool} {i : Nat} {x : α} (h : l[i]? = some x) (hp : p x = false) : ((l.take (i + 1)).filter p).map f = ((l.take i).filter p).map f := by
  rw [List.take_add_one, h, List.filter_append, List.map_append]
  simp [hp]
theorem map_at {α : Type} {enc : α → PyData} {l : List α} {i : Nat} {d : PyData} (h : (l.map enc)[i]? = some d) : ∃ x, l[i]? = some x ∧ d = enc x := by
  rw [List.getElem?_map] at h
  obtain ⟨x, e, r⟩ := Option.map_eq_some_iff.1 h
  exact ⟨x, e, r.symm⟩
/-- an item of a list of data -/
theorem dps_map_at {α : Type} {K : PySem.W.Frag} {H : Hp} {enc : α → PyData} {l : List α} {vs : List V} {i : Nat} {v : V} (g : DpAll K H vs (l.map enc)) (h : vs[i]? = some v) : ∃ x, l[i]? = some x ∧ Dp K H v (enc x) := by
  obtain ⟨d, e, dv⟩ := dps_get g h
  obtain ⟨x, e1, rfl⟩ := map_at e
  exact ⟨x, e1, dv⟩
theorem dps_bls {K : PySem.W.Frag} {H : Hp} : ∀ {bs : List Bool} {vs : List V}, DpAll K H vs (bs.map PyData.bool) → vs = bs.map V.bl
  | [], _, .nil => rfl
  | b :: bs, _, .cons h g => by
    cases h
    rw [dps_bls g]
    rfl
/-! ### arithmetic -/
section
variable {X : Cx}
def CPowX (i j : Int) : Prop := 0 ≤ j ∧ ((Builtin.Int.intBits i : Nat) : Int) * j ≤ 134217728
theorem op_powX : OpR X (binaryOp .Pow) (rI CPowX fun i j => .int (i ^ j.toNat)) := by
  refine opI fun i j _ _ _ _ _ hc q => ?_
  have e : bitsLine = 134217728 := by decide
  exact pow_int hc.1 (by
    have h := hc.2
    first
      | omega
      | (rw [e]; exact h)
      | exact_mod_cast h) q
/-- the frames under which a division may go by _pylong -/
structure Pyl (X : Cx) : Prop where
  seer : X.base.NoSeer
  tree : X.prog.given.tree = none
  fr : ∃ env l, X.stack = env :: l ∧ env.scope.isGenerator = false ∧ env.scope.isCoroutine = false ∧ env.builtins = builtinsNs ∧ env.globals = mainGlobals
  dp : X.A.depth + Builtin.pylongFrames < recursionLimit
theorem op_fdivX (py : Pyl X) : OpR X (binaryOp .FloorDiv) (rI (fun _ j => 0 < j) fun i j => .int (i / j)) := by
  intro pins s σ H x y v u Q I rx ry h
  obtain ⟨i, j, rfl, rfl, hc, q⟩ := h
  obtain ⟨t, rfl⟩ := rx
  obtain ⟨t', rfl⟩ := ry
  obtain ⟨env, l, hst, h1, h2, h3, h4⟩ := py.fr
  refine floordiv_int (by omega) ?_ (.inr (PySem.PylongRoom.of I.nolimit py.dp (PySem.SeerAt.of (py.seer.keeps I.bk) py.tree (I.ok.frames.trans (by rw [hst])) h1 h2 h3 h4)))
  rw [Int.fdiv_eq_ediv_of_nonneg i (by omega)]
  exact ⟨.int (i / j), H, I.tok _, ⟨_, rfl⟩, q⟩
end
end Kt
/-! is_run, is_name -/
namespace Kt
open PySem PySem.Spec PyProof.Rows L2
def cLet : Str := "abcdefghijklmnopqrstuvwxyz"
def cDig : Str := "0123456789"
def cRes : List Str := ["else", "fun", "if", "in", "stop", "text", "try", "with"]
/-- what the program calls a name, enough of it -/
structure OkN (x : Str) : Prop where
  len : 1 ≤ x.length ∧ x.length ≤ 8
  sg : ∀ c ∈ x.cps.toList, c ∈ cLet.cps.toList
  res : x ∉ cRes
  ok : PyData.strOk x = true
theorem scRun : FnScope ["value", "sign"] ["value"] (defScope (topS 11)) := ⟨rfl, rfl, rfl, by decide +kernel, rfl, by decide +kernel, by decide +kernel⟩
theorem scName : FnScope ["value"] ["value"] (defScope (topS 12)) := ⟨rfl, rfl, rfl, by decide +kernel, rfl, by decide +kernel, by decide +kernel⟩
/-- the module's names that the walk leans on -/
structure Mg (K : PySem.W.Frag) (mg : Str → Option Value) : Prop where
  len : mg "len" = none
  tuple : mg "tuple" = none
  list : mg "list" = none
  set : mg "set" = none
  dict : mg "dict" = none
  zip : mg "zip" = none
  enumerate : mg "enumerate" = none
  range : mg "range" = none
  max : mg "max" = none
  min : mg "min" = none
  abs : mg "abs" = none
  int : mg "int" = none
  str : mg "str" = none
  isi : mg "isinstance" = none
  all : mg "all" = none
  sorted : mg "sorted" = none
  lets : ∃ t, mg "LETTERS" = some (.str cLet t)
  digs : ∃ t, mg "DIGITS" = some (.str cDig t)
  most : ∃ t, mg "MOST_NAME" = some (.int 8 t)
  mnames : ∃ t, mg "MAX_NAMES" = some (.int 9 t)
  mterms : ∃ t, mg "MAX_TERMS" = some (.int 200 t)
  factor : ∃ t, mg "FACTOR" = some (.str "factor" t)
  number : ∃ t, mg "NUMBER" = some (.str "number" t)
  res : ∃ a, mg "RESERVED" = some (.ref a) ∧ ∀ H, SqT K H a (cRes.map V.str)
section
variable {P : Program} {w : World} {K : PySem.W.Frag} {mg : Str → Option Value} {base : Heap}
def spRun : Sp := fun vs H Q _ => ∃ x, vs = [.str x] ∧ OkN x ∧ ∀ H', Same H H' → Q (.bl true) H'
theorem ok_run {f : Addr} {fd : FuncData} {k : Nat} (F : Fun K "is_run" "is_run" (topS 11) f fd) (M : Mg K mg) : FnOk P w K mg base CX0 (k + 1) f fd ["value"] spRun := by
  refine F.ok scRun (fun vs H Q E h => ?_) (fun cdv A outer s H vs Q E hr h => ?_)
  · obtain ⟨x, rfl, _⟩ := h
    rfl
  · obtain ⟨x, rfl, ok, q⟩ := h
    obtain ⟨tl, el⟩ := M.lets
    obtain ⟨td, ed⟩ := M.digs
    obtain ⟨tm, em⟩ := M.most
    refine ⟨_, pss_cons (ps_if (PW.pt (pw_or (pt_not (pt_val (pe_callB call_isi (by rfl) M.isi bt_isinstance (pa_cons (pv 0) (pa_cons (pe_bltn (v := .ty "str") (by rfl) M.str bt_str rfl) pa_nil)))))
          (pw_or1 (pt_not (pt_chain op_le op_le pe_int (pe_callB call_len_str (by rfl) M.len bt_len (pa_cons (pv 0) pa_nil)) (pe_glob (v := .int 8) (by rfl) em ⟨_, rfl⟩)))))) (pss_one (ps_ret pe_bl)) pss_nil)
      (pss_one (ps_ret (pe_callB (cr_all rfl) (by rfl) M.all bt_all (pa_cons (pe_lc (own := [("sign", 1)]) rfl scRun.nd (pi_str (pv 0)) (blkOk_by (by kernel_rfl)) (fun s H C cl fp => pg_name (i := 1) scRun.nd rfl (.inl rfl)) (fun s H C cl fp => pts_nil)
        (fun s H C cl fp => pe_or (pe_cmpR op_in_sign (pv 1) (pe_glob (v := .str cLet) (by rfl) el ⟨_, rfl⟩) (by rfl)) (pe_one (pe_cmpR op_in_sign (pv 1) (pe_glob (v := .str cDig) (by rfl) ed ⟨_, rfl⟩) (by rfl))))) pa_nil)))), ?_⟩
    -- isinstance(value, str)
    refine ⟨.str x, rfl, .str x, .ty "str", .type "str", .type "str", true, rfl, .ty _, .base (.str x), kit_ty (by decide +kernel), true, rfl, ?_⟩
    -- 1 <= len(value) <= MOST_NAME
    refine ⟨.str x, rfl, x, rfl, Nat.le_of_lt (small1000 (by have := ok.len; omega)), 1, x.length, rfl, rfl, _, rfl, ite2 (fun _ => ?_) (fun z => absurd (decide_eq_true (by have := ok.len; omega)) z)⟩
    refine ⟨x.length, 8, rfl, rfl, _, rfl, iteNS (by have := ok.len; omega) ?_⟩
    refine ⟨.str x, rfl, x, rfl, fun D nD => ?_⟩
    -- all of the signs
    refine lc_it walk_str (PvC [] K H D fun i => List.replicate i (.bool true)) (pv0 nD rfl) (fun _ _ _ _ => trivial) (fun i v H2 H2' hi p y => ?_) fun H2 p => ?_
    · obtain ⟨rfl, c, hc, rfl⟩ := y
      have hin : c ∈ cLet.cps.toList := ok.sg c (Array.mem_toList_iff.2 (Array.mem_of_getElem? hc))
      refine ⟨rfl, _, rfl, c, cLet, rfl, rfl, _, rfl, ite2 (fun _ => ?_) (fun z => absurd (decide_eq_true hin) z)⟩
      exact p.put nD (Same.refl _) (.bl true) (List.replicate_succ' ..) (by rw [List.length_replicate]; exact small1000 (by have h1 := ok.len; have h2 : x.cps.size = x.length := rfl; omega))
    · obtain ⟨s2, acc, e, g⟩ := p
      have ea : acc = (List.replicate x.cps.size true).map V.bl := dps_bls (by rw [List.map_replicate]; exact g)
      refine ⟨D, _, rfl, .inl (.inl (by rw [e, ea])), ?_⟩
      rw [show (List.replicate x.cps.size true).all id = true by simp]
      exact q H2 s2
theorem inV_str (x : Str) : ∀ l : List Str, inV (.str x) (l.map V.str) = decide (x ∈ l)
  | [] => rfl
  | y :: l => by
    have ih := inV_str x l
    unfold inV at ih ⊢
    rw [List.map_cons, List.any_cons, ih]
    show ((y == x) || _) = _
    by_cases e : x = y
    · rw [e]
      simp
    · rw [show (y == x) = false from beq_eq_false_iff_ne.2 fun z => e z.symm]
      simp [e]
theorem flat_strs (l : List Str) : (l.map V.str).all flatV = true := by
  rw [List.all_map]
  exact List.all_eq_true.2 fun x _ => rfl
def spName : Sp := spRun
theorem ok_name {f fR : Addr} {fd fdR : FuncData} {k : Nat} (F : Fun K "is_name" "is_name" (topS 12) f fd) (M : Mg K mg) (FR : Fun K "is_run" "is_run" (topS 11) fR fdR) (bR : Binds K fdR ["value"] []) (gR : mg "is_run" = some (.ref fR)) :
    FnOk P w K mg base CX0 (k + 2) f fd ["value"] spName := by
  have GR : FnOk P w K mg base CX0 (k + 1) fR fdR ["value"] spRun := ok_run FR M
  refine F.ok scName (fun vs H Q E h => ?_) (fun cdv A outer s H vs Q E hr h => ?_)
  · obtain ⟨x, rfl, _⟩ := h
    rfl
  · obtain ⟨x, rfl, ok, q⟩ := h
    obtain ⟨tl, el⟩ := M.lets
    obtain ⟨ar, er, hT⟩ := M.res
    refine ⟨_, pss_one (ps_ret (pe_and (pe_call GR hr (by rfl) gR FR.kp bR .nil pass0 (pa_cons (pv 0) pa_nil)) (pe_and (pe_cmpR op_in_sign (pe_ix ix_str (pv 0) pe_int (fun _ _ => rfl)) (pe_glob (v := .str cLet) (by rfl) el ⟨_, rfl⟩) (by rfl))
      (pe_one (pe_cmpR op_notIn_seq (pv 0) (pe_glob (v := .ref ar) (by rfl) er rfl) (by rfl)))))), ?_⟩
    refine ⟨.str x, rfl, x, rfl, ok, fun H1 s1 => ⟨true, rfl, ?_⟩⟩
    obtain ⟨c, hc⟩ : ∃ c, x.cps.toList[0]? = some c := by
      have h1 := ok.len.1
      have h2 : x.cps.toList.length = x.length := by simp [Str.length]
      exact ⟨x.cps.toList[0]'(by omega), List.getElem?_eq_getElem _⟩
    have hin : c ∈ cLet.cps.toList := ok.sg c (List.mem_of_getElem? hc)
    refine ⟨.str x, rfl, x, 0, c, rfl, rfl, Nat.le_of_lt (small1000 (by have := ok.len; omega)), atI_nat (j := 0) hc, c, cLet, rfl, rfl, _, rfl, ite2 (fun _ => ?_) (fun z => absurd (decide_eq_true hin) z)⟩
    refine ⟨.str x, rfl, ar, cRes.map V.str, rfl, .inr (hT _), rfl, flat_strs _, ?_⟩
    rw [inV_str, decide_eq_false ok.res]
    exact q H1 s1
end
end Kt
/-! is_row_of_names, is_term, are_terms, names_of -/
namespace Kt
open PySem PySem.Spec PyProof.Rows L2
theorem bT {c : Prop} [Decidable c] {Q : VK} {H : Hp} (h : c) (q : Q (.bl true) H) : Q (.bl (decide c)) H := by
  rw [decide_eq_true h]
  exact q
theorem bF {c : Prop} [Decidable c] {Q : VK} {H : Hp} (h : ¬ c) (q : Q (.bl false) H) : Q (.bl (decide c)) H := by
  rw [decide_eq_false h]
  exact q
theorem take_not {α : Type} {l : List α} {i : Nat} {x : α} (nd : l.Nodup) (h : l[i]? = some x) : x ∉ l.take i := fun z => by
  obtain ⟨j, hj, ej⟩ := List.mem_iff_getElem.1 z
  rw [List.length_take] at hj
  rw [List.getElem_take] at ej
  obtain ⟨hi, ei⟩ := List.getElem?_eq_some_iff.1 h
  exact List.pairwise_iff_getElem.1 nd j i (by omega) hi (by omega) (ej.trans ei.symm)
def ltS (a b : Str) : Prop := a.cps.toList < b.cps.toList
structure OkT (t : List Str) : Prop where
  nm : ∀ x ∈ t, OkN x
  up : t.Pairwise ltS
  len : t.length ≤ 9
theorem cutFrom1 (xs : List V) : cutV xs (some 1) none = xs.drop 1 := by
  unfold cutV
  rw [show HT.sIx xs.length 0 (some 1) = min 1 xs.length from HT.sIx_nat xs.length 0 1, HT.sIx_none]
  cases xs with
  | nil => rfl
  | cons x r =>
    have e : min 1 (x :: r).length = 1 := by
      rw [List.length_cons]
      omega
    rw [e]
    show List.take ((x :: r).length - 1) r = r
    rw [List.length_cons, Nat.add_sub_cancel]
    exact List.take_length
theorem tyx_tup {K : PySem.W.Frag} {H : Hp} {a : Addr} {xs : List V} (h : SqT K H a xs) : TyX K H (.ref a) (.type "tuple") := by
  rcases h with (h | ⟨o, h⟩) | ⟨o, its, n, h, hc, _⟩
  · first
      | exact .base (.tup h)
      | exact .base (TyOf.tup h)
  · exact .fTuple h
  · exact .kTuple h hc
theorem walk_zipT {K : PySem.W.Frag} {a b : Addr} {xs ys : List V} {n : Nat} (hn : n = min xs.length ys.length) : Walk (RZ.ItzT K a b) n (fun H => SqT K H a xs ∧ SqT K H b ys) (YPair (fun i => xs[i]?) (fun i => ys[i]?)) := by
  subst hn
  refine ⟨fun i _ hi q => ⟨xs, ys, _, _, q.1, q.2, List.getElem?_eq_getElem (show i < xs.length by omega), List.getElem?_eq_getElem (show i < ys.length by omega)⟩, fun _ q => ⟨xs, ys, q.1, q.2, by omega⟩, fun i H v H' _ q y => ?_⟩
  obtain ⟨T, x, y', h1, h2, h3, h4, h5⟩ := y
  exact ⟨T, x, y', h1, h2, h3, h4 xs q.1, h5 ys q.2⟩
theorem scRow : FnScope ["value", "name", "one", "other"] ["value"] (defScope (topS 16)) := ⟨rfl, rfl, rfl, by decide +kernel, rfl, by decide +kernel, by decide +kernel⟩
theorem scTerm : FnScope ["value"] ["value"] (defScope (topS 17)) := ⟨rfl, rfl, rfl, by decide +kernel, rfl, by decide +kernel, by decide +kernel⟩
theorem scTerms : FnScope ["value", "term"] ["value"] (defScope (topS 18)) := ⟨rfl, rfl, rfl, by decide +kernel, rfl, by decide +kernel, by decide +kernel⟩
theorem scNames : FnScope ["terms", "term", "name"] ["terms"] (defScope (topS 19)) := ⟨rfl, rfl, rfl, by decide +kernel, rfl, by decide +kernel, by decide +kernel⟩
section
variable {P : Program} {w : World} {K : PySem.W.Frag} {mg : Str → Option Value} {base : Heap}
def spRow (K : PySem.W.Frag) : Sp := fun vs H Q _ => ∃ v t, vs = [v] ∧ Dp K (dl [] H) v (tm t) ∧ OkT t ∧ ∀ H', Same H H' → Q (.bl true) H'
/-- all are true -/
theorem all_true {H H2 : Hp} {D : Addr} {n : Nat} (p : PvC [] K H D (fun i => List.replicate i (PyData.bool true)) n H2) : SqL K H2 D ((List.replicate n true).map V.bl) := by
  obtain ⟨s2, acc, e, g⟩ := p
  have ea : acc = (List.replicate n true).map V.bl := dps_bls (by rw [List.map_replicate]; exact g)
  exact .inl (.inl (by rw [e, ea]))
theorem all_rep (n : Nat) : (List.replicate n true).all id = true := by simp
theorem ok_row {f fN : Addr} {fd fdN : FuncData} {k : Nat} (F : Fun K "is_row_of_names" "is_row_of_names" (topS 16) f fd) (M : Mg K mg) (GN : FnOk P w K mg base CX0 k fN fdN ["value"] spName) (kN : PySem.W.keepIn K (.ref fN) = true) (bN : Binds K fdN ["value"] []) (gN : mg "is_name" = some (.ref fN)) :
    FnOk P w K mg base CX0 (k + 1) f fd ["value"] (spRow K) := by
  refine F.ok scRow (fun vs H Q E h => ?_) (fun cdv A outer s H vs Q E hr h => ?_)
  · obtain ⟨v, t, rfl, _⟩ := h
    rfl
  · obtain ⟨v, t, rfl, hv, ok, q⟩ := h
    obtain ⟨a, rfl, ht⟩ := dp_tm hv
    have ht0 : SqT K H a (t.map V.str) := same_tup (dl_le _ _) ht
    refine ⟨_, pss_cons (ps_if (PW.pt (pw_or (pt_not (pt_val (pe_callB call_isi (by rfl) M.isi bt_isinstance (pa_cons (pv 0) (pa_cons (pe_bltn (v := .ty "tuple") (by rfl) M.tuple bt_tuple rfl) pa_nil)))))
          (pw_or1 (pt_not (pt_val (pe_callB (cr_all rfl) (by rfl) M.all bt_all (pa_cons (pe_lc (own := [("name", 1)]) rfl scRow.nd (pi_tup (pv 0)) (blkOk_by (by kernel_rfl)) (fun s H C cl fp => pg_name (i := 1) scRow.nd rfl (.inl rfl)) (fun s H C cl fp => pts_nil)
            (fun s H C cl fp => pe_call GN hr (by rfl) gN kN bN .nil pass0 (pa_cons (pv 1) pa_nil))) pa_nil))))))) (pss_one (ps_ret pe_bl)) pss_nil)
      (pss_one (ps_ret (pe_callB (cr_all rfl) (by rfl) M.all bt_all (pa_cons (pe_lc (own := [("one", 2), ("other", 3)]) (g := gTup K 2 (gCons (gName 2) (gCons (gName 3) gNil))) rfl scRow.nd (RZ.pi_zipA (by rfl) M.zip (pa_cons (pv 0) (pa_cons (pe_slice sl_tupA (pv 0) (po_some pe_int) po_none) pa_nil))) (blkOk_by (by kernel_rfl))
        (fun s H C cl fp => pg_tup rfl (pgs_cons (pg_name (i := 2) scRow.nd rfl (.inl rfl)) (pgs_cons (pg_name (i := 3) scRow.nd rfl (.inl rfl)) pgs_nil))) (fun s H C cl fp => pts_nil)
        (fun s H C cl fp => pe_cmpR op_lt_str (pv 2) (pv 3) (nomark _))) pa_nil)))), ?_⟩
    refine ⟨.ref a, rfl, .ref a, .ty "tuple", .type "tuple", .type "tuple", true, rfl, .ty _, tyx_tup ht0, kit_ty (by decide +kernel), true, rfl, ?_⟩
    -- all are names
    refine ⟨.ref a, rfl, a, rfl, ⟨_, ht0⟩, fun D nD => ?_⟩
    refine lc_it walk_tup (PvC [] K H D fun i => List.replicate i (.bool true)) (pv0 nD rfl) (fun _ _ _ p => p.tup ht0) (fun i v H2 H2' hi p y => ?_) fun H2 p => ?_
    · obtain ⟨rfl, e⟩ := y
      obtain ⟨x, ex, rfl⟩ : ∃ x, t[i]? = some x ∧ v = .str x := by
        rw [List.getElem?_map] at e
        obtain ⟨x, e1, e2⟩ := Option.map_eq_some_iff.1 e
        exact ⟨x, e1, e2.symm⟩
      refine ⟨rfl, _, rfl, x, rfl, ok.nm x (List.mem_of_getElem? ex), fun H3 s3 => ?_⟩
      have hl := List.length_map (as := t) V.str
      exact p.put nD s3 (.bl true) (List.replicate_succ' ..) (by rw [List.length_replicate]; exact small1000 (by have := ok.len; omega))
    · have all := all_true p
      have s2 := p.1
      refine ⟨D, _, rfl, all, true, by rw [all_rep], ?_⟩
      -- each is less than the next one
      have fin : ∀ (b : Addr) (H3 : Hp), Same H H3 → SqT K H3 b ((t.map V.str).drop 1) → ∀ D', H3 D' = none → ∃ W : Nat → Nat → Hp → Prop, (∃ m, W 0 m (upd H3 D' (.lst []))) ∧ ∀ i m H, W i m H →
          ((RZ.ItzT K a b).stop i H ∧ rAll K [.ref D'] H Q) ∨ ((RZ.ItzT K a b).go i H ∧ ∃ Nx : Hp → Prop, (∀ H', Nx H' → ∃ m', m' < m ∧ W (i + 1) m' H') ∧ ∀ x H', (RZ.ItzT K a b).yld i H x H' →
            gTup K 2 (gCons (gName 2) (gCons (gName 3) gNil)) x (wipe (L2.start ["value", "name", "one", "other"] [.ref a]) [2, 3]) H' fun σ2 H2 => wipe σ2 [2, 3] = wipe (L2.start ["value", "name", "one", "other"] [.ref a]) [2, 3] ∧ tYes σ2 H2 fun b H3 =>
            if b = true then tOp (fun x y H Q => ∃ i j, x = .str i ∧ y = .str j ∧ Q (.bl (decide (i.cps.toList < j.cps.toList))) H) (tVar 2) (tVar 3) σ2 H3 fun y H4 => ∃ acc, H4 D' = some (.lst acc) ∧ acc.length < sizeLine ∧ Nx (upd H4 D' (.lst (acc ++ [y]))) else Nx H3) := by
        intro b H3 s3 hb D' nD'
        have ha3 : SqT K H3 a (t.map V.str) := same_tup s3 ht0
        refine lc_it (walk_zipT rfl) (PvC [] K H3 D' fun i => List.replicate i (.bool true)) (pv0 nD' rfl) (fun _ _ _ p => ⟨p.tup ha3, p.tup hb⟩) (fun i v H4 H4' hi p y => ?_) fun H4 p => ?_
        · obtain ⟨T, x1, x2, rfl, nT, rfl, f1, f2⟩ := y
          have f1 : (t.map V.str)[i]? = some x1 := f1
          have f2 : ((t.map V.str).drop 1)[i]? = some x2 := f2
          rw [List.getElem?_map] at f1
          rw [List.getElem?_drop, List.getElem?_map] at f2
          obtain ⟨z1, g1, rfl⟩ := Option.map_eq_some_iff.1 f1
          obtain ⟨z2, g2, rfl⟩ := Option.map_eq_some_iff.1 f2
          have lt : ltS z1 z2 := by
            obtain ⟨h1, e1⟩ := List.getElem?_eq_some_iff.1 g1
            obtain ⟨h2, e2⟩ := List.getElem?_eq_some_iff.1 g2
            rw [← e1, ← e2]
            exact List.pairwise_iff_getElem.1 ok.up _ _ h1 h2 (by omega)
          refine ⟨T, [.str z1, .str z2], rfl, .inl (.inl upd_same), rfl, .str z1, [.str z2], rfl, .str z2, [], rfl, rfl, rfl, ?_⟩
          refine ⟨.str z1, rfl, .str z2, rfl, z1, z2, rfl, rfl, ?_⟩
          rw [decide_eq_true (show z1.cps.toList < z2.cps.toList from lt)]
          exact p.put nD' (up_same nT) (.bl true) (List.replicate_succ' ..) (by
            rw [List.length_replicate]
            refine small1000 ?_
            have := ok.len
            rw [List.length_map] at hi
            omega)
        · refine ⟨D', _, rfl, all_true p, ?_⟩
          rw [all_rep]
          exact q H4 (s3.trans p.1)
      have ht2 : SqT K H2 a (t.map V.str) := same_tup s2 ht0
      refine ⟨.ref a, rfl, .ref a, rfl, 1, rfl, a, _, rfl, ht2, fun hw => ?_, fun hw p2 np2 => ?_⟩
      · have e : t.map V.str = [] := by
          have h1 := hw.1
          rw [show HT.sIx (t.map V.str).length 0 (some 1) = min 1 (t.map V.str).length from HT.sIx_nat _ 0 1] at h1
          exact List.eq_nil_of_length_eq_zero (by omega)
        refine ⟨a, a, _, _, rfl, .inr ⟨ht2, ht2, fun D' nD' => ?_⟩⟩
        exact fin a H2 s2 (by rw [e] at ht2 ⊢; exact ht2) D' nD'
      · have hc : SqT K (upd H2 p2 (.tup (cutV (t.map V.str) (some 1) none))) p2 ((t.map V.str).drop 1) := by
          rw [cutFrom1]
          exact .inl (.inl upd_same)
        refine ⟨a, p2, _, _, rfl, .inr ⟨same_tup (up_same np2) ht2, hc, fun D' nD' => ?_⟩⟩
        exact fin p2 _ (s2.trans (up_same np2)) hc D' nD'
theorem ok_term {f fR : Addr} {fd fdR : FuncData} {k : Nat} (F : Fun K "is_term" "is_term" (topS 17) f fd) (M : Mg K mg) (GR : FnOk P w K mg base CX0 k fR fdR ["value"] (spRow K)) (kR : PySem.W.keepIn K (.ref fR) = true) (bR : Binds K fdR ["value"] []) (gR : mg "is_row_of_names" = some (.ref fR)) :
    FnOk P w K mg base CX0 (k + 1) f fd ["value"] (spRow K) := by
  refine F.ok scTerm (fun vs H Q E h => ?_) (fun cdv A outer s H vs Q E hr h => ?_)
  · obtain ⟨v, t, rfl, _⟩ := h
    rfl
  · obtain ⟨v, t, rfl, hv, ok, q⟩ := h
    obtain ⟨tm, em⟩ := M.mnames
    obtain ⟨a, rfl, ht⟩ := dp_tm hv
    refine ⟨_, pss_one (ps_ret (pe_and (pe_call GR hr (by rfl) gR kR bR .nil pass0 (pa_cons (pv 0) pa_nil)) (pe_one (pe_cmpR op_le (pe_callB call_len_seq (by rfl) M.len bt_len (pa_cons (pv 0) pa_nil)) (pe_glob (v := .int 9) (by rfl) em ⟨_, rfl⟩) (nomark _))))), ?_⟩
    refine ⟨.ref a, rfl, .ref a, t, rfl, hv, ok, fun H1 s1 => ⟨true, rfl, ?_⟩⟩
    refine ⟨.ref a, rfl, a, t.map V.str, rfl, .inr (same_tup s1 (same_tup (dl_le _ _) ht)), _, 9, rfl, rfl, ?_⟩
    rw [List.length_map]
    exact bT (by have := ok.len; omega) (q H1 s1)
/-- the terms of a formula, as data -/
def tmsD (ts : List (List Str)) : PyData := .tuple (ts.map tm)
structure OkTs (ts : List (List Str)) : Prop where
  tm : ∀ t ∈ ts, OkT t
  nd : ts.Nodup
  len : ts.length ≤ 100
def spTms (K : PySem.W.Frag) : Sp := fun vs H Q _ => ∃ v ts, vs = [v] ∧ Dp K (dl [] H) v (tmsD ts) ∧ OkTs ts ∧ ∀ H', Same H H' → Q (.bl true) H'
/-- the reading of {term: True for term in value} over a tuple -/
theorem tcc_tup {a : Addr} {xs : List V} {o₀ : Addr → HO} {g : TG} {tt : TT} {tb : L2.St → Hp → Addr → (Hp → Prop) → Prop} {vs : List Nat} {σ : L2.St} {H1 : Hp} {D : Addr} {Qd : Hp → Prop} (Pv : Nat → Hp → Prop) (h0 : Pv 0 (upd H1 D (o₀ D))) (hl : ∀ i H, i ≤ xs.length → Pv i H → SqT K H a xs)
    (hs : ∀ i x H, xs[i]? = some x → Pv i H → g x (wipe σ vs) H fun σ2 H2 => wipe σ2 vs = wipe σ vs ∧ tt σ2 H2 fun b H3 => if b = true then tb σ2 H3 D (Pv (i + 1)) else Pv (i + 1) H3) (hd : ∀ H, Pv xs.length H → Qd H) :
    ∃ W : Nat → Nat → Hp → Prop, (∃ m, W 0 m (upd H1 D (o₀ D))) ∧ ∀ i m H, W i m H → ((Itt K a).stop i H ∧ Qd H) ∨
      ((Itt K a).go i H ∧ ∃ Nx : Hp → Prop, (∀ H', Nx H' → ∃ m', m' < m ∧ W (i + 1) m' H') ∧
        ∀ x H', (Itt K a).yld i H x H' → g x (wipe σ vs) H' fun σ2 H2 => wipe σ2 vs = wipe σ vs ∧ tt σ2 H2 fun b H3 => if b = true then tb σ2 H3 D Nx else Nx H3) := by
  refine ⟨fun i m H => m = xs.length - i ∧ i ≤ xs.length ∧ Pv i H, ⟨xs.length, by simp, Nat.zero_le _, h0⟩, ?_⟩
  rintro i m H ⟨rfl, hi, p⟩
  have q := hl i H hi p
  by_cases hlt : i < xs.length
  · refine .inr ⟨⟨xs, xs[i], q, by simp [hlt]⟩, Pv (i + 1), fun H' p' => ⟨xs.length - (i + 1), by omega, rfl, hlt, p'⟩, fun x H' y => ?_⟩
    obtain ⟨e, y⟩ := y
    subst e
    exact hs i x _ (y xs q) p
  · have e : i = xs.length := by omega
    subst e
    exact .inl ⟨⟨xs, q, Nat.le_refl _⟩, hd H p⟩
theorem ok_terms {f fR : Addr} {fd fdR : FuncData} {k : Nat} (F : Fun K "are_terms" "are_terms" (topS 18) f fd) (M : Mg K mg) (GR : FnOk P w K mg base CX0 k fR fdR ["value"] (spRow K)) (kR : PySem.W.keepIn K (.ref fR) = true) (bR : Binds K fdR ["value"] []) (gR : mg "is_term" = some (.ref fR)) :
    FnOk P w K mg base CX0 (k + 1) f fd ["value"] (spTms K) := by
  refine F.ok scTerms (fun vs H Q E h => ?_) (fun cdv A outer s H vs Q E hr h => ?_)
  · obtain ⟨v, t, rfl, _⟩ := h
    rfl
  · obtain ⟨v, ts, rfl, hv, ok, q⟩ := h
    obtain ⟨a, xs, rfl, ht, hx⟩ := dp_tup hv
    have ht0 : SqT K H a xs := same_tup (dl_le _ _) ht
    have hlen : xs.length = ts.length := by
      have := dps_len hx
      rw [List.length_map] at this
      exact this
    refine ⟨_, pss_cons (ps_if (PW.pt (pw_or (pt_not (pt_val (pe_callB call_isi (by rfl) M.isi bt_isinstance (pa_cons (pv 0) (pa_cons (pe_bltn (v := .ty "tuple") (by rfl) M.tuple bt_tuple rfl) pa_nil)))))
          (pw_or1 (pt_not (pt_val (pe_callB (cr_all rfl) (by rfl) M.all bt_all (pa_cons (pe_lc (own := [("term", 1)]) rfl scTerms.nd (pi_tup (pv 0)) (blkOk_by (by kernel_rfl)) (fun s H C cl fp => pg_name (i := 1) scTerms.nd rfl (.inl rfl)) (fun s H C cl fp => pts_nil)
            (fun s H C cl fp => pe_call GR hr (by rfl) gR kR bR .nil pass0 (pa_cons (pv 1) pa_nil))) pa_nil))))))) (pss_one (ps_ret pe_bl)) pss_nil)
      (pss_one (ps_ret (pe_cmpR op_eq (pe_callB (call_lenN hr.units) (by rfl) M.len bt_len (pa_cons (pe_dcN (own := [("term", 1)]) rfl scTerms.nd hr.units (pi_tup (pv 0)) (blkOk_by (by kernel_rfl)) (fun s H C cl fp => pg_name (i := 1) scTerms.nd rfl (.inl rfl)) (fun s H C cl fp => pts_nil)
        (fun s H C cl fp => pv 1) (fun s H C cl fp => pe_bl)) pa_nil)) (pe_callB call_len_seq (by rfl) M.len bt_len (pa_cons (pv 0) pa_nil)) (nomark _)))), ?_⟩
    refine ⟨.ref a, rfl, .ref a, .ty "tuple", .type "tuple", .type "tuple", true, rfl, .ty _, tyx_tup ht0, kit_ty (by decide +kernel), true, rfl, ?_⟩
    refine ⟨.ref a, rfl, a, rfl, ⟨_, ht0⟩, fun D nD => ?_⟩
    refine lc_it walk_tup (PvC [] K H D fun i => List.replicate i (.bool true)) (pv0 nD rfl) (fun _ _ _ p => p.tup ht0) (fun i v H2 H2' hi p y => ?_) fun H2 p => ?_
    · obtain ⟨rfl, e⟩ := y
      obtain ⟨t, et, dt⟩ := dps_map_at hx e
      have st := p.1
      refine ⟨rfl, _, rfl, v, t, rfl, dp_same (dl_same st) dt, ok.tm t (List.mem_of_getElem? et), fun H3 s3 => ?_⟩
      exact p.put nD s3 (.bl true) (List.replicate_succ' ..) (by rw [List.length_replicate]; exact small1000 (by have := ok.len; omega))
    · have all := all_true p
      have s2 := p.1
      refine ⟨D, _, rfl, all, true, by rw [all_rep], ?_⟩
      have ht2 : SqT K H2 a xs := same_tup s2 ht0
      refine ⟨.ref a, rfl, a, rfl, ⟨_, ht2⟩, fun D' nD' => ?_⟩
      refine tcc_tup (o₀ := fun D => DNO P w D []) (fun i H3 => Same H2 H3 ∧ ∃ L : NL, H3 D' = some (DNO P w D' L) ∧ L.map (·.2) = (ts.take i).map kT ∧ ∀ p ∈ L, V.ref p.1 ∈ xs ∧ Dp K (dl [] H) (.ref p.1) (pk p.2) ∧ p.2.depth ≤ 8)
        ⟨up_same nD', [], upd_same, rfl, fun p hp => by cases hp⟩ (fun i H3 _ p => same_tup p.1 ht2) (fun i v H3 e p => ?_) fun H3 p => ?_
      · obtain ⟨s3, L, eL, ek, hL⟩ := p
        obtain ⟨t, et, dt⟩ := dps_map_at hx e
        obtain ⟨b, rfl, _⟩ := dp_tm dt
        have step : Same (dl [] H) H3 := fun c o h => s3 c o (s2 c o (dl_le _ _ c o h))
        have kt : Dp K (dl [] H) (.ref b) (pk (kT t)) := by
          rw [pk_T]
          exact dt
        have dep : (kT t).depth ≤ 8 := by
          have := kT_depth t
          omega
        have hl : L.length = (ts.take i).length := by
          have := congrArg List.length ek
          rw [List.length_map, List.length_map] at this
          exact this
        have hn : kT t ∉ L.map (·.2) := fun z => by
          rw [ek] at z
          obtain ⟨t', ht', e'⟩ := List.mem_map.1 z
          have e2 := kT_inj e'
          rw [e2] at ht'
          exact take_not ok.nd et ht'
        refine ⟨rfl, _, rfl, b, kT t, L, rfl, rfl, eL, ?_, fun p hp => ⟨dp_same step (hL p hp).2.1, (hL p hp).2.2⟩, dp_same step kt, dep, ?_⟩
        · rw [hl, List.length_take]
          exact small1000 (by have := ok.len; omega)
        · refine ⟨fun c o hc => ?_, _, upd_same, ?_, fun p hp => ?_⟩
          · rw [upd_ne (fun z => by rw [z, nD'] at hc; cases hc)]
            exact s3 c o hc
          · rw [putN_new hn, List.map_append, ek, take_map_succ et]
            rfl
          · rcases putN_mem hp with hp | hp
            · exact hL p hp
            · rw [hp]
              exact ⟨List.mem_of_getElem? e, kt, dep⟩
      · obtain ⟨s3, L, eL, ek, hL⟩ := p
        have step : Same (dl [] H) H3 := fun c o h => s3 c o (s2 c o (dl_le _ _ c o h))
        refine ⟨D', L, rfl, eL, fun p hp => ⟨dp_same step (hL p hp).2.1, (hL p hp).2.2⟩, ?_⟩
        refine ⟨.ref a, rfl, a, xs, rfl, .inr (same_tup s3 ht2), ?_⟩
        have hl : L.length = xs.length := by
          have := congrArg List.length ek
          rw [List.length_map, List.length_map, List.length_take, ← hlen] at this
          omega
        rw [hl]
        exact ⟨rfl, bT rfl (q H3 (s2.trans s3))⟩
/-- names_of: all names of the terms, each once -/
def spNames (K : PySem.W.Frag) : Sp := fun vs H Q _ => ∃ v ts, vs = [v] ∧ Dp K (dl [] H) v (tmsD ts) ∧ (∀ t ∈ ts, t.length ≤ 9) ∧ ts.length ≤ 100 ∧ ∀ (zs : List Str) H' p, Same H H' → zs.Nodup → (∀ y, y ∈ zs ↔ ∃ t ∈ ts, y ∈ t) → H p = none → H' p = some (.tup (zs.map V.str)) → Q (.ref p) H'
theorem flat_in {ts : List (List Str)} {i : Nat} {t : List Str} (h : ts[i]? = some t) : (ts.take (i + 1)).flatten = (ts.take i).flatten ++ t := by
  rw [List.take_add_one, h, List.flatten_append]
  simp
theorem flat_len {ts : List (List Str)} (h : ∀ t ∈ ts, t.length ≤ 9) : ts.flatten.length ≤ 9 * ts.length := by
  induction ts with
  | nil => simp
  | cons t ts ih =>
    have h1 := h t List.mem_cons_self
    have h2 := ih fun u hu => h u (List.mem_cons_of_mem _ hu)
    rw [List.flatten_cons, List.length_append, List.length_cons]
    omega
theorem ok_names {f : Addr} {fd : FuncData} {k : Nat} (F : Fun K "names_of" "names_of" (topS 19) f fd) (M : Mg K mg) : FnOk P w K mg base CX0 (k + 1) f fd ["terms"] (spNames K) := by
  refine F.ok scNames (fun vs H Q E h => ?_) (fun cdv A outer s H vs Q E hr h => ?_)
  · obtain ⟨v, t, rfl, _⟩ := h
    rfl
  · obtain ⟨v, ts, rfl, hv, h9, h100, q⟩ := h
    obtain ⟨a, xs, rfl, ht, hx⟩ := dp_tup hv
    have ht0 : SqT K H a xs := same_tup (dl_le _ _) ht
    have hlen : xs.length = ts.length := by
      have := dps_len hx
      rw [List.length_map] at this
      exact this
    refine ⟨_, pss_one (ps_ret (pe_callTy call_tuple_of (by rfl) M.tuple bt_tuple (pa_cons (pe_callB (cr_sortedX rfl) (by rfl) M.sorted bt_sorted (pa_cons (pe_sc2 (own := [("term", 1), ("name", 2)]) (vs1 := [2]) (wi1 := iTup K (tVar 1)) rfl scNames.nd (pi_tup (pv 0)) (blkOk_by (by kernel_rfl)) (by decide)
      (fun s H C cl fp => pg_name (i := 1) scNames.nd rfl (.inl rfl)) (fun s H C cl fp => pts_nil) (fun s H C cl fp => pi_tup (pv 1)) (fun s H C cl fp => pg_name (i := 2) scNames.nd rfl (.inl rfl)) (fun s H C cl fp => pv 2)) pa_nil)) pa_nil))), ?_⟩
    refine ⟨.ref a, rfl, a, rfl, ⟨_, ht0⟩, fun D nD => ?_⟩
    have nDl : ∀ {H2 : Hp}, Same H H2 → (∀ o, Same H2 (upd H2 D o) ∨ True) := fun _ _ => .inr trivial
    refine tcc_tup (o₀ := fun D => SetSO w D []) (fun i H2 => Same H H2 ∧ H2 D = some (SetSO w D (ts.take i).flatten)) ⟨up_same nD, upd_same⟩ (fun i H2 _ p => same_tup p.1 ht0) (fun i v H2 e p => ?_) fun H2 p => ?_
    · obtain ⟨s2, eD⟩ := p
      obtain ⟨t, et, dt⟩ := dps_map_at hx e
      obtain ⟨b, rfl, hb⟩ := dp_tm dt
      have hb2 : SqT K H2 b (t.map V.str) := same_tup (fun c o h => s2 c o (dl_le _ _ c o h)) hb
      have bound : (ts.take i).flatten.length + t.length ≤ 900 := by
        have h1 := flat_len (ts := ts.take (i + 1)) fun t ht => h9 t (List.mem_of_mem_take ht)
        rw [flat_in et, List.length_append, List.length_take] at h1
        omega
      refine ⟨rfl, _, rfl, b, rfl, ⟨_, hb2⟩, ?_⟩
      -- the inner loop
      refine ⟨fun j k H3 => k = t.length - j ∧ j ≤ t.length ∧ Same H H3 ∧ H3 D = some (SetSO w D ((ts.take i).flatten ++ t.take j)), ⟨t.length, by simp, Nat.zero_le _, s2, by rw [eD, List.take_zero, List.append_nil]⟩, ?_⟩
      rintro j k H3 ⟨rfl, hj, s3, e3⟩
      have hb3 : SqT K H3 b (t.map V.str) := same_tup (fun c o h => s3 c o (dl_le _ _ c o h)) hb
      by_cases hlt : j < t.length
      · refine .inr ⟨⟨_, .str t[j], hb3, by rw [List.getElem?_map, List.getElem?_eq_getElem hlt]; rfl⟩, fun H' => Same H H' ∧ H' D = some (SetSO w D ((ts.take i).flatten ++ t.take (j + 1))), fun H' p' => ⟨t.length - (j + 1), by omega, rfl, hlt, p'⟩, fun x H' y => ?_⟩
        obtain ⟨rfl, y⟩ := y
        have ex := y _ hb3
        rw [List.getElem?_map, List.getElem?_eq_getElem hlt] at ex
        obtain rfl : V.str t[j] = x := Option.some.inj ex
        refine ⟨rfl, _, rfl, t[j], _, rfl, e3, ?_, fun c o hc => ?_, ?_⟩
        · rw [List.length_append, List.length_take]
          unfold scanBound
          omega
        · rw [upd_ne (fun z => by rw [z, nD] at hc; cases hc)]
          exact s3 c o hc
        · rw [upd_same, List.append_assoc, List.take_add_one, List.getElem?_eq_getElem hlt]
          rfl
      · have ej : j = t.length := by omega
        subst ej
        refine .inl ⟨⟨_, hb3, by rw [List.length_map]; exact Nat.le_refl _⟩, s3, ?_⟩
        rw [e3, flat_in et, List.take_length]
    · obtain ⟨s2, eD⟩ := p
      rw [hlen, List.take_length] at eD
      refine ⟨D, _, rfl, eD, hr.units, fun zs p nd mem np => ?_⟩
      refine ⟨p, _, rfl, .inl ⟨.inl (.inl upd_same), fun l nl => ?_⟩⟩
      refine q zs _ l ((s2.trans (up_same np)).trans (up_same nl)) nd (fun y => ?_) ((s2.trans (up_same np)).free nl) upd_same
      rw [mem y, List.mem_flatten]
end
end Kt
/-! the class Formula -/
namespace Kt
open PySem PySem.Spec PyProof.Rows L2
def clsB (s : Stmt) : List Stmt := match s with
  | .ClassDef _ _ _ b _ _ _ _ _ _ _ => b
  | _ => []
def fmS (i : Nat) : Stmt := (clsB (topS 21)).getD i (.Pass ⟨0, 0, 0, 0⟩)
theorem scInit : FnScope ["self", "terms", "response", "names"] ["self", "terms", "response"] (defScope (fmS 1)) := ⟨rfl, rfl, rfl, by decide +kernel, rfl, by decide +kernel, by decide +kernel⟩
theorem scGet : FnScope ["self"] ["self"] (defScope (fmS 2)) := ⟨rfl, rfl, rfl, by decide +kernel, rfl, by decide +kernel, by decide +kernel⟩
theorem scGetN : FnScope ["self"] ["self"] (defScope (fmS 4)) := ⟨rfl, rfl, rfl, by decide +kernel, rfl, by decide +kernel, by decide +kernel⟩
/-- what of the class the walk leans on -/
structure FmC (K : PySem.W.Frag) (C : Addr) (iT iR : Nat) : Prop where
  cls : SlX.SCls K C
  isi : SlX.SIsi K C
  sT : ∃ p, SlX.Slot1 K C "own_terms" p iT
  sR : ∃ p, SlX.Slot1 K C "own_response" p iR
  ne : iT ≠ iR
/-- a formula whose stored terms are ts -/
def FmAt (K : PySem.W.Frag) (C : Addr) (iT : Nat) (H : Hp) (v : V) (ts : List (List Str)) : Prop := ∃ a dx vs tv, v = .ref a ∧ SlX.Slt H a C dx vs ∧ vs[iT]? = some (some tv) ∧ Dp K H tv (tmsD ts)
theorem slt_same {H H' : Hp} {a C dx : Addr} {vs : List (Option V)} (s : Same H H') (h : SlX.Slt H a C dx vs) : SlX.Slt H' a C dx vs := h.imp (fun z => ⟨s _ _ z.1, z.2⟩) fun z => ⟨s _ _ z.1, s _ _ z.2⟩
theorem FmAt.same {K : PySem.W.Frag} {C : Addr} {iT : Nat} {H H' : Hp} {v : V} {ts : List (List Str)} (s : Same H H') (h : FmAt K C iT H v ts) : FmAt K C iT H' v ts := by
  obtain ⟨a, dx, vs, tv, rfl, h1, h2, h3⟩ := h
  exact ⟨a, dx, vs, tv, rfl, slt_same s h1, h2, dp_same s h3⟩
section
variable {P : Program} {w : World} {K : PySem.W.Frag} {mg : Str → Option Value} {base : Heap} {C : Addr} {iT iR : Nat}
/-- the response: none, or a name that is in no term -/
def RespOk (v : V) (ts : List (List Str)) : Prop := v = .non ∨ ∃ y, v = .str y ∧ OkN y ∧ ∀ t ∈ ts, y ∉ t
/-- at most nine names -/
def FewN (ts : List (List Str)) : Prop := ∀ zs : List Str, zs.Nodup → (∀ y ∈ zs, ∃ t ∈ ts, y ∈ t) → zs.length ≤ 9
def spInit (K : PySem.W.Frag) (C : Addr) (iT : Nat) : Sp := fun vs H Q _ => ∃ x dx tv rv ts H0, vs = [.ref x, tv, rv] ∧ H = upd (upd H0 dx (.own x)) x (.ins C dx []) ∧ H0 x = none ∧ H0 dx = none ∧ dx ≠ x ∧ Dp K (dl [] H0) tv (tmsD ts) ∧ OkTs ts ∧ FewN ts ∧ RespOk rv ts ∧
  ∀ H' ts', ts'.Perm ts → Same H0 H' → FmAt K C iT (dl [] H') (.ref x) ts' → Q .non H'
theorem resp_test {σ : L2.St} {H : Hp} {R : Bool → Hp → Prop} {rv : V} {ts : List (List Str)} (h : σ[2]? = some (some rv)) (resp : RespOk rv ts) (hr : ∀ H2, Same H H2 → R false H2) : tAnd (tB (tNotN (tVar 2))) (tNot (tB (tCall spName [] E0 (tCons (tVar 2) tNil)))) σ H R := by
  rcases resp with rfl | ⟨y, rfl, ok, _⟩
  · exact ⟨.non, h, false, rfl, hr H (Same.refl H)⟩
  · exact ⟨.str y, h, true, rfl, .str y, h, y, rfl, ok, fun H2 s2 => ⟨true, rfl, hr H2 s2⟩⟩
theorem inV_non : ∀ l : List Str, inV .non (l.map V.str) = false
  | [] => rfl
  | y :: l => inV_non l
theorem resp_not {rv : V} {ts : List (List Str)} {zs : List Str} (resp : RespOk rv ts) (h : ∀ y, y ∈ zs ↔ ∃ t ∈ ts, y ∈ t) : flatV rv = true ∧ inV rv (zs.map V.str) = false := by
  rcases resp with rfl | ⟨y, rfl, _, hy⟩
  · exact ⟨rfl, inV_non zs⟩
  · refine ⟨rfl, ?_⟩
    rw [inV_str]
    refine decide_eq_false fun z => ?_
    obtain ⟨t, ht, hyt⟩ := (h y).1 z
    exact hy t ht hyt
theorem slt_dl {H : Hp} {a dx : Addr} {vs : List (Option V)} (hne : dx ≠ a) : SlX.Slt (dl [] (SlX.slH H a C dx vs)) a C dx vs := .inr ⟨dl_at upd_same (by simp) rfl, dl_at (by unfold SlX.slH; rw [upd_ne hne, upd_same]) (by simp) rfl⟩
theorem dl_both {H0 : Hp} {x dx : Addr} {o1 o2 : HO} : dl [x, dx] (upd (upd H0 dx o1) x o2) = dl [x, dx] H0 := by
  rw [dl_in (by simp), dl_in (by simp)]
theorem ok_init {f fA fN fM : Addr} {fd fdA fdN fdM : FuncData} {k : Nat} (F : FunD K "__init__" "Formula.__init__" (defArgs (fmS 1)) (defBody (fmS 1)) (defScope (fmS 1)) [] [("response", .non)] f fd) (M : Mg K mg) (c : FmC K C iT iR)
    (GA : FnOk P w K mg base CX0 k fA fdA ["value"] (spTms K)) (kA : PySem.W.keepIn K (.ref fA) = true) (bA : Binds K fdA ["value"] []) (gA : mg "are_terms" = some (.ref fA))
    (GN : FnOk P w K mg base CX0 k fN fdN ["value"] spName) (kN : PySem.W.keepIn K (.ref fN) = true) (bN : Binds K fdN ["value"] []) (gN : mg "is_name" = some (.ref fN))
    (GM : FnOk P w K mg base CX0 k fM fdM ["terms"] (spNames K)) (kM : PySem.W.keepIn K (.ref fM) = true) (bM : Binds K fdM ["terms"] []) (gM : mg "names_of" = some (.ref fM)) :
    FnOk P w K mg base CX0 (k + 1) f fd ["self", "terms", "response"] (spInit K C iT) := by
  refine F.ok scInit (fun vs H Q E h => ?_) (fun cdv A outer s H vs Q E hr h => ?_)
  · obtain ⟨x, dx, tv, rv, ts, H0, rfl, _⟩ := h
    rfl
  · obtain ⟨x, dx, tv, rv, ts, H0, rfl, rfl, nx, ndx, hne, ht, ok, few, resp, q⟩ := h
    obtain ⟨ta, xs, rfl, hta, hxs⟩ := dp_tup ht
    obtain ⟨t9, e9⟩ := M.mnames
    obtain ⟨t2, e2⟩ := M.mterms
    obtain ⟨pT, sT⟩ := c.sT
    obtain ⟨pR, sR⟩ := c.sR
    refine ⟨_, PSs.nox (pss_cons (ps_if (pt_not (pt_val (pe_call GA hr (by rfl) gA kA bA .nil pass0 (pa_cons (pv 1) pa_nil)))) pss_never pss_nil)
      (pss_cons (ps_if (PW.pt (pw_and (pt_cmp (pc_notN (pv 2))) (pw_and1 (pt_not (pt_val (pe_call GN hr (by rfl) gN kN bN .nil pass0 (pa_cons (pv 2) pa_nil))))))) pss_never pss_nil)
      (pss_cons (ps_set (i := 3) scInit.nd rfl (.inl rfl) (pe_call GM hr (by rfl) gM kM bM .nil pass0 (pa_cons (pv 1) pa_nil)))
      (pss_cons (ps_if (pt_cmpR op_in_seq (pv 2) (pv 3) (by rfl)) pss_never pss_nil)
      (pss_cons (ps_if (pt_cmpR op_gt (pe_callB call_len_seq (by rfl) M.len bt_len (pa_cons (pv 3) pa_nil)) (pe_glob (v := .int 9) (by rfl) e9 ⟨_, rfl⟩) (nomark _)) pss_never pss_nil)
      (pss_cons (ps_if (pt_cmpR op_gt (pe_callB call_len_seq (by rfl) M.len bt_len (pa_cons (pv 1) pa_nil)) (pe_glob (v := .int 200) (by rfl) e2 ⟨_, rfl⟩) (nomark _)) pss_never pss_nil)
      (pss_cons (SlX.ps_sl (pv 0) (pe_callTy call_tuple_of (by rfl) M.tuple bt_tuple (pa_cons (pe_sortedLen (by rfl) M.sorted (by rfl) M.len (pa_cons (pv 1) pa_nil)) pa_nil)))
      (pss_one (SlX.ps_sl (pv 0) (pv 2)))))))))), ?_⟩
    have base0 : Same (dl [] H0) (dl [x, dx] (upd (upd H0 dx (.own x)) x (.ins C dx []))) := by
      rw [dl_both]
      exact (dl_new ndx).trans (dl_new nx)
    have ne0 : Ne [x, dx] (upd (upd H0 dx (.own x)) x (.ins C dx [])) := by
      intro b hb
      simp only [List.mem_cons, List.not_mem_nil, or_false] at hb
      rcases hb with rfl | rfl
      · exact ⟨_, upd_same, rfl⟩
      · exact ⟨.own x, by rw [upd_ne hne, upd_same], rfl⟩
    generalize hH : upd (upd H0 dx (.own x)) x (.ins C dx []) = H at base0 ne0
    have fromH : ∀ {H1 : Hp}, Same H H1 → Same (dl [] H0) (dl [] H1) := fun s => (base0.trans (dl_mono fun _ h => by cases h)).trans (dl_same s)
    -- are_terms(terms)
    refine ⟨.ref ta, rfl, .ref ta, ts, rfl, dp_same (fromH (Same.refl _)) ht, ok, fun H1 s1 => ⟨true, rfl, ?_⟩⟩
    -- the response
    refine resp_test rfl resp fun H2 s2' => ?_
    have s2 := s1.trans s2'
    -- names = names_of(terms)
    refine ⟨.ref ta, rfl, .ref ta, ts, rfl, dp_same (fromH s2) ht, fun t h => (ok.tm t h).len, ok.len, fun zs H3 p s3' nd mem np hp => ?_⟩
    have s3 := s2.trans s3'
    obtain ⟨fl, inn⟩ := resp_not resp mem
    refine ⟨rv, rfl, .ref p, rfl, p, zs.map V.str, rfl, .inr (.inl (.inl hp)), fl, flat_strs _, _, rfl, ?_⟩
    rw [inn]
    -- the counts
    have zl : zs.length ≤ 9 := few zs nd fun y hy => (mem y).1 hy
    refine ⟨.ref p, rfl, p, zs.map V.str, rfl, .inr (.inl (.inl hp)), _, _, rfl, rfl, _, rfl, ?_⟩
    refine ite2 (fun z => absurd (of_decide_eq_true z) (by rw [List.length_map]; omega)) fun _ => ?_
    have hta3 : SqT K H3 ta xs := same_tup (fun c o h => dl_le _ _ c o (fromH s3 c o h)) hta
    have xl : xs.length = ts.length := by
      have := dps_len hxs
      rw [List.length_map] at this
      exact this
    refine ⟨.ref ta, rfl, ta, xs, rfl, .inr hta3, _, _, rfl, rfl, _, rfl, ?_⟩
    refine ite2 (fun z => absurd (of_decide_eq_true z) (by rw [xl]; have := ok.len; omega)) fun _ => ?_
    -- self.own_terms
    have sm3 : Same (dl [] H0) (dl [x, dx] H3) := base0.trans (dl_same s3)
    refine ⟨.ref ta, rfl, ta, xs, ts, dl [x, dx] H3, rfl, hta3, dl_le _ _, dps_same sm3 hxs, by have := ok.len; omega, hr.units, fun ys l dys nl => ?_⟩
    refine ⟨l, ys, rfl, .inl ⟨.inl (.inl upd_same), fun m nm => ?_⟩⟩
    have s4 : Same H (upd (upd H3 l (.lst ys)) m (.tup ys)) := (s3.trans (up_same nl)).trans (up_same nm)
    have ne4 : Ne [x, dx] (upd H3 l (.lst ys)) := (ne0.same s3).same (up_same nl)
    have dtup : Dp K (dl [x, dx] (upd (upd H3 l (.lst ys)) m (.tup ys))) (.ref m) (tmsD (srt lenD ts)) := dp_tupN ne4 nm (dps_same (dl_up nl) dys)
    generalize hH4 : upd (upd H3 l (.lst ys)) m (.tup ys) = H4 at s4 dtup
    have hx4 : H4 x = some (.ins C dx []) := s4 _ _ (by rw [← hH]; exact upd_same)
    refine ⟨.ref x, rfl, x, C, dx, pT, [], iT, rfl, .inl ⟨hx4, rfl⟩, c.cls, sT, ?_⟩
    -- self.own_response
    refine ⟨rv, rfl, .ref x, rfl, x, C, dx, pR, _, iR, rfl, SlX.slH_slt hne, c.cls, sR, ?_⟩
    rw [SlX.slH_twice hne]
    refine q _ (srt lenD ts) (srt_perm_self _ _) (fun b o hb => ?_) ⟨x, dx, SlX.putS iR rv (SlX.putS iT (.ref m) []), .ref m, rfl, slt_dl hne, (SlX.putS_ne (fun z => c.ne z)).2 (SlX.putS_get _ _ _), ?_⟩
    · have h1 : b ≠ x := ne_of_none hb nx
      have h2 : b ≠ dx := ne_of_none hb ndx
      rw [SlX.slH_ne h1 h2]
      refine s4 _ _ ?_
      rw [← hH, upd_ne h1, upd_ne h2]
      exact hb
    · refine dp_same (fun b o hb => ?_) dtup
      obtain ⟨h1, h2, h3⟩ := dl_some.1 hb
      simp only [List.mem_cons, List.not_mem_nil, or_false, not_or] at h1
      exact dl_some.2 ⟨by simp, by rw [SlX.slH_ne h1.1 h1.2]; exact h2, h3⟩
/-! ### the getters -/
def spGetT (K : PySem.W.Frag) (C : Addr) (iT : Nat) : Sp := fun vs H Q _ => ∃ cs v ts, vs = [v] ∧ FmAt K C iT (dl cs H) v ts ∧ ∀ tv, Dp K (dl cs H) tv (tmsD ts) → Q tv H
theorem ok_getT {f : Addr} {fd : FuncData} {k : Nat} (F : Fun K "terms" "Formula.terms" (fmS 2) f fd) (c : FmC K C iT iR) : FnOk P w K mg base CX0 (k + 1) f fd ["self"] (spGetT K C iT) := by
  refine F.ok scGet (fun vs H Q E h => ?_) (fun cdv A outer s H vs Q E hr h => ?_)
  · obtain ⟨cs, v, t, rfl, _⟩ := h
    rfl
  · obtain ⟨cs, v, ts, rfl, ⟨a, dx, sl, tv, rfl, h1, h2, h3⟩, q⟩ := h
    obtain ⟨pT, sT⟩ := c.sT
    refine ⟨_, pss_one (ps_ret (SlX.pe_sl (pv 0))), ?_⟩
    exact ⟨.ref a, rfl, a, C, dx, pT, sl, iT, tv, rfl, slt_same (dl_le _ _) h1, c.cls, sT, h2, q tv h3⟩
def spGetN (K : PySem.W.Frag) (C : Addr) (iT : Nat) : Sp := fun vs H Q _ => ∃ v ts, vs = [v] ∧ FmAt K C iT (dl [] H) v ts ∧ (∀ t ∈ ts, t.length ≤ 9) ∧ ts.length ≤ 100 ∧
  ∀ (zs : List Str) H' p, Same H H' → (∀ y, y ∈ zs ↔ ∃ t ∈ ts, y ∈ t) → H' p = some (.tup (zs.map V.str)) → Q (.ref p) H'
theorem ok_getN {f fM : Addr} {fd fdM : FuncData} {k : Nat} (F : Fun K "names" "Formula.names" (fmS 4) f fd) (c : FmC K C iT iR)
    (GM : FnOk P w K mg base CX0 k fM fdM ["terms"] (spNames K)) (kM : PySem.W.keepIn K (.ref fM) = true) (bM : Binds K fdM ["terms"] []) (gM : mg "names_of" = some (.ref fM)) : FnOk P w K mg base CX0 (k + 1) f fd ["self"] (spGetN K C iT) := by
  refine F.ok scGetN (fun vs H Q E h => ?_) (fun cdv A outer s H vs Q E hr h => ?_)
  · obtain ⟨v, t, rfl, _⟩ := h
    rfl
  · obtain ⟨v, ts, rfl, ⟨a, dx, sl, tv, rfl, h1, h2, h3⟩, h9, h100, q⟩ := h
    obtain ⟨pT, sT⟩ := c.sT
    refine ⟨_, pss_one (ps_ret (pe_call GM hr (by rfl) gM kM bM .nil pass0 (pa_cons (SlX.pe_sl (pv 0)) pa_nil))), ?_⟩
    refine ⟨.ref a, rfl, a, C, dx, pT, sl, iT, tv, rfl, slt_same (dl_le _ _) h1, c.cls, sT, h2, tv, ts, rfl, h3, h9, h100, fun zs H' p s' _ mem _ hp => ?_⟩
    exact q zs H' p s' mem hp
end
end Kt
/-! require_formula, are_kinds, require_kinds -/
namespace Kt
open PySem PySem.Spec PyProof.Rows L2
/-! ### kinds -/
def cF : Str := "factor"
def cN : Str := "number"
def kdV (ks : List (Str × Str)) : List (Key × V) := ks.map fun p => (.inr p.1, .str p.2)
def KdAt (H : Hp) (v : V) (ks : List (Str × Str)) : Prop := ∃ d, v = .ref d ∧ H d = some (.dK (kdV ks))
structure OkKd (ks : List (Str × Str)) : Prop where
  nm : ∀ p ∈ ks, OkN p.1
  kd : ∀ p ∈ ks, p.2 = cF ∨ p.2 = cN
  len : ks.length ≤ 100
theorem KdAt.same {H H' : Hp} {v : V} {ks : List (Str × Str)} (s : Same H H') (h : KdAt H v ks) : KdAt H' v ks := by
  obtain ⟨d, e, h⟩ := h
  exact ⟨d, e, s _ _ h⟩
theorem kd_val (ks : List (Str × Str)) (x : Str) : valV (kdV ks) (.inr x) = (ks.lookup x).map V.str := by
  induction ks with
  | nil => rfl
  | cons p ks ih =>
    unfold valV kdV at ih ⊢
    rw [List.map_cons, List.find?_cons]
    by_cases e : p.1 = x
    · have e1 : decide ((Sum.inr p.1 : Key) = Sum.inr x) = true := by rw [e]; simp
      simp only [e1]
      obtain ⟨a, b⟩ := p
      simp only at e
      subst e
      simp [List.lookup]
    · have e1 : decide ((Sum.inr p.1 : Key) = Sum.inr x) = false := decide_eq_false fun z => e (Sum.inr.inj z)
      have e2 : (x == p.1) = false := beq_eq_false_iff_ne.2 fun z => e z.symm
      simp only [e1]
      rw [ih]
      obtain ⟨a, b⟩ := p
      simp only at e2
      simp [List.lookup, e2]
theorem lock_same {H H2 : Hp} {d : Addr} {u z : HO} (h : H d = some u) (s : Same (upd H d z) H2) : Same H (upd H2 d u) := fun b o hb => by
  by_cases e : b = d
  · rw [e] at hb ⊢
    rw [upd_same, ← h, hb]
  · rw [upd_ne e]
    exact s b o (by rw [upd_ne e]; exact hb)
theorem scReqF : FnScope ["value"] ["value"] (defScope (topS 22)) := ⟨rfl, rfl, rfl, by decide +kernel, rfl, by decide +kernel, by decide +kernel⟩
theorem scKinds : FnScope ["value", "name", "kind"] ["value"] (defScope (topS 26)) := ⟨rfl, rfl, rfl, by decide +kernel, rfl, by decide +kernel, by decide +kernel⟩
theorem scReqK : FnScope ["formulas", "kinds", "formula", "lacking", "name"] ["formulas", "kinds"] (defScope (topS 27)) := ⟨rfl, rfl, rfl, by decide +kernel, rfl, by decide +kernel, by decide +kernel⟩
section
variable {P : Program} {w : World} {K : PySem.W.Frag} {mg : Str → Option Value} {base : Heap} {C : Addr} {iT iR : Nat}
def spReqF (K : PySem.W.Frag) (C : Addr) (iT : Nat) : Sp := fun vs H Q _ => ∃ v ts, vs = [v] ∧ FmAt K C iT (dl [] H) v ts ∧ Q .non H
theorem ok_reqF {f : Addr} {fd : FuncData} {k : Nat} (F : Fun K "require_formula" "require_formula" (topS 22) f fd) (M : Mg K mg) (c : FmC K C iT iR) (gC : mg "Formula" = some (.ref C)) (hk : PySem.W.kitOne K (.ref C) (.ref C) = some true) : FnOk P w K mg base CX0 (k + 1) f fd ["value"] (spReqF K C iT) := by
  refine F.ok scReqF (fun vs H Q E h => ?_) (fun cdv A outer s H vs Q E hr h => ?_)
  · obtain ⟨v, t, rfl, _⟩ := h
    rfl
  · obtain ⟨v, ts, rfl, ⟨a, dx, sl, tv, rfl, h1, h2, h3⟩, q⟩ := h
    refine ⟨_, pss_one (ps_if (pt_not (pt_val (pe_callB (SlX.call_isiSl (.ref C)) (by rfl) M.isi bt_isinstance (pa_cons (pv 0) (pa_cons (pe_glob (v := .ref C) (by rfl) gC rfl) pa_nil))))) pss_never pss_nil), ?_⟩
    exact ⟨.ref a, rfl, a, C, dx, sl, .ref C, true, rfl, rfl, fun _ r => r, slt_same (dl_le _ _) h1, c.cls, c.isi, hk, true, rfl, q⟩
def spKinds : Sp := fun vs H Q _ => ∃ v ks, vs = [v] ∧ KdAt H v ks ∧ OkKd ks ∧ ∀ H', Same H H' → Q (.bl true) H'
theorem ok_kinds {f fN : Addr} {fd fdN : FuncData} {k : Nat} (F : Fun K "are_kinds" "are_kinds" (topS 26) f fd) (M : Mg K mg) (GN : FnOk P w K mg base CX0 k fN fdN ["value"] spName) (kN : PySem.W.keepIn K (.ref fN) = true) (bN : Binds K fdN ["value"] []) (gN : mg "is_name" = some (.ref fN)) :
    FnOk P w K mg base CX0 (k + 1) f fd ["value"] spKinds := by
  refine F.ok scKinds (fun vs H Q E h => ?_) (fun cdv A outer s H vs Q E hr h => ?_)
  · obtain ⟨v, t, rfl, _⟩ := h
    rfl
  · obtain ⟨v, ks, rfl, ⟨d, rfl, hd⟩, ok, q⟩ := h
    obtain ⟨tf, ef⟩ := M.factor
    obtain ⟨tn, en⟩ := M.number
    have hlen : (kdV ks).length = ks.length := List.length_map _
    refine ⟨_, pss_cons (ps_if (PW.pt (pw_or (pt_not (pt_val (pe_callB call_isi (by rfl) M.isi bt_isinstance (pa_cons (pv 0) (pa_cons (pe_bltn (v := .ty "dict") (by rfl) M.dict bt_dict rfl) pa_nil)))))
          (pw_or1 (pt_not (pt_val (pe_lock (pe_callB (cr_all rfl) (by rfl) M.all bt_all (pa_cons (pe_lc (own := [("name", 1)]) rfl scKinds.nd (pi_keys (pv 0)) (blkOk_by (by kernel_rfl)) (fun s H C cl fp => pg_name (i := 1) scKinds.nd rfl (.inl rfl)) (fun s H C cl fp => pts_nil)
            (fun s H C cl fp => pe_call GN hr (by rfl) gN kN bN .nil pass0 (pa_cons (pv 1) pa_nil))) pa_nil)))))))) (pss_one (ps_ret pe_bl)) pss_nil)
      (pss_one (ps_ret (pe_lock (pe_callB (cr_all rfl) (by rfl) M.all bt_all (pa_cons (pe_lc (own := [("kind", 2)]) rfl scKinds.nd (pi_values (pv 0)) (blkOk_by (by kernel_rfl)) (fun s H C cl fp => pg_name (i := 2) scKinds.nd rfl (.inl rfl)) (fun s H C cl fp => pts_nil)
        (te := tAndV (tCB (rIsi K) (tCons (tVar 2) (tCons (tC (.ty "str")) tNil))) (tOp (rIn K false) (tVar 2) (tTup (tCons (tC (.str cF)) (tCons (tC (.str cN)) tNil)))))
        (fun s H C cl fp => pe_and (pe_callB call_isi (by rfl) M.isi bt_isinstance (pa_cons (pv 2) (pa_cons (pe_bltn (v := .ty "str") (by rfl) M.str bt_str rfl) pa_nil)))
          (pe_one (pe_cmpR op_in_seq (pv 2) (pe_tup (pa_cons (pe_glob (v := .str cF) (by rfl) ef ⟨_, rfl⟩) (pa_cons (pe_glob (v := .str cN) (by rfl) en ⟨_, rfl⟩) pa_nil))) (by rfl))))) pa_nil))))), ?_⟩
    refine ⟨.ref d, rfl, .ref d, .ty "dict", .type "dict", .type "dict", true, rfl, .ty _, .base (.dK hd), kit_ty (by decide +kernel), true, rfl, ?_⟩
    -- the keys
    refine ⟨d, _, hd, trivial, fun od => ?_⟩
    refine ⟨.ref d, rfl, d, od, rfl, .inl ⟨kdV ks, upd_same, fun D nD => ?_⟩⟩
    refine lc_it walk_keys (PvC [] K _ D fun i => List.replicate i (.bool true)) (pv0 nD rfl) (fun _ _ _ p => p.1 _ _ upd_same) (fun i v H2 H2' hi p y => ?_) fun H2 p => ?_
    · obtain ⟨rfl, kk, vv, e, rfl⟩ := y
      unfold kdV at e
      rw [List.getElem?_map] at e
      obtain ⟨pr, e1, e2⟩ := Option.map_eq_some_iff.1 e
      cases e2
      refine ⟨rfl, _, rfl, pr.1, rfl, ok.nm pr (List.mem_of_getElem? e1), fun H3 s3 => ?_⟩
      exact p.put nD s3 (.bl true) (List.replicate_succ' ..) (by rw [List.length_replicate]; exact small1000 (by have := ok.len; omega))
    · have s2 := lock_same hd p.1
      have e2 : H2 d = some (.frz od (.dK (kdV ks))) := p.1 _ _ upd_same
      refine ⟨D, _, rfl, all_true p, e2, true, by rw [all_rep], ?_⟩
      -- the values
      generalize hH : upd H2 d (.dK (kdV ks)) = H3 at s2
      have hd3 : H3 d = some (.dK (kdV ks)) := by rw [← hH]; exact upd_same
      refine ⟨d, _, hd3, trivial, fun od2 => ?_⟩
      refine ⟨.ref d, rfl, d, od2, kdV ks, rfl, upd_same, fun D' nD' => ?_⟩
      refine lc_it walk_values (PvC [] K _ D' fun i => List.replicate i (.bool true)) (pv0 nD' rfl) (fun _ _ _ p => p.1 _ _ upd_same) (fun i v H4 H4' hi p y => ?_) fun H4 p => ?_
      · obtain ⟨rfl, kk, e⟩ := y
        unfold kdV at e
        rw [List.getElem?_map] at e
        obtain ⟨pr, e1, e2⟩ := Option.map_eq_some_iff.1 e
        cases e2
        refine ⟨rfl, _, rfl, .str pr.2, .ty "str", .type "str", .type "str", true, rfl, .ty _, .base (.str _), kit_ty (by decide +kernel), true, rfl, ?_⟩
        refine ⟨.str pr.2, rfl, by decide, fun t nt => ⟨t, [cF, cN].map V.str, rfl, .inr (.inl (.inl upd_same)), rfl, flat_strs _, ?_⟩⟩
        rw [inV_str, decide_eq_true (show pr.2 ∈ [cF, cN] by have := ok.kd pr (List.mem_of_getElem? e1); simpa using this)]
        exact p.put nD' (up_same nt) (.bl true) (List.replicate_succ' ..) (by rw [List.length_replicate]; exact small1000 (by have := ok.len; omega))
      · have s4 := lock_same hd3 p.1
        have e4 : H4 d = some (.frz od2 (.dK (kdV ks))) := p.1 _ _ upd_same
        refine ⟨D', _, rfl, all_true p, e4, ?_⟩
        rw [all_rep]
        exact q _ (s2.trans s4)
/-- a property of the class -/
structure PropC (K : PySem.W.Frag) (C : Addr) (x : Str) (p g : Addr) : Prop where
  at_ : PySem.W.findIn K (.ref C) x = some (some (.ref p))
  get : PySem.W.specialIn K (.ref p) "__get__" = some (some (.builtin "property.__get__"))
  tk : PySem.W.takesIn K (.ref p) = some true
  rc : ∃ rest, PySem.W.recIn K p "property" = some (.ref g :: rest)
theorem raw0 {f : Addr} {fd : FuncData} {ps : List Str} {sp : Sp} {k : Nat} (F : FnOk P w K mg base CX0 k f fd ps sp) (b : Binds K fd ps []) : FnR P w K mg base CX0 k f sp :=
  (F.raw b .nil).imp fun vs H Q E h => by
    rw [List.append_nil]
    exact h
/-- every name of the terms has a kind -/
def InKd (ks : List (Str × Str)) (ts : List (List Str)) : Prop := ∀ t ∈ ts, ∀ y ∈ t, (ks.lookup y).isSome = true
def spReqK (K : PySem.W.Frag) (C : Addr) (iT : Nat) : Sp := fun vs H Q _ => ∃ a v ks, ∃ fs : List (V × List (List Str)), vs = [.ref a, v] ∧ SqL K H a (fs.map (·.1)) ∧ fs.length ≤ 10 ∧ (∀ p ∈ fs, FmAt K C iT (dl [] H) p.1 p.2 ∧ (∀ t ∈ p.2, t.length ≤ 9) ∧ p.2.length ≤ 100 ∧ InKd ks p.2) ∧
  KdAt H v ks ∧ OkKd ks ∧ ∀ H', Same H H' → Q .non H'
theorem fm_at {fs : List (V × List (List Str))} {i : Nat} {v : V} (h : (fs.map (·.1))[i]? = some v) : ∃ ts, (v, ts) ∈ fs := by
  rw [List.getElem?_map] at h
  obtain ⟨p, e, rfl⟩ := Option.map_eq_some_iff.1 h
  exact ⟨p.2, List.mem_of_getElem? e⟩
theorem ok_reqK {f fF fK fG pG : Addr} {fd fdF fdK fdG : FuncData} {k : Nat} (F : Fun K "require_kinds" "require_kinds" (topS 27) f fd) (M : Mg K mg) (c : FmC K C iT iR)
    (GF : FnOk P w K mg base CX0 k fF fdF ["value"] (spReqF K C iT)) (kF : PySem.W.keepIn K (.ref fF) = true) (bF : Binds K fdF ["value"] []) (gF : mg "require_formula" = some (.ref fF))
    (GK : FnOk P w K mg base CX0 k fK fdK ["value"] spKinds) (kK : PySem.W.keepIn K (.ref fK) = true) (bK : Binds K fdK ["value"] []) (gK : mg "are_kinds" = some (.ref fK))
    (GG : FnOk P w K mg base CX0 k fG fdG ["self"] (spGetN K C iT)) (bG : Binds K fdG ["self"] []) (pc : PropC K C "names" pG fG) :
    FnOk P w K mg base CX0 (k + 2) f fd ["formulas", "kinds"] (spReqK K C iT) := by
  refine F.ok scReqK (fun vs H Q E h => ?_) (fun cdv A outer s H vs Q E hr' h => ?_)
  · obtain ⟨a, v, ks, fs, rfl, _⟩ := h
    rfl
  · obtain ⟨a, v, ks, fs, rfl, ha, h10, hf, hk, ok, q⟩ := h
    have hr := hr'.mono (Nat.le_succ k)
    obtain ⟨d, rfl, hd⟩ := hk
    refine ⟨_, pss_cons (ps_for PassesOwn.never rfl (pi_list (pv 0)) (pg_name (i := 2) scReqK.nd rfl (.inl rfl)) (pss_one (ps_expr (pe_call GF hr (by rfl) gF kF bF .nil pass0 (pa_cons (pv 2) pa_nil)))))
      (pss_cons (ps_if (pt_not (pt_val (pe_call GK hr (by rfl) gK kK bK .nil pass0 (pa_cons (pv 1) pa_nil)))) pss_never pss_nil)
      (pss_cons (ps_setLc2 (i := 3) (own := [("formula", 2), ("name", 4)]) (vs1 := [4]) (wi1 := iTup K (SlX.tPropSl C (spGetN K C iT) E0 (tVar 2))) (tt1 := tB (tDNotIn (tVar 4) (tVar 1))) rfl scReqK.nd rfl rfl (sw_true rfl rfl rfl rfl) (pi_list (pv 0)) (blkOk_by (by kernel_rfl)) (by decide)
        (fun s H C cl fp => pg_name (i := 2) scReqK.nd rfl (.inl rfl)) (fun s H C cl fp => pts_nil) (fun s H C' cl fp => pi_tup (SlX.pe_propSl (pv 2) c.cls pc.at_ pc.get pc.tk pc.rc (raw0 GG bG) hr' (fun _ _ _ _ h => h.elim)))
        (fun s H C cl fp => pg_name (i := 4) scReqK.nd rfl (.inl rfl)) (fun s H C cl fp => pts_one (pt_cmp (pc_dnotin (hu_of hr) (pv 4) (pv 1)) (by rfl))) (fun s H C cl fp => pv 4))
      (pss_one (ps_if (pt_cmpR (op_neD hr.units) (pv 3) (pe_lst pa_nil) (nomark _)) pss_never pss_nil)))), ?_⟩
    -- each is a formula
    refine ⟨.ref a, rfl, a, rfl, ⟨_, ha⟩, ?_⟩
    refine for_list (fun i σ H2 => H2 = H ∧ ∃ y, σ = [some (.ref a), some (.ref d), y, none, none]) ⟨rfl, _, rfl⟩ (fun i σ H2 _ p => by rw [p.1]; exact ha) (fun i v σ H2 e p => ?_) fun σ H2 p => ?_
    · obtain ⟨rfl, y, rfl⟩ := p
      obtain ⟨ts, hm⟩ := fm_at e
      obtain ⟨h1, _⟩ := hf _ hm
      exact ⟨v, rfl, v, ts, rfl, h1, rfl, _, rfl⟩
    · obtain ⟨rfl, y, rfl⟩ := p
      -- are_kinds(kinds)
      refine ⟨.ref d, rfl, .ref d, ks, rfl, ⟨d, rfl, hd⟩, ok, fun H1 s1 => ⟨true, rfl, ?_⟩⟩
      -- lacking
      have ha1 : SqL K H1 a (fs.map (·.1)) := s1.seq ha
      refine ⟨.ref a, rfl, a, rfl, ⟨_, ha1⟩, fun D nD => ?_⟩
      have nd : D ≠ d := fun z => by
        rw [z, s1 _ _ hd] at nD
        cases nD
      refine ⟨fun i m H3 => m = (fs.map (·.1)).length - i ∧ i ≤ (fs.map (·.1)).length ∧ Same H1 H3 ∧ H3 D = some (.lst []), ⟨(fs.map (·.1)).length, by simp, Nat.zero_le _, up_same nD, upd_same⟩, ?_⟩
      rintro i m H3 ⟨rfl, hi, s3, e3⟩
      have ha3 : SqL K H3 a (fs.map (·.1)) := s3.seq ha1
      by_cases hlt : i < (fs.map (·.1)).length
      · refine .inr ⟨⟨_, _, ha3, List.getElem?_eq_getElem hlt⟩, fun H' => Same H1 H' ∧ H' D = some (.lst []), fun H' p' => ⟨(fs.map (·.1)).length - (i + 1), by omega, rfl, hlt, p'⟩, fun x H' y => ?_⟩
        obtain ⟨rfl, y⟩ := y
        obtain ⟨ts, hm⟩ := fm_at (y _ ha3)
        obtain ⟨h1, h2, h3, h4⟩ := hf _ hm
        obtain ⟨ob, dx, sl, tv, rfl, z1, z2, z3⟩ := h1
        have sm : Same (dl [] H2) (dl [] H') := dl_same (s1.trans s3)
        refine ⟨rfl, _, rfl, ob, dx, sl, rfl, slt_same (dl_le _ _) (slt_same sm z1), .ref ob, ts, rfl, ⟨ob, dx, sl, tv, rfl, slt_same sm z1, z2, dp_same sm z3⟩, h2, h3, fun zs H4 p s4 mem hp => ?_⟩
        -- its names
        refine ⟨p, rfl, ⟨_, .inl (.inl hp)⟩, ?_⟩
        refine ⟨fun j k H5 => k = zs.length - j ∧ j ≤ zs.length ∧ Same H4 H5, ⟨zs.length, by simp, Nat.zero_le _, Same.refl _⟩, ?_⟩
        rintro j k H5 ⟨rfl, hj, s5⟩
        have hp5 : SqT K H5 p (zs.map V.str) := .inl (.inl (s5 _ _ hp))
        have all5 : Same H1 H5 := (s3.trans s4).trans s5
        by_cases hlt2 : j < zs.length
        · refine .inr ⟨⟨_, .str zs[j], hp5, by rw [List.getElem?_map, List.getElem?_eq_getElem hlt2]; rfl⟩, fun H' => Same H4 H', fun H' p' => ⟨zs.length - (j + 1), by omega, rfl, hlt2, p'⟩, fun x H6 y => ?_⟩
          obtain ⟨rfl, y⟩ := y
          have ex := y _ hp5
          rw [List.getElem?_map, List.getElem?_eq_getElem hlt2] at ex
          obtain rfl : V.str zs[j] = x := Option.some.inj ex
          have hd6 : H6 d = some (.dK (kdV ks)) := all5 _ _ (s1 _ _ hd)
          obtain ⟨t, ht, hy⟩ := (mem zs[j]).1 (List.getElem_mem hlt2)
          have hl := h4 t ht _ hy
          refine ⟨rfl, .str zs[j], rfl, .ref d, rfl, d, valV (kdV ks) (.inr zs[j]), rfl, .inl ⟨_, _, .inl hd6, rfl, rfl⟩, _, rfl, ?_⟩
          have e : ((valV (kdV ks) (.inr zs[j])).isSome) = true := by
            rw [kd_val, Option.isSome_map]
            exact hl
          rw [e]
          exact s5
        · refine .inl ⟨⟨_, hp5, by rw [List.length_map]; omega⟩, all5, ?_⟩
          exact s5 _ _ (s4 _ _ e3)
      · have e : i = (fs.map (·.1)).length := by omega
        subst e
        refine .inl ⟨⟨_, ha3, Nat.le_refl _⟩, ?_⟩
        refine ⟨.ref D, rfl, by decide, fun l nl => ⟨.list [], .list [], .lst (.inl (.inl (up_same nl _ _ e3))) .nil, .lst (.inl (.inl upd_same)) .nil, rfl, rfl, _, rfl, ?_⟩⟩
        exact q _ ((s1.trans s3).trans (up_same nl))
end
end Kt
/-! pair_of, parts_of, in_order, pairs_in, shadow_of, is_alike -/
namespace Kt
open PySem PySem.Spec PyProof.Rows L2
/-! ### plain -/
def numsK (ks : List (Str × Str)) (t : List Str) : List Str := t.filter fun y => ks.lookup y == some cN
def facsK (ks : List (Str × Str)) (t : List Str) : List Str := t.filter fun y => ks.lookup y == some cF
def partsOf (fs : List Str) : List (List Str) := fs.foldl (fun found x => found ++ found.map (· ++ [x])) [[]]
theorem parts_snoc (fs : List Str) (x : Str) : partsOf (fs ++ [x]) = partsOf fs ++ (partsOf fs).map (· ++ [x]) := by
  unfold partsOf
  rw [List.foldl_append]
  rfl
theorem parts_len (fs : List Str) : (partsOf fs).length = 2 ^ fs.length := by
  rw [← List.reverse_reverse fs]
  induction fs.reverse with
  | nil => rfl
  | cons x l ih =>
    rw [List.reverse_cons, parts_snoc, List.length_append, List.length_map, ih, List.length_append, List.length_singleton, Nat.pow_succ]
    omega
theorem parts_mem (fs p : List Str) : p ∈ partsOf fs ↔ p.Sublist fs := by
  rw [← List.reverse_reverse fs]
  induction fs.reverse generalizing p with
  | nil =>
    show p ∈ [[]] ↔ p.Sublist []
    rw [List.mem_singleton, List.sublist_nil]
  | cons x l ih =>
    rw [List.reverse_cons, parts_snoc, List.mem_append, ih, List.mem_map, List.sublist_append_iff]
    constructor
    · rintro (h | ⟨q, hq, rfl⟩)
      · exact ⟨p, [], by simp, h, List.nil_sublist _⟩
      · exact ⟨q, [x], rfl, (ih q).1 hq, List.Sublist.refl _⟩
    · rintro ⟨l1, l2, rfl, h1, h2⟩
      cases h2 with
      | cons _ h2 =>
        rw [List.sublist_nil.1 h2, List.append_nil]
        exact .inl h1
      | cons_cons _ h2 =>
        rw [List.sublist_nil.1 h2]
        exact .inr ⟨l1, (ih l1).2 h1, rfl⟩
/-- the pair q is in the shadow of the terms -/
def InSh (ks : List (Str × Str)) (ts : List (List Str)) (q : Pr) : Prop := ∃ t ∈ ts, q.1 = numsK ks t ∧ q.2.Sublist (facsK ks t)
theorem nodup_perm {α : Type} {l m : List α} (hl : l.Nodup) (hm : m.Nodup) (h : ∀ q, q ∈ l ↔ q ∈ m) : l.Perm m := (List.perm_ext_iff_of_nodup hl hm).2 h
theorem shadow_one {l m : List Pr} (hl : l.Nodup) (hm : m.Nodup) (h : ∀ q, q ∈ l ↔ q ∈ m) : shadow l = shadow m := srt_perm inj_tr (nodup_perm hl hm h)
/-- the shadow, in its order -/
def IsSh (ks : List (Str × Str)) (ts : List (List Str)) (sh : List Pr) : Prop := ∃ l : List Pr, l.Nodup ∧ (∀ q, q ∈ l ↔ InSh ks ts q) ∧ sh = shadow l
theorem IsSh.one {ks : List (Str × Str)} {ts : List (List Str)} {a b : List Pr} (ha : IsSh ks ts a) (hb : IsSh ks ts b) : a = b := by
  obtain ⟨l, h1, h2, rfl⟩ := ha
  obtain ⟨m, h3, h4, rfl⟩ := hb
  exact shadow_one h1 h3 fun q => (h2 q).trans (h4 q).symm
theorem IsSh.mem {ks : List (Str × Str)} {ts : List (List Str)} {a : List Pr} (ha : IsSh ks ts a) (q : Pr) : q ∈ a ↔ InSh ks ts q := by
  obtain ⟨l, h1, h2, rfl⟩ := ha
  exact srt_mem.trans (h2 q)
theorem filter_len {t : List Str} {p : Str → Bool} (h : t.length ≤ 9) : (t.filter p).length ≤ 9 := Nat.le_trans (List.length_filter_le _ _) h
theorem scPair : FnScope ["term", "kinds", "numbers", "name"] ["term", "kinds"] (defScope (topS 28)) := ⟨rfl, rfl, rfl, by decide +kernel, rfl, by decide +kernel, by decide +kernel⟩
theorem scParts : FnScope ["names", "found", "name", "part"] ["names"] (defScope (topS 29)) := ⟨rfl, rfl, rfl, by decide +kernel, rfl, by decide +kernel, by decide +kernel⟩
section
variable {P : Program} {w : World} {K : PySem.W.Frag} {mg : Str → Option Value} {base : Heap} {C : Addr} {iT iR : Nat}
def HasKd (ks : List (Str × Str)) (t : List Str) : Prop := ∀ y ∈ t, (ks.lookup y).isSome = true
def spPair (K : PySem.W.Frag) : Sp := fun vs H Q _ => ∃ cs tv kv t ks, vs = [tv, kv] ∧ Ne cs H ∧ Dp K (dl cs H) tv (tm t) ∧ KdAt H kv ks ∧ HasKd ks t ∧ t.length ≤ 9 ∧ ∀ H' p, Same H H' → Dp K (dl cs H') (.ref p) (prD (numsK ks t, facsK ks t)) → Q (.ref p) H'
/-- [name for name in term if kinds[name] == c] -/
theorem pick_kind {H1 : Hp} {σ : L2.St} {a d D : Addr} {t : List Str} {ks : List (Str × Str)} {cc : Str} {Qd : Hp → Prop} (ha : SqT K H1 a (t.map V.str)) (hd : H1 d = some (.dK (kdV ks))) (hk : HasKd ks t) (h9 : t.length ≤ 9) (nD : H1 D = none) (l0 : σ.length = 4) (s1 : σ[1]? = some (some (.ref d)))
    (fin : ∀ H acc, Same H1 H → H D = some (.lst acc) → acc = (t.filter fun y => ks.lookup y == some cc).map V.str → Qd H) :
    ∃ W : Nat → Nat → Hp → Prop, (∃ m, W 0 m (upd H1 D (.lst []))) ∧ ∀ i m H, W i m H →
      ((Itt K a).stop i H ∧ Qd H) ∨ ((Itt K a).go i H ∧ ∃ Nx : Hp → Prop, (∀ H', Nx H' → ∃ m', m' < m ∧ W (i + 1) m' H') ∧ ∀ x H', (Itt K a).yld i H x H' → gName 3 x (wipe σ [3]) H' fun σ2 H2 => wipe σ2 [3] = wipe σ [3] ∧
        tTest (tOp rEq (tDGet (tVar 1) (tVar 3)) (tC (.str cc))) σ2 H2 fun b H3 => if b = true then tVar 3 σ2 H3 fun y H4 => ∃ acc, H4 D = some (.lst acc) ∧ acc.length < sizeLine ∧ Nx (upd H4 D (.lst (acc ++ [y]))) else Nx H3) := by
  refine lc_tup (PvC [] K H1 D fun i => ((t.take i).filter fun y => ks.lookup y == some cc).map PyData.str) (pv0 nD rfl) (fun i H _ p => p.tup ha) (fun i v H e p => ?_) fun H p => ?_
  · obtain ⟨x, e1, rfl⟩ : ∃ x, t[i]? = some x ∧ v = .str x := by
      rw [List.getElem?_map] at e
      obtain ⟨x, e1, e2⟩ := Option.map_eq_some_iff.1 e
      exact ⟨x, e1, e2.symm⟩
    have hl := hk x (List.mem_of_getElem? e1)
    obtain ⟨z, hz⟩ := Option.isSome_iff_exists.1 hl
    have w1 : (wipe σ [3])[1]? = some (some (.ref d)) := (wipe_out (by decide)).trans s1
    have wl : (wipe σ [3]).length = 4 := by rw [wipe_length, l0]
    have g3 : ((wipe σ [3]).set 3 (some (V.str x)))[3]? = some (some (.str x)) := List.getElem?_set_self (by omega)
    have g1 : ((wipe σ [3]).set 3 (some (V.str x)))[1]? = some (some (.ref d)) := by rw [List.getElem?_set_ne (by decide)]; exact w1
    have hd2 : H d = some (.dK (kdV ks)) := p.1 _ _ hd
    refine ⟨?_, .ref d, g1, .str x, g3, d, .str z, rfl, .inl ⟨_, .inr x, .inl hd2, rfl, ?_⟩, rfl, _, rfl, ite2 (fun h => ?_) fun h => ?_⟩
    · show ((σ.set 3 none).set 3 (some (V.str x))).set 3 none = σ.set 3 none
      rw [List.set_set, List.set_set]
    · rw [kd_val, hz]
      rfl
    · have ez : z = cc := V.str.inj (of_decide_eq_true h)
      refine ⟨.str x, g3, ?_⟩
      refine p.put nD (Same.refl _) (.str x) (take_filter_yes e1 (by rw [hz, ez]; simp)) ?_
      rw [List.length_map]
      refine Nat.lt_of_le_of_lt (List.length_filter_le _ _) (small1000 ?_)
      rw [List.length_take]
      omega
    · have ez : z ≠ cc := fun z' => h (decide_eq_true (by rw [z']))
      exact p.skip (Same.refl _) (take_filter_no e1 (by rw [hz]; simp [ez]))
  · obtain ⟨s2, acc, e, g⟩ := p
    rw [List.length_map] at g
    have g : DpAll K (dl [D] H) acc (((t.take t.length).filter fun y => ks.lookup y == some cc).map PyData.str) := g
    rw [List.take_length] at g
    exact fin H acc s2 e (dps_str g)
theorem ok_pair {f : Addr} {fd : FuncData} {k : Nat} (F : Fun K "pair_of" "pair_of" (topS 28) f fd) (M : Mg K mg) : FnOk P w K mg base CX0 (k + 1) f fd ["term", "kinds"] (spPair K) := by
  refine F.ok scPair (fun vs H Q E h => ?_) (fun cdv A outer s H vs Q E hr h => ?_)
  · obtain ⟨cs, tv, kv, t, ks, rfl, _⟩ := h
    rfl
  · obtain ⟨cs, tv, kv, t, ks, rfl, nec, ht, ⟨d, rfl, hd⟩, hk, h9, q⟩ := h
    obtain ⟨a, rfl, hta⟩ := dp_tm ht
    have ha : SqT K H a (t.map V.str) := same_tup (dl_le _ _) hta
    obtain ⟨tf, ef⟩ := M.factor
    obtain ⟨tn, en⟩ := M.number
    refine ⟨_, pss_cons (ps_setLc (i := 2) (own := [("name", 3)]) (tt := tTest (tOp rEq (tDGet (tVar 1) (tVar 3)) (tC (.str cN)))) rfl scPair.nd rfl rfl (sw_true rfl rfl rfl rfl) (pi_tup (pv 0)) (blkOk_by (by kernel_rfl)) (fun s H C cl fp => pg_name (i := 3) scPair.nd rfl (.inl rfl))
        (fun s H C cl fp => pts_one (pt_cmpR op_eq (pe_dget (hu_of hr) (pv 1) (pv 3) (fun _ _ => rfl)) (pe_glob (v := .str cN) (by rfl) en ⟨_, rfl⟩) (nomark _))) (fun s H C cl fp => pv 3))
      (pss_one (ps_ret (pe_tup (pa_cons (pe_callTy call_tuple_of (by rfl) M.tuple bt_tuple (pa_cons (pv 2) pa_nil)) (pa_cons (pe_callTy call_tuple_of (by rfl) M.tuple bt_tuple (pa_cons (pe_lc (own := [("name", 3)]) (tt := tTest (tOp rEq (tDGet (tVar 1) (tVar 3)) (tC (.str cF)))) rfl scPair.nd (pi_tup (pv 0)) (blkOk_by (by kernel_rfl))
        (fun s H C cl fp => pg_name (i := 3) scPair.nd rfl (.inl rfl)) (fun s H C cl fp => pts_one (pt_cmpR op_eq (pe_dget (hu_of hr) (pv 1) (pv 3) (fun _ _ => rfl)) (pe_glob (v := .str cF) (by rfl) ef ⟨_, rfl⟩) (nomark _))) (fun s H C cl fp => pv 3)) pa_nil)) pa_nil))))), ?_⟩
    refine ⟨.ref a, rfl, a, rfl, ⟨_, ha⟩, fun D nD => ?_⟩
    refine pick_kind (cc := cN) ha hd hk h9 nD rfl rfl fun H2 acc s2 e2 ea => ?_
    subst ea
    -- the tuple of the numbers
    refine ⟨.ref D, rfl, D, _, rfl, .inl ⟨.inl (.inl e2), fun n nn => ?_⟩⟩
    have s3 := s2.trans (up_same (o := .tup ((t.filter fun y => ks.lookup y == some cN).map V.str)) nn)
    refine ⟨.ref a, rfl, a, rfl, ⟨_, same_tup s3 ha⟩, fun D' nD' => ?_⟩
    refine pick_kind (cc := cF) (same_tup s3 ha) (s3 _ _ hd) hk h9 nD' rfl rfl fun H4 acc s4 e4 ea => ?_
    subst ea
    refine ⟨D', _, rfl, .inl ⟨.inl (.inl e4), fun m nm => ?_⟩⟩
    refine ⟨by show 2 ≤ sizeLine; decide, fun p np => ?_⟩
    have s5 := (s3.trans s4).trans (up_same (o := .tup ((t.filter fun y => ks.lookup y == some cF).map V.str)) nm)
    refine q _ p (s5.trans (up_same np)) ?_
    have hn : (upd H4 m (.tup ((t.filter fun y => ks.lookup y == some cF).map V.str))) n = some (.tup ((t.filter fun y => ks.lookup y == some cN).map V.str)) := up_same nm _ _ (s4 _ _ upd_same)
    refine dp_tupN (nec.same s5) np (.cons ?_ (.cons ?_ .nil))
    · exact dp_tm_of (.inl (.inl (dl_at hn ((nec.same s2).not nn) rfl)))
    · exact dp_tm_of (.inl (.inl (dl_at upd_same ((nec.same (s3.trans s4)).not nm) rfl)))
def spParts (K : PySem.W.Frag) : Sp := fun vs H Q _ => ∃ cs v fs, vs = [v] ∧ Ne cs H ∧ Dp K (dl cs H) v (tm fs) ∧ fs.length ≤ 9 ∧ ∀ H' l xs, Same H H' → H l = none → H' l = some (.lst xs) → DpAll K (dl cs H') xs ((partsOf fs).map tm) → Q (.ref l) H'
theorem pow9 {n : Nat} (h : n ≤ 9) : 2 ^ n ≤ 512 := Nat.pow_le_pow_right (by decide) h
theorem ok_parts {f : Addr} {fd : FuncData} {k : Nat} (F : Fun K "parts_of" "parts_of" (topS 29) f fd) (M : Mg K mg) : FnOk P w K mg base CX0 (k + 1) f fd ["names"] (spParts K) := by
  refine F.ok scParts (fun vs H Q E h => ?_) (fun cdv A outer s H vs Q E hr h => ?_)
  · obtain ⟨cs, v, fs, rfl, _⟩ := h
    rfl
  · obtain ⟨cs, v, fs, rfl, nec, hv, h9, q⟩ := h
    obtain ⟨a, rfl, hta⟩ := dp_tm hv
    have ha : SqT K H a (fs.map V.str) := same_tup (dl_le _ _) hta
    refine ⟨_, pss_cons (ps_set (i := 1) scParts.nd rfl (.inl rfl) (pe_lst (pa_cons (pe_tup pa_nil) pa_nil)))
      (pss_cons (ps_for PassesOwn.never rfl (pi_tup (pv 0)) (pg_name (i := 2) scParts.nd rfl (.inr rfl)) (pss_one (ps_set (i := 1) scParts.nd rfl (.inl rfl) (pe_op op_cat (pv 1) (pe_lc (own := [("part", 3)]) (te := tTup (StX.tStar K (tVar 3) (tCons (tVar 2) tNil))) rfl scParts.nd (pi_list (pv 1)) (blkOk_by (by kernel_rfl))
        (fun s H C cl fp => pg_name (i := 3) scParts.nd rfl (.inl rfl)) (fun s H C cl fp => pts_nil) (fun s H C cl fp => pe_tup (StX.pa_star (pv 3) (pa_cons (pv 2) pa_nil))))))))
      (pss_one (ps_ret (pv 1)))), ?_⟩
    refine ⟨Nat.zero_le _, fun e ne => ⟨by show 1 ≤ sizeLine; decide, fun l nl => ?_⟩⟩
    refine ⟨.ref a, rfl, a, rfl, ⟨_, same_tup ((up_same ne).trans (up_same nl)) ha⟩, ?_⟩
    refine for_tup (xs := fs.map V.str) (fun i σ H2 => ∃ l y xs, σ = [some (.ref a), some (.ref l), y, none] ∧ Same H H2 ∧ H l = none ∧ H2 l = some (.lst xs) ∧ DpAll K (dl cs H2) xs ((partsOf (fs.take i)).map tm))
      ⟨l, none, [.ref e], rfl, (up_same ne).trans (up_same nl), (up_same ne).free nl, upd_same, dps_same (dl_up nl) (dps_one (dp_tm_of (t := []) (.inl (.inl (dl_at upd_same (nec.not ne) rfl)))))⟩ (fun i σ H2 _ p => ?_) (fun i v σ H2 ev p => ?_) fun σ H2 p => ?_
    · obtain ⟨_, _, _, _, s2, _, _⟩ := p
      exact same_tup s2 ha
    · obtain ⟨l, y, xs, rfl, s2, nl0, el, g⟩ := p
      obtain ⟨x, e1, rfl⟩ : ∃ x, fs[i]? = some x ∧ v = .str x := by
        rw [List.getElem?_map] at ev
        obtain ⟨x, e1, e2⟩ := Option.map_eq_some_iff.1 ev
        exact ⟨x, e1, e2.symm⟩
      have hi : i < fs.length := (List.getElem?_eq_some_iff.1 e1).1
      have plen : (partsOf (fs.take i)).length ≤ 512 := by
        rw [parts_len, List.length_take]
        exact pow9 (by omega)
      have xlen : xs.length = (partsOf (fs.take i)).length := by
        have := dps_len g
        rw [List.length_map] at this
        exact this
      refine ⟨.ref l, rfl, .ref l, rfl, l, rfl, ⟨xs, .inl (.inl el)⟩, fun D nD => ?_⟩
      refine lc_list (xs := xs) (PvC cs K H2 D fun j => (((partsOf (fs.take i)).take j).map (· ++ [x])).map tm) (pv0 nD rfl) (fun j H3 _ p => p.seq (.inl (.inl el))) (fun j v H3 ej p => ?_) fun H3 p => ?_
      · obtain ⟨t, et, dt⟩ := dps_map_at g ej
        obtain ⟨b, rfl, hb⟩ := dp_tm dt
        have hb3 : SqT K H3 b (t.map V.str) := same_tup (fun c o h => p.1 c o (dl_le _ _ c o h)) hb
        have tlen : t.length ≤ 9 := by
          have h1 := (parts_mem (fs.take i) t).1 (List.mem_of_getElem? et)
          have h2 := h1.length_le
          rw [List.length_take] at h2
          omega
        refine ⟨rfl, .ref b, rfl, b, _, rfl, .inl hb3, .str x, rfl, ?_, fun m nm => ?_⟩
        · rw [List.length_append, List.length_map]
          exact Nat.le_of_lt (small1000 (by show t.length + 1 ≤ 1000; omega))
        · refine p.put nD (up_same nm) (d := tm (t ++ [x])) (dp_tm_of (.inl (.inl ?_))) ?_ ?_
          · have e : ((t ++ [x]).map V.str) = t.map V.str ++ [V.str x] := by simp
            rw [e]
            exact dl_at upd_same ((p.ne (nec.same s2)).not nm) rfl
          · rw [List.map_map, List.map_map]
            exact take_map_succ (f := tm ∘ (· ++ [x])) et
          · rw [List.length_map, List.length_map, List.length_take]
            exact small1000 (by omega)
      · obtain ⟨s3, acc, eD, gD⟩ := p
        rw [xlen] at gD
        have gD : DpAll K (dl (D :: cs) H3) acc ((((partsOf (fs.take i)).take (partsOf (fs.take i)).length).map (· ++ [x])).map tm) := gD
        rw [List.take_length] at gD
        have alen : acc.length = (partsOf (fs.take i)).length := by
          have := dps_len gD
          rw [List.length_map, List.length_map] at this
          exact this
        refine ⟨l, D, xs, acc, rfl, rfl, s3 _ _ el, eD, by have := sizeLine_eq; omega, fun m nm => ?_⟩
        refine ⟨m, some (.str x), xs ++ acc, rfl, (s2.trans s3).trans (up_same nm), (s2.trans s3).free nm, upd_same, ?_⟩
        have e : fs.take (i + 1) = fs.take i ++ [x] := by
          rw [List.take_add_one, e1]
          rfl
        rw [e, parts_snoc, List.map_append]
        exact dps_same (dl_up nm) (dps_app (dps_same (dl_same s3) g) (dps_same dl_less gD))
    · obtain ⟨l, y, xs, rfl, s2, nl0, el, g⟩ := p
      rw [List.length_map, List.take_length] at g
      exact ⟨.ref l, rfl, q H2 l xs s2 nl0 el g⟩
end
end Kt
/-! in_order, pairs_in, shadow_of, is_alike -/
namespace Kt
open PySem PySem.Spec PyProof.Rows L2
theorem scIn : FnScope ["pairs"] ["pairs"] (defScope (topS 30)) := ⟨rfl, rfl, rfl, by decide +kernel, rfl, by decide +kernel, by decide +kernel⟩
theorem scPairs : FnScope ["terms", "kinds", "found", "term", "numbers", "factors", "part"] ["terms", "kinds"] (defScope (topS 31)) := ⟨rfl, rfl, rfl, by decide +kernel, rfl, by decide +kernel, by decide +kernel⟩
theorem scShad : FnScope ["formula", "kinds"] ["formula", "kinds"] (defScope (topS 32)) := ⟨rfl, rfl, rfl, by decide +kernel, rfl, by decide +kernel, by decide +kernel⟩
theorem scAlike : FnScope ["one", "other", "kinds"] ["one", "other", "kinds"] (defScope (topS 33)) := ⟨rfl, rfl, rfl, by decide +kernel, rfl, by decide +kernel, by decide +kernel⟩
theorem kd_dl {cs : List Addr} {H : Hp} {v : V} {ks : List (Str × Str)} (h : KdAt (dl cs H) v ks) : KdAt H v ks := h.same (dl_le _ _)
/-- the tables of code objects that a def with a lambda leans on -/
abbrev TbL (P : Addr) : List (Addr × Str) := [(P, "in_order.<locals>.<lambda>")]
section
variable {P : Program} {w : World} {K : PySem.W.Frag} {mg : Str → Option Value} {base : Heap} {C : Addr} {iT iR : Nat} {T : List (Addr × Str)}
def shD (sh : List Pr) : PyData := .tuple (sh.map prD)
def spIn (K : PySem.W.Frag) (T : List (Addr × Str)) : Sp := fun vs H Q _ => ∃ cs l xs, ∃ ps : List Pr, vs = [.ref l] ∧ Ne cs H ∧ H l = some (.lst xs) ∧ DpAll K (dl cs H) xs (ps.map prD) ∧ (∀ q ∈ ps, SmallPr q) ∧ ps.length ≤ 1000 ∧ LamX.Tabs T H ∧
  ∀ H' p, LamX.ExtN H H' → LamX.Tabs T H' → Dp K (dl cs H') (.ref p) (shD (shadow ps)) → Q (.ref p) H'
theorem ok_in {f cT PT : Addr} {fd : FuncData} {k : Nat} (F : Fun K "in_order" "in_order" (topS 30) f fd) (M : Mg K mg) (TB : LamX.TabB base mg cT PT) (hcd : ∀ oc dV kV doc pm an cdv ct osl od, fd = PySem.W.fnOf "in_order" "in_order" (defArgs (topS 30)) (defBody (topS 30)) (defScope (topS 30)) dV kV doc pm an cdv ct → K.lookup f = some ⟨oc, od, .func fd, osl⟩ → cdv = .ref cT)
    (hmT : (PT, ("in_order.<locals>.<lambda>" : Str)) ∈ T) (hu : ∀ p ∈ T, p.1 = PT → p.2 = ("in_order.<locals>.<lambda>" : Str)) : FnOk P w K mg base CX0 (k + 1) f fd ["pairs"] (spIn K T) := by
  obtain ⟨oc, od, kV, doc, pm, an, cdv, ct, osl, efd, lk, hcode⟩ := F.ex
  have ecd := hcd _ _ _ _ _ _ _ _ _ _ efd lk
  subst ecd
  subst efd
  refine fn_of lk hcode scIn (fun vs H Q E h => ?_) fun A outer s H vs Q E hr h => ?_
  · obtain ⟨cs, l, xs, ps, rfl, _⟩ := h
    rfl
  · obtain ⟨cs, l, xs, ps, rfl, nec, hl, hx, small, few, hT, q⟩ := h
    refine ⟨_, PSs.nox (pss_one (ps_ret (pe_callTy call_tuple_of (by rfl) M.tuple bt_tuple (pa_cons (pe_sortedLam (T := T) (by rfl) M.sorted M.len (pa_cons (pv 0) pa_nil) hr TB rfl hmT hu) pa_nil)))), ?_⟩
    refine ⟨.ref l, rfl, hT, fun H2 ex hT2 => ⟨l, xs, ps, dl cs H2, rfl, .inl (.inl (ex _ _ hl fun _ z => by cases z)), dl_le _ _, dps_same (ext_dl ex) hx, small, few, fun ys p dys np => ?_⟩⟩
    refine ⟨p, ys, rfl, .inl ⟨.inl (.inl upd_same), fun m nm => ?_⟩⟩
    refine q _ m ?_ ?_ ?_
    · exact (ex.trans (LamX.ExtN.of (up_same np))).trans (LamX.ExtN.of (up_same nm))
    · exact (hT2.ext (up_same np)).ext (up_same nm)
    · exact dp_tupN ((nec.ext ex).same (up_same np)) nm (dps_same (dl_up np) dys)
/-! data never lean on a dict -/
mutual
theorem dp_skip {cs : List Addr} {H : Hp} {d : Addr} (n : ∀ xs, H d ≠ some (.lst xs) ∧ H d ≠ some (.tup xs)) (n2 : ∀ o u, H d ≠ some (.frz o u)) : ∀ {e : PyData} {v : V}, Dp K (dl cs H) v e → Dp K (dl (d :: cs) H) v e
  | _, _, .non => .non
  | _, _, .bl b => .bl b
  | _, _, .int i => .int i
  | _, _, .str x => .str x
  | _, _, .lst h g => .lst (by
    rcases h with (h | ⟨o, h⟩) | h
    · obtain ⟨h1, h2, h3⟩ := dl_some.1 h
      exact .inl (.inl (dl_some.2 ⟨fun z => (List.mem_cons.1 z).elim (fun e => (n _).1 (by rw [← e]; exact h2)) h1, h2, h3⟩))
    · obtain ⟨h1, h2, h3⟩ := dl_some.1 h
      exact .inl (.inr ⟨o, dl_some.2 ⟨fun z => (List.mem_cons.1 z).elim (fun e => n2 _ _ (by rw [← e]; exact h2)) h1, h2, h3⟩⟩)
    · exact .inr h) (dps_skip n n2 g)
  | _, _, .tup h g => .tup (by
    rcases h with (h | ⟨o, h⟩) | h
    · obtain ⟨h1, h2, h3⟩ := dl_some.1 h
      exact .inl (.inl (dl_some.2 ⟨fun z => (List.mem_cons.1 z).elim (fun e => (n _).2 (by rw [← e]; exact h2)) h1, h2, h3⟩))
    · obtain ⟨h1, h2, h3⟩ := dl_some.1 h
      exact .inl (.inr ⟨o, dl_some.2 ⟨fun z => (List.mem_cons.1 z).elim (fun e => n2 _ _ (by rw [← e]; exact h2)) h1, h2, h3⟩⟩)
    · exact .inr h) (dps_skip n n2 g)
theorem dps_skip {cs : List Addr} {H : Hp} {d : Addr} (n : ∀ xs, H d ≠ some (.lst xs) ∧ H d ≠ some (.tup xs)) (n2 : ∀ o u, H d ≠ some (.frz o u)) : ∀ {es : List PyData} {vs : List V}, DpAll K (dl cs H) vs es → DpAll K (dl (d :: cs) H) vs es
  | _, _, .nil => .nil
  | _, _, .cons h g => .cons (dp_skip n n2 h) (dps_skip n n2 g)
end
structure SmTs (ks : List (Str × Str)) (ts : List (List Str)) : Prop where
  tm : ∀ t ∈ ts, HasKd ks t ∧ t.length ≤ 3
  nm : ∀ t ∈ ts, ∀ y ∈ t, OkN y
  len : ts.length ≤ 100
/-- the shadow of the first i terms and of the first j parts of the next one -/
def InShJ (ks : List (Str × Str)) (ts : List (List Str)) (i : Nat) (t : List Str) (j : Nat) (q : Pr) : Prop := InSh ks (ts.take i) q ∨ (q.1 = numsK ks t ∧ q.2 ∈ (partsOf (facsK ks t)).take j)
theorem inShJ_next {ks : List (Str × Str)} {ts : List (List Str)} {i : Nat} {t : List Str} (h : ts[i]? = some t) (q : Pr) : InShJ ks ts i t (partsOf (facsK ks t)).length q ↔ InSh ks (ts.take (i + 1)) q := by
  unfold InShJ InSh
  rw [List.take_length, List.take_add_one, h]
  constructor
  · rintro (⟨u, hu, h1, h2⟩ | ⟨h1, h2⟩)
    · exact ⟨u, List.mem_append_left _ hu, h1, h2⟩
    · exact ⟨t, List.mem_append_right _ (by simp), h1, (parts_mem _ _).1 h2⟩
  · rintro ⟨u, hu, h1, h2⟩
    rcases List.mem_append.1 hu with hu | hu
    · exact .inl ⟨u, hu, h1, h2⟩
    · have e : u = t := by simpa using hu
      rw [e] at h1 h2
      exact .inr ⟨h1, (parts_mem _ _).2 h2⟩
theorem putN_nd {L : NL} {b : Addr} {k : NestedKey} (h : (L.map (·.2)).Nodup) : ((putN L b k).map (·.2)).Nodup := by
  by_cases hk : k ∈ L.map (·.2)
  · unfold putN
    rw [if_pos hk]
    exact h
  · rw [putN_new hk, List.map_append]
    exact List.nodup_append.2 ⟨h, by simp, fun a ha b hb e => hk (by simp at hb; rw [← hb, ← e]; exact ha)⟩
/-- the dict of the pairs that G tells -/
structure DictSh (K : PySem.W.Frag) (P : Program) (w : World) (cs : List Addr) (H : Hp) (d : Addr) (n : Nat) (G : Pr → Prop) (L : NL) : Prop where
  at_ : H d = some (DNO P w d L)
  key : ∀ p ∈ L, Dp K (dl (d :: cs) H) (.ref p.1) (pk p.2) ∧ ∃ q, p.2 = kP q ∧ G q
  all : ∀ q, G q → kP q ∈ L.map (·.2)
  nd : (L.map (·.2)).Nodup
  len : L.length ≤ n
theorem DictSh.same {cs : List Addr} {H H' : Hp} {d : Addr} {n : Nat} {G : Pr → Prop} {L : NL} (D : DictSh K P w cs H d n G L) (s : Same H H') : DictSh K P w cs H' d n G L :=
  ⟨s _ _ D.at_, fun p hp => ⟨dp_same (dl_same s) (D.key p hp).1, (D.key p hp).2⟩, D.all, D.nd, D.len⟩
theorem DictSh.to {cs : List Addr} {H : Hp} {d : Addr} {n m : Nat} {G G' : Pr → Prop} {L : NL} (D : DictSh K P w cs H d n G L) (h : ∀ q, G q ↔ G' q) (hm : n ≤ m) : DictSh K P w cs H d m G' L :=
  ⟨D.at_, fun p hp => ⟨(D.key p hp).1, let ⟨q, e, g⟩ := (D.key p hp).2; ⟨q, e, (h q).1 g⟩⟩, fun q g => D.all q ((h q).2 g), D.nd, Nat.le_trans D.len hm⟩
theorem DictSh.put {cs : List Addr} {H : Hp} {d b : Addr} {n : Nat} {G G' : Pr → Prop} {L : NL} {q : Pr} (D : DictSh K P w cs H d n G L) (hb : Dp K (dl (d :: cs) H) (.ref b) (prD q)) (h : ∀ x, G' x ↔ (G x ∨ x = q)) :
    DictSh K P w cs (upd H d (DNO P w d (putN L b (kP q)))) d (n + 1) G' (putN L b (kP q)) := by
  refine ⟨upd_same, fun p hp => ?_, fun x hx => ?_, putN_nd D.nd, ?_⟩
  · rw [dl_in List.mem_cons_self]
    rcases putN_mem hp with hp | hp
    · obtain ⟨h1, q', e, g⟩ := D.key p hp
      exact ⟨h1, q', e, (h q').2 (.inl g)⟩
    · rw [hp, pk_P]
      exact ⟨hb, q, rfl, (h q).2 (.inr rfl)⟩
  · rw [putN_keys]
    rcases (h x).1 hx with hx | hx
    · exact .inl (D.all x hx)
    · exact .inr (by rw [hx])
  · have h1 := putN_len L b (kP q)
    have h2 := D.len
    omega
theorem dno_not {d : Addr} {L : NL} {H : Hp} (h : H d = some (DNO P w d L)) : (∀ xs, H d ≠ some (.lst xs) ∧ H d ≠ some (.tup xs)) ∧ ∀ o u, H d ≠ some (.frz o u) :=
  ⟨fun xs => ⟨fun z => (by rw [h] at z; unfold DNO at z; cases z), fun z => (by rw [h] at z; unfold DNO at z; cases z)⟩, fun o u z => (by rw [h] at z; unfold DNO at z; cases z)⟩
theorem dno_tb {d : Addr} {L : NL} : noTb (DNO P w d L) = true := rfl
def spPairs (K : PySem.W.Frag) (T : List (Addr × Str)) : Sp := fun vs H Q _ => ∃ cs tv kv ts ks, vs = [tv, kv] ∧ Ne cs H ∧ Dp K (dl cs H) tv (tmsD ts) ∧ KdAt H kv ks ∧ SmTs ks ts ∧ LamX.Tabs T H ∧
  ∀ H' p sh, LamX.ExtN H H' → LamX.Tabs T H' → IsSh ks ts sh → Dp K (dl cs H') (.ref p) (shD sh) → Q (.ref p) H'
theorem facs_len {ks : List (Str × Str)} {t : List Str} (h : t.length ≤ 3) : (partsOf (facsK ks t)).length ≤ 8 := by
  rw [parts_len]
  have h1 : (facsK ks t).length ≤ 3 := Nat.le_trans (List.length_filter_le _ _) h
  exact Nat.pow_le_pow_right (n := 2) (by decide) h1
theorem ok_pairs {f fP fA fI : Addr} {fd fdP fdA fdI : FuncData} {k : Nat} (F : Fun K "pairs_in" "pairs_in" (topS 31) f fd) (M : Mg K mg)
    (GP : FnOk P w K mg base CX0 k fP fdP ["term", "kinds"] (spPair K)) (kP' : PySem.W.keepIn K (.ref fP) = true) (bP : Binds K fdP ["term", "kinds"] []) (gP : mg "pair_of" = some (.ref fP))
    (GA : FnOk P w K mg base CX0 k fA fdA ["names"] (spParts K)) (kA : PySem.W.keepIn K (.ref fA) = true) (bA : Binds K fdA ["names"] []) (gA : mg "parts_of" = some (.ref fA))
    (GI : FnOk P w K mg base CX0 k fI fdI ["pairs"] (spIn K T)) (kI : PySem.W.keepIn K (.ref fI) = true) (bI : Binds K fdI ["pairs"] []) (gI : mg "in_order" = some (.ref fI)) :
    FnOk P w K mg base CX0 (k + 1) f fd ["terms", "kinds"] (spPairs K T) := by
  refine F.ok scPairs (fun vs H Q E h => ?_) (fun cdv A outer s H vs Q E hr h => ?_)
  · obtain ⟨cs, tv, kv, t, ks, rfl, _⟩ := h
    rfl
  · obtain ⟨cs, tv, kv, ts, ks, rfl, nec, ht, ⟨dk, rfl, hdk⟩, sm, hT, q⟩ := h
    obtain ⟨a, xs, rfl, hta, hxs⟩ := dp_tup ht
    have ha : SqT K H a xs := same_tup (dl_le _ _) hta
    have xlen : xs.length = ts.length := by
      have := dps_len hxs
      rw [List.length_map] at this
      exact this
    refine ⟨_, pss_cons (ps_set (i := 2) scPairs.nd rfl (.inl rfl) pe_dnewN)
      (pss_cons (ps_for PassesOwn.never rfl (pi_tup (pv 0)) (pg_name (i := 3) scPairs.nd rfl (.inl rfl))
        (pss_cons (ps_asg (pe_call GP hr (by rfl) gP kP' bP .nil pass0 (pa_cons (pv 3) (pa_cons (pv 1) pa_nil))) (pg_tup rfl (pgs_cons (pg_name (i := 4) scPairs.nd rfl (.inl rfl)) (pgs_cons (pg_name (i := 5) scPairs.nd rfl (.inl rfl)) pgs_nil))))
        (pss_one (ps_for PassesOwn.never rfl (pi_list (pe_call GA hr (by rfl) gA kA bA .nil pass0 (pa_cons (pv 5) pa_nil))) (pg_name (i := 6) scPairs.nd rfl (.inl rfl))
          (pss_one (ps_dputN hr.units (pv 2) (pe_tup (pa_cons (pv 4) (pa_cons (pv 6) pa_nil))) pe_bl (by rfl)))))))
      (pss_one (ps_ret (pe_call GI hr (by rfl) gI kI bI .nil pass0 (pa_cons (pe_callTy (call_listN rfl) (by rfl) M.list bt_list (pa_cons (pv 2) pa_nil)) pa_nil))))), ?_⟩
    intro d nd
    refine ⟨.ref a, rfl, a, rfl, ⟨xs, same_tup (up_same nd) ha⟩, ?_⟩
    refine for_tup (xs := xs) (fun i σ H2 => ∃ y3 y4 y5 y6 L, σ = [some (.ref a), some (.ref dk), some (.ref d), y3, y4, y5, y6] ∧ Same H H2 ∧ DictSh K P w cs H2 d (8 * i) (InSh ks (ts.take i)) L)
      ⟨none, none, none, none, [], rfl, up_same nd, ⟨upd_same, fun p hp => (by cases hp), fun q hq => (by obtain ⟨t, ht, _⟩ := hq; simp at ht), List.nodup_nil, Nat.le_refl _⟩⟩ (fun i σ H2 _ p => ?_) (fun i v σ H2 ev p => ?_) fun σ H2 p => ?_
    · obtain ⟨_, _, _, _, _, _, s2, _⟩ := p
      exact same_tup s2 ha
    · obtain ⟨y3, y4, y5, y6, L, rfl, s2, D⟩ := p
      obtain ⟨t, et, dt⟩ := dps_map_at hxs ev
      obtain ⟨hkd, t3⟩ := sm.tm t (List.mem_of_getElem? et)
      have ilt : i < 100 := by
        have h1 := (List.getElem?_eq_some_iff.1 et).1
        have := sm.len
        omega
      refine ⟨v, rfl, .ref dk, rfl, d :: cs, v, .ref dk, t, ks, rfl, (nec.same s2).cons D.at_ dno_tb, dp_same (dl_out s2 nd) dt, ⟨dk, rfl, s2 _ _ hdk⟩, hkd, by omega, fun H3 p s3 dp => ?_⟩
      obtain ⟨p', un, uf, ep, hp, dn, df⟩ := dp_pr dp
      cases ep
      have D3 := D.same s3
      refine ⟨p, [un, uf], rfl, same_tup (dl_le _ _) hp, rfl, un, [uf], rfl, uf, [], rfl, rfl, ?_⟩
      -- the parts
      refine ⟨uf, rfl, d :: cs, uf, facsK ks t, rfl, ((nec.same s2).same s3).cons D3.at_ dno_tb, df, Nat.le_trans (List.length_filter_le _ _) (by omega), fun H4 l ps s4 nl hl dps => ?_⟩
      refine ⟨l, rfl, ⟨ps, .inl (.inl hl)⟩, ?_⟩
      have D4 := D3.same s4
      have plen : ps.length = (partsOf (facsK ks t)).length := by
        have := dps_len dps
        rw [List.length_map] at this
        exact this
      have pl8 := facs_len (ks := ks) t3
      have ld : l ≠ d := fun z => by
        rw [z, D3.at_] at nl
        cases nl
      refine for_list (xs := ps) (fun j σ H5 => ∃ y6 L, σ = [some (.ref a), some (.ref dk), some (.ref d), some v, some un, some uf, y6] ∧ Same H H5 ∧ Same (dl [d] H4) (dl [d] H5) ∧ DictSh K P w cs H5 d (8 * i + j) (InShJ ks ts i t j) L)
        ⟨y6, L, rfl, (s2.trans s3).trans s4, Same.refl _, D4.to (fun q => by unfold InShJ; rw [List.take_zero]; simp) (Nat.le_refl _)⟩ (fun j σ H5 _ p => ?_) (fun j pv' σ H5 ej p => ?_) fun σ H5 p => ?_
      · obtain ⟨_, _, _, _, s5, _⟩ := p
        exact .inl (.inl (dl_le _ _ _ _ (s5 _ _ (dl_at hl (by simpa using ld) rfl))))
      · obtain ⟨y6, L5, rfl, sH5, s5, D5⟩ := p
        obtain ⟨part, epa, dpa⟩ := dps_map_at dps ej
        refine ⟨.ref d, rfl, un, rfl, pv', rfl, by show 2 ≤ sizeLine; decide, fun m nm => ?_⟩
        have D6 := D5.same (up_same (o := .tup [un, pv']) nm)
        have nem : Ne (d :: cs) H5 := (nec.same sH5).cons D5.at_ dno_tb
        have up : Same (dl (d :: cs) H4) (dl (d :: cs) H5) := fun b o hb => by
          obtain ⟨h1, h2, h3⟩ := dl_some.1 hb
          have h4 := s5 b o (dl_some.2 ⟨by simp only [List.mem_cons, List.not_mem_nil, or_false]; exact fun z => h1 (by rw [z]; exact List.mem_cons_self), h2, h3⟩)
          exact dl_some.2 ⟨h1, (dl_some.1 h4).2.1, h3⟩
        have dkey : Dp K (dl (d :: cs) (upd H5 m (.tup [un, pv']))) (.ref m) (prD (numsK ks t, part)) :=
          dp_tupN nem nm (.cons (dp_same up (dp_same (dl_same s4) dn)) (.cons (dp_same up dpa) .nil))
        have jlt : j < 8 := by
          have h1 := (List.getElem?_eq_some_iff.1 epa).1
          omega
        refine ⟨d, m, L5, kP (numsK ks t, part), rfl, rfl, rfl, D6.at_, small1000 (by have := D5.len; omega), fun p hp => ⟨dp_le (D6.key p hp).1, ?_⟩, by rw [pk_P]; exact dp_le dkey, kP_depth _, ?_⟩
        · obtain ⟨q', e, _⟩ := (D6.key p hp).2
          rw [e]
          exact kP_depth _
        · refine ⟨some pv', putN L5 m (kP (numsK ks t, part)), rfl, fun b o hb => ?_, ?_, ?_⟩
          · have nb : b ≠ d := ne_of_none hb nd
            rw [upd_ne nb]
            exact up_same nm _ _ (sH5 _ _ hb)
          · rw [dl_in List.mem_cons_self]
            exact s5.trans (dl_up nm)
          · refine (D6.put dkey fun x => ?_)
            unfold InShJ
            rw [List.take_add_one, epa, List.mem_append]
            constructor
            · rintro (h | ⟨h1, h2 | h2⟩)
              · exact .inl (.inl h)
              · exact .inl (.inr ⟨h1, h2⟩)
              · exact .inr (Prod.ext h1 (by simpa using h2))
            · rintro ((h | ⟨h1, h2⟩) | h)
              · exact .inl h
              · exact .inr ⟨h1, .inl h2⟩
              · rw [h]
                exact .inr ⟨rfl, .inr (by simp)⟩
      · obtain ⟨y6, L5, rfl, sH5, s5, D5⟩ := p
        rw [plen] at D5
        exact ⟨_, _, _, _, L5, rfl, sH5, D5.to (inShJ_next et) (by omega)⟩
    · obtain ⟨y3, y4, y5, y6, L, rfl, s2, D⟩ := p
      rw [xlen, List.take_length] at D
      have keysAt : KeysAt K H2 L := fun p hp => ⟨dp_le (D.key p hp).1, by
        obtain ⟨q', e, _⟩ := (D.key p hp).2
        rw [e]
        exact kP_depth _⟩
      refine ⟨.ref d, rfl, d, L, rfl, D.at_, keysAt, fun l nl => ?_⟩
      -- the pairs
      obtain ⟨LP, eL, hLP⟩ := lift_in (g := fun z : Addr × Pr => (z.1, kP z.2)) (l := L.map fun p => (p.1, (open Classical in if h : ∃ q, p.2 = kP q then h.choose else ([], [])))) (m := L) fun p hp => by
        obtain ⟨q', e, _⟩ := (D.key p hp).2
        refine ⟨_, List.mem_map.2 ⟨p, hp, rfl⟩, ?_⟩
        have hx : ∃ q, p.2 = kP q := ⟨q', e⟩
        rw [dif_pos hx]
        exact Prod.ext rfl hx.choose_spec
      have hkeys : L.map (·.2) = (LP.map (·.2)).map kP := by
        rw [eL, List.map_map, List.map_map]
        rfl
      have ndP : (LP.map (·.2)).Nodup := by
        have h1 := D.nd
        rw [hkeys] at h1
        exact List.Pairwise.of_map kP (fun _ _ hne e => hne (congrArg kP e)) h1
      have memP : ∀ q, q ∈ LP.map (·.2) ↔ InSh ks ts q := fun q => by
        constructor
        · intro hq
          obtain ⟨z, hz, rfl⟩ := List.mem_map.1 hq
          have hzL : (z.1, kP z.2) ∈ L := by rw [eL]; exact List.mem_map.2 ⟨z, hz, rfl⟩
          obtain ⟨q', e, g⟩ := (D.key _ hzL).2
          rw [kP_inj e]
          exact g
        · intro hq
          have h1 := D.all q hq
          rw [hkeys] at h1
          obtain ⟨q', hq', e⟩ := List.mem_map.1 h1
          rw [← kP_inj e]
          exact hq'
      have dall : DpAll K (dl cs (upd H2 l (.lst (L.map fun q => V.ref q.1)))) (L.map fun q => V.ref q.1) ((LP.map (·.2)).map prD) := by
        have h1 : ∀ (M : List (Addr × Pr)), (∀ z ∈ M, (z.1, kP z.2) ∈ L) → DpAll K (dl cs (upd H2 l (.lst (L.map fun q => V.ref q.1)))) ((M.map fun z => ((z.1, kP z.2) : Addr × NestedKey)).map fun q => V.ref q.1) ((M.map (·.2)).map prD) := fun M => by
          induction M with
          | nil => intro _; exact .nil
          | cons z M ih =>
            intro hM
            refine .cons ?_ (ih fun y hy => hM y (List.mem_cons_of_mem _ hy))
            have h2 := (D.key _ (hM z List.mem_cons_self)).1
            rw [pk_P] at h2
            exact dp_same (dl_up nl) (dp_same dl_less h2)
        have h3 := h1 LP fun z hz => by rw [eL]; exact List.mem_map.2 ⟨z, hz, rfl⟩
        rw [← eL] at h3
        exact h3
      refine ⟨cs, l, _, LP.map (·.2), rfl, (nec.same s2).same (up_same nl), upd_same, dall, fun q hq => ?_, ?_, hT.ext (s2.trans (up_same nl)), fun H' p ex hT' dp => ?_⟩
      · obtain ⟨t, ht', h1, h2⟩ := (memP q).1 hq
        have h3 := (sm.tm t ht').2
        refine ⟨?_, ?_⟩
        · rw [h1]
          exact Nat.le_trans (List.length_filter_le _ _) (by omega)
        · exact Nat.le_trans h2.length_le (Nat.le_trans (List.length_filter_le _ _) (by omega))
      · have h1 := D.len
        have h2 := congrArg List.length hkeys
        rw [List.length_map, List.length_map] at h2
        have := sm.len
        omega
      · exact q H' p _ ((LamX.ExtN.of (s2.trans (up_same nl))).trans ex) hT' ⟨_, ndP, memP, rfl⟩ dp
end
end Kt
/-! shadow_of, is_alike -/
namespace Kt
open PySem PySem.Spec PyProof.Rows L2
def AllOk (t : List Str) : Prop := ∀ y ∈ t, PyData.strOk y = true
theorem lay_strs : ∀ {t : List Str}, AllOk t → PyData.canLayAll0 (t.map PyData.str) = true
  | [], _ => by simp [PyData.canLayAll0]
  | x :: t, h => by
    have h1 := h x List.mem_cons_self
    have h2 := lay_strs (t := t) fun y hy => h y (List.mem_cons_of_mem _ hy)
    simp [PyData.canLayAll0, PyData.canLay0, h1, h2]
theorem lay_tm {t : List Str} (h : AllOk t) : (tm t).canLay0 = true := by
  unfold tm
  simp only [PyData.canLay0]
  exact lay_strs h
def PrOk (q : Pr) : Prop := AllOk q.1 ∧ AllOk q.2
theorem lay_pr {q : Pr} (h : PrOk q) : (prD q).canLay0 = true := by simp [prD, PyData.canLay0, PyData.canLayAll0, lay_tm h.1, lay_tm h.2]
theorem lay_all {α : Type} {f : α → PyData} : ∀ {l : List α}, (∀ a ∈ l, (f a).canLay0 = true) → PyData.canLayAll0 (l.map f) = true
  | [], _ => by simp [PyData.canLayAll0]
  | a :: l, h => by
    have h1 := h a List.mem_cons_self
    have h2 := lay_all (l := l) fun b hb => h b (List.mem_cons_of_mem _ hb)
    simp [PyData.canLayAll0, h1, h2]
theorem depth_all {α : Type} {f : α → PyData} {n : Nat} (h : ∀ a, (f a).depth ≤ n) : ∀ l : List α, PyData.depthAll (l.map f) ≤ n
  | [] => by simp [PyData.depthAll]
  | a :: l => by
    have h1 := depth_all h l
    have h2 := h a
    simp only [List.map_cons, PyData.depthAll]
    omega
theorem shaped_of {d : PyData} (h1 : d.canLay0 = true) (h2 : d.depth ≤ 64) : SeqAt.shaped d = true := by
  show (d.canLay0 && decide (d.depth ≤ 64)) = true
  rw [h1, decide_eq_true h2]
  rfl
theorem shaped_list {α : Type} {f : α → PyData} {l : List α} (h : ∀ a ∈ l, (f a).canLay0 = true) (hd : ∀ a, (f a).depth ≤ 10) : SeqAt.shaped (.list (l.map f)) = true := by
  refine shaped_of (by simp only [PyData.canLay0]; exact lay_all h) ?_
  have := depth_all hd l
  simp only [PyData.depth]
  omega
theorem shaped_tup {α : Type} {f : α → PyData} {l : List α} (h : ∀ a ∈ l, (f a).canLay0 = true) (hd : ∀ a, (f a).depth ≤ 10) : SeqAt.shaped (.tuple (l.map f)) = true := by
  refine shaped_of (by simp only [PyData.canLay0]; exact lay_all h) ?_
  have := depth_all hd l
  simp only [PyData.depth]
  omega
theorem shaped_sh {sh : List Pr} (h : ∀ q ∈ sh, PrOk q) : SeqAt.shaped (shD sh) = true := shaped_tup (fun q hq => lay_pr (h q hq)) (fun q => by have := depth_pr q; omega)
theorem sh_ok {ks : List (Str × Str)} {ts : List (List Str)} {sh : List Pr} (sm : SmTs ks ts) (h : IsSh ks ts sh) : ∀ q ∈ sh, PrOk q := fun q hq => by
  obtain ⟨t, ht, h1, h2⟩ := (h.mem q).1 hq
  refine ⟨fun y hy => ?_, fun y hy => ?_⟩
  · rw [h1] at hy
    exact (sm.nm t ht y (List.mem_filter.1 hy).1).ok
  · exact (sm.nm t ht y (List.mem_filter.1 (h2.subset hy)).1).ok
theorem eqv_sh (a b : List Pr) : PyData.eqv (shD a) (shD b) = decide (a = b) := by
  by_cases h : a = b
  · rw [decide_eq_true h]
    exact (eqv_tuple eqv_pr a b).2 h
  · rw [decide_eq_false h]
    exact Bool.eq_false_iff.2 fun z => h ((eqv_tuple eqv_pr a b).1 z)
section
variable {P : Program} {w : World} {K : PySem.W.Frag} {mg : Str → Option Value} {base : Heap} {C : Addr} {iT iR : Nat} {T : List (Addr × Str)}
/-- a formula that goes with kinds -/
structure FmK (K : PySem.W.Frag) (C : Addr) (iT : Nat) (cs : List Addr) (ks : List (Str × Str)) (H : Hp) (v : V) (ts : List (List Str)) : Prop where
  at_ : FmAt K C iT (dl cs H) v ts
  sm : SmTs ks ts
def spShad (K : PySem.W.Frag) (C : Addr) (iT : Nat) (T : List (Addr × Str)) : Sp := fun vs H Q _ => ∃ cs fv kv ts ks, vs = [fv, kv] ∧ Ne cs H ∧ FmK K C iT cs ks H fv ts ∧ KdAt H kv ks ∧ OkKd ks ∧ LamX.Tabs T H ∧
  ∀ H' p sh, LamX.ExtN H H' → LamX.Tabs T H' → IsSh ks ts sh → Dp K (dl cs H') (.ref p) (shD sh) → Q (.ref p) H'
theorem FmK.req {cs : List Addr} {ks : List (Str × Str)} {H H' : Hp} {v : V} {ts : List (List Str)} (h : FmK K C iT cs ks H v ts) (s : Same (dl cs H) H') : FmAt K C iT H' v ts ∧ (∀ t ∈ ts, t.length ≤ 9) ∧ ts.length ≤ 100 ∧ InKd ks ts :=
  ⟨h.at_.same s, fun t ht => by have := (h.sm.tm t ht).2; omega, h.sm.len, fun t ht => (h.sm.tm t ht).1⟩
theorem ok_shad {f fR fP fG pG : Addr} {fd fdR fdP fdG : FuncData} {k : Nat} (F : Fun K "shadow_of" "shadow_of" (topS 32) f fd) (M : Mg K mg) (c : FmC K C iT iR)
    (GR : FnOk P w K mg base CX0 k fR fdR ["formulas", "kinds"] (spReqK K C iT)) (kR : PySem.W.keepIn K (.ref fR) = true) (bR : Binds K fdR ["formulas", "kinds"] []) (gR : mg "require_kinds" = some (.ref fR))
    (GP : FnOk P w K mg base CX0 k fP fdP ["terms", "kinds"] (spPairs K T)) (kP' : PySem.W.keepIn K (.ref fP) = true) (bP : Binds K fdP ["terms", "kinds"] []) (gP : mg "pairs_in" = some (.ref fP))
    (GG : FnOk P w K mg base CX0 k fG fdG ["self"] (spGetT K C iT)) (bG : Binds K fdG ["self"] []) (pc : PropC K C "terms" pG fG) :
    FnOk P w K mg base CX0 (k + 2) f fd ["formula", "kinds"] (spShad K C iT T) := by
  refine F.ok scShad (fun vs H Q E h => ?_) (fun cdv A outer s H vs Q E hr' h => ?_)
  · obtain ⟨cs, fv, kv, ts, ks, rfl, _⟩ := h
    rfl
  · obtain ⟨cs, fv, kv, ts, ks, rfl, nec, hf, hk, ok, hT, q⟩ := h
    have hr := hr'.mono (Nat.le_succ k)
    refine ⟨_, pss_cons (ps_expr (pe_call GR hr (by rfl) gR kR bR .nil pass0 (pa_cons (pe_lst (pa_cons (pv 0) pa_nil)) (pa_cons (pv 1) pa_nil))))
      (pss_one (ps_ret (pe_call GP hr (by rfl) gP kP' bP .nil pass0 (pa_cons (SlX.pe_propSl (E := E0) (pv 0) c.cls pc.at_ pc.get pc.tk pc.rc (raw0 GG bG) hr' (fun _ _ _ _ h => h.elim)) (pa_cons (pv 1) pa_nil))))), ?_⟩
    refine ⟨fv, rfl, by show 1 ≤ sizeLine; decide, fun l nl => ⟨kv, rfl, l, kv, ks, [(fv, ts)], rfl, .inl (.inl upd_same), by show _ + 1 ≤ 10; simp, fun p hp => ?_, hk.same (up_same nl), ok, fun H1 s1 => ?_⟩⟩
    · rw [List.mem_singleton.1 hp]
      exact hf.req ((dl_mono fun _ h => by cases h).trans (dl_up nl))
    · have s2 : Same H H1 := (up_same nl).trans s1
      have h1 := hf.at_.same (dl_same s2)
      obtain ⟨a, dx, sl, tv, rfl, z1, z2, z3⟩ := h1
      refine ⟨.ref a, rfl, a, dx, sl, rfl, slt_same (dl_le _ _) z1, cs, .ref a, ts, rfl, ⟨a, dx, sl, tv, rfl, z1, z2, z3⟩, fun tv2 dt => ?_⟩
      refine ⟨kv, rfl, cs, tv2, kv, ts, ks, rfl, nec.same s2, dt, hk.same s2, hf.sm, hT.ext s2, fun H' p sh ex hT' is dp => ?_⟩
      exact q H' p sh ((LamX.ExtN.of s2).trans ex) hT' is dp
def spAlike (K : PySem.W.Frag) (C : Addr) (iT : Nat) (T : List (Addr × Str)) : Sp := fun vs H Q _ => ∃ cs fv gv kv ts us ks, vs = [fv, gv, kv] ∧ Ne cs H ∧ FmK K C iT cs ks H fv ts ∧ FmK K C iT cs ks H gv us ∧ KdAt H kv ks ∧ OkKd ks ∧ LamX.Tabs T H ∧
  ∀ H' sh sh', LamX.ExtN H H' → LamX.Tabs T H' → IsSh ks ts sh → IsSh ks us sh' → Q (.bl (decide (sh = sh'))) H'
theorem ok_alike {f fR fP fG pG : Addr} {fd fdR fdP fdG : FuncData} {k : Nat} (F : Fun K "is_alike" "is_alike" (topS 33) f fd) (M : Mg K mg) (c : FmC K C iT iR)
    (GR : FnOk P w K mg base CX0 k fR fdR ["formulas", "kinds"] (spReqK K C iT)) (kR : PySem.W.keepIn K (.ref fR) = true) (bR : Binds K fdR ["formulas", "kinds"] []) (gR : mg "require_kinds" = some (.ref fR))
    (GP : FnOk P w K mg base CX0 k fP fdP ["terms", "kinds"] (spPairs K T)) (kP' : PySem.W.keepIn K (.ref fP) = true) (bP : Binds K fdP ["terms", "kinds"] []) (gP : mg "pairs_in" = some (.ref fP))
    (GG : FnOk P w K mg base CX0 k fG fdG ["self"] (spGetT K C iT)) (bG : Binds K fdG ["self"] []) (pc : PropC K C "terms" pG fG) :
    FnOk P w K mg base CX0 (k + 2) f fd ["one", "other", "kinds"] (spAlike K C iT T) := by
  refine F.ok scAlike (fun vs H Q E h => ?_) (fun cdv A outer s H vs Q E hr' h => ?_)
  · obtain ⟨cs, fv, gv, kv, ts, us, ks, rfl, _⟩ := h
    rfl
  · obtain ⟨cs, fv, gv, kv, ts, us, ks, rfl, nec, hf, hg, hk, ok, hT, q⟩ := h
    have hr := hr'.mono (Nat.le_succ k)
    refine ⟨_, pss_cons (ps_expr (pe_call GR hr (by rfl) gR kR bR .nil pass0 (pa_cons (pe_lst (pa_cons (pv 0) (pa_cons (pv 1) pa_nil))) (pa_cons (pv 2) pa_nil))))
      (pss_one (ps_ret (pe_cmpR (op_eqD hr.units) (pe_call GP hr (by rfl) gP kP' bP .nil pass0 (pa_cons (SlX.pe_propSl (E := E0) (pv 0) c.cls pc.at_ pc.get pc.tk pc.rc (raw0 GG bG) hr' (fun _ _ _ _ h => h.elim)) (pa_cons (pv 2) pa_nil)))
        (pe_call GP hr (by rfl) gP kP' bP .nil pass0 (pa_cons (SlX.pe_propSl (E := E0) (pv 1) c.cls pc.at_ pc.get pc.tk pc.rc (raw0 GG bG) hr' (fun _ _ _ _ h => h.elim)) (pa_cons (pv 2) pa_nil))) (nomark _)))), ?_⟩
    refine ⟨fv, rfl, gv, rfl, by show 2 ≤ sizeLine; decide, fun l nl => ⟨kv, rfl, l, kv, ks, [(fv, ts), (gv, us)], rfl, .inl (.inl upd_same), by show _ + 1 ≤ 10; simp, fun p hp => ?_, hk.same (up_same nl), ok, fun H1 s1 => ?_⟩⟩
    · rcases List.mem_cons.1 hp with hp | hp
      · rw [hp]
        exact hf.req ((dl_mono fun _ h => by cases h).trans (dl_up nl))
      · rw [List.mem_singleton.1 hp]
        exact hg.req ((dl_mono fun _ h => by cases h).trans (dl_up nl))
    · have s2 : Same H H1 := (up_same nl).trans s1
      obtain ⟨a, dx, sl, tv, rfl, z1, z2, z3⟩ := hf.at_.same (dl_same s2)
      refine ⟨.ref a, rfl, a, dx, sl, rfl, slt_same (dl_le _ _) z1, cs, .ref a, ts, rfl, ⟨a, dx, sl, tv, rfl, z1, z2, z3⟩, fun tv2 dt => ?_⟩
      refine ⟨kv, rfl, cs, tv2, kv, ts, ks, rfl, nec.same s2, dt, hk.same s2, hf.sm, hT.ext s2, fun H2 p sh ex hT2 is dp => ?_⟩
      have ext2 := (LamX.ExtN.of s2).trans ex
      obtain ⟨a', dx', sl', tv', rfl, y1, y2, y3⟩ := hg.at_.same (ext_dl ext2)
      have hk2 : KdAt H2 kv ks := by
        obtain ⟨d, e, hd⟩ := hk
        exact ⟨d, e, ext2 _ _ hd fun _ z => by cases z⟩
      refine ⟨.ref a', rfl, a', dx', sl', rfl, slt_same (dl_le _ _) y1, cs, .ref a', us, rfl, ⟨a', dx', sl', tv', rfl, y1, y2, y3⟩, fun tv3 dt3 => ?_⟩
      refine ⟨kv, rfl, cs, tv3, kv, us, ks, rfl, nec.ext ext2, dt3, hk2, hg.sm, hT2, fun H3 p' sh' ex' hT3 is' dp' => ?_⟩
      refine ⟨shD sh, shD sh', dp_le (dp_same (ext_dl ex') dp), dp_le dp', shaped_sh (sh_ok hf.sm is), shaped_sh (sh_ok hg.sm is'), ?_⟩
      rw [eqv_sh]
      exact q H3 sh sh' (ext2.trans ex') hT3 is is'
end
end Kt
/-! the law's own subsets, pairs, shadows -/
namespace Kt
open PySem PySem.Spec PyProof.Rows L2
theorem scSub : FnScope ["_law_names", "_law_found", "_law_name", "_law_one"] ["_law_names"] (defScope (topS 39)) := ⟨rfl, rfl, rfl, by decide +kernel, rfl, by decide +kernel, by decide +kernel⟩
theorem scLPair : FnScope ["_law_term", "_law_kinds", "_law_numbers", "_law_name"] ["_law_term", "_law_kinds"] (defScope (topS 40)) := ⟨rfl, rfl, rfl, by decide +kernel, rfl, by decide +kernel, by decide +kernel⟩
theorem scLSh : FnScope ["_law_terms_here", "_law_kinds", "_law_found", "_law_term", "_law_numbers", "_law_factors", "_law_some", "_law_row"] ["_law_terms_here", "_law_kinds"] (defScope (topS 41)) := ⟨rfl, rfl, rfl, by decide +kernel, rfl, by decide +kernel, by decide +kernel⟩
theorem items_of {β : Type} {K : PySem.W.Frag} {H : Hp} {f : β → NestedKey} (isT : ∀ b, ∃ ks, f b = .tup ks) : ∀ {L : List β} {xs : List V}, DpAll K H xs (L.map fun b => pk (f b)) → ∃ LT : List (Addr × β), xs = LT.map (fun p => V.ref p.1) ∧ LT.map (·.2) = L ∧ ItAt K H f LT
  | [], _, .nil => ⟨[], rfl, rfl, fun p hp => by cases hp⟩
  | b :: L, v :: _, .cons h g => by
    obtain ⟨LT, e1, e2, e3⟩ := items_of isT (L := L) g
    obtain ⟨ks, ek⟩ := isT b
    have h' : Dp K H v (.tuple (pks ks)) := by
      have e : pk (f b) = .tuple (pks ks) := by rw [ek]; rfl
      rw [← e]
      exact h
    obtain ⟨a, _, rfl, _, _⟩ := dp_tup h'
    refine ⟨(a, b) :: LT, by rw [e1]; rfl, by rw [List.map_cons, e2], fun p hp => ?_⟩
    rcases List.mem_cons.1 hp with e | hp
    · rw [e]
      exact h
    · exact e3 p hp
section
variable {P : Program} {w : World} {K : PySem.W.Frag} {mg : Str → Option Value} {base : Heap}
def spSub (K : PySem.W.Frag) : Sp := fun vs H Q _ => ∃ cs v fs, vs = [v] ∧ Ne cs H ∧ Dp K (dl cs H) v (.list (fs.map .str)) ∧ fs.length ≤ 9 ∧ ∀ H' l xs, Same H H' → H l = none → H' l = some (.lst xs) → DpAll K (dl cs H') xs ((partsOf fs).map tm) → Q (.ref l) H'
theorem ok_sub {f : Addr} {fd : FuncData} {k : Nat} (F : Fun K "_law_subsets" "_law_subsets" (topS 39) f fd) (M : Mg K mg) : FnOk P w K mg base CX0 (k + 1) f fd ["_law_names"] (spSub K) := by
  refine F.ok scSub (fun vs H Q E h => ?_) (fun cdv A outer s H vs Q E hr h => ?_)
  · obtain ⟨cs, v, fs, rfl, _⟩ := h
    rfl
  · obtain ⟨cs, v, fs, rfl, nec, hv, h9, q⟩ := h
    obtain ⟨a, zs, rfl, hla, hz⟩ := dp_list hv
    have ez := dps_str hz
    subst ez
    have ha : SqL K H a (fs.map V.str) := (dl_le _ _).seq hla
    refine ⟨_, pss_cons (ps_set (i := 1) scSub.nd rfl (.inl rfl) (pe_lst (pa_cons (pe_tup pa_nil) pa_nil)))
      (pss_cons (ps_for PassesOwn.never rfl (pi_list (pv 0)) (pg_name (i := 2) scSub.nd rfl (.inr rfl)) (pss_one (ps_set (i := 1) scSub.nd rfl (.inl rfl) (pe_op op_cat (pv 1) (pe_lc (own := [("_law_one", 3)]) (te := tOp (rCatA K) (tVar 3) (tTup (tCons (tVar 2) tNil))) rfl scSub.nd (pi_list (pv 1)) (blkOk_by (by kernel_rfl))
        (fun s H C cl fp => pg_name (i := 3) scSub.nd rfl (.inl rfl)) (fun s H C cl fp => pts_nil) (fun s H C cl fp => pe_op op_catA (pv 3) (pe_tup (pa_cons (pv 2) pa_nil))))))))
      (pss_one (ps_ret (pv 1)))), ?_⟩
    refine ⟨Nat.zero_le _, fun e ne => ⟨by show 1 ≤ sizeLine; decide, fun l nl => ?_⟩⟩
    refine ⟨.ref a, rfl, a, rfl, ⟨_, ((up_same ne).trans (up_same nl)).seq ha⟩, ?_⟩
    refine for_list (xs := fs.map V.str) (fun i σ H2 => ∃ l y xs, σ = [some (.ref a), some (.ref l), y, none] ∧ Same H H2 ∧ H l = none ∧ H2 l = some (.lst xs) ∧ DpAll K (dl cs H2) xs ((partsOf (fs.take i)).map tm))
      ⟨l, none, [.ref e], rfl, (up_same ne).trans (up_same nl), (up_same ne).free nl, upd_same, dps_same (dl_up nl) (dps_one (dp_tm_of (t := []) (.inl (.inl (dl_at upd_same (nec.not ne) rfl)))))⟩ (fun i σ H2 _ p => ?_) (fun i v σ H2 ev p => ?_) fun σ H2 p => ?_
    · obtain ⟨_, _, _, _, s2, _, _⟩ := p
      exact s2.seq ha
    · obtain ⟨l, y, xs, rfl, s2, nl0, el, g⟩ := p
      obtain ⟨x, e1, rfl⟩ : ∃ x, fs[i]? = some x ∧ v = .str x := by
        rw [List.getElem?_map] at ev
        obtain ⟨x, e1, e2⟩ := Option.map_eq_some_iff.1 ev
        exact ⟨x, e1, e2.symm⟩
      have hi : i < fs.length := (List.getElem?_eq_some_iff.1 e1).1
      have plen : (partsOf (fs.take i)).length ≤ 512 := by
        rw [parts_len, List.length_take]
        exact pow9 (by omega)
      have xlen : xs.length = (partsOf (fs.take i)).length := by
        have := dps_len g
        rw [List.length_map] at this
        exact this
      refine ⟨.ref l, rfl, .ref l, rfl, l, rfl, ⟨xs, .inl (.inl el)⟩, fun D nD => ?_⟩
      refine lc_list (xs := xs) (PvC cs K H2 D fun j => (((partsOf (fs.take i)).take j).map (· ++ [x])).map tm) (pv0 nD rfl) (fun j H3 _ p => p.seq (.inl (.inl el))) (fun j v H3 ej p => ?_) fun H3 p => ?_
      · obtain ⟨t, et, dt⟩ := dps_map_at g ej
        obtain ⟨b, rfl, hb⟩ := dp_tm dt
        have hb3 : SqT K H3 b (t.map V.str) := same_tup (fun c o h => p.1 c o (dl_le _ _ c o h)) hb
        have tlen : t.length ≤ 9 := by
          have h1 := (parts_mem (fs.take i) t).1 (List.mem_of_getElem? et)
          have h2 := h1.length_le
          rw [List.length_take] at h2
          omega
        have fin : ∀ m H5, Same H3 H5 → (dl (D :: cs) H5) m = some (.tup ((t ++ [x]).map V.str)) → ∃ acc, H5 D = some (.lst acc) ∧ acc.length < sizeLine ∧ PvC cs K H2 D (fun j => (((partsOf (fs.take i)).take j).map (· ++ [x])).map tm) (j + 1) (upd H5 D (.lst (acc ++ [.ref m]))) := fun m H5 s5 hm => by
          refine p.put nD s5 (d := tm (t ++ [x])) (dp_tm_of (.inl (.inl hm))) ?_ ?_
          · rw [List.map_map, List.map_map]
            exact take_map_succ (f := tm ∘ (· ++ [x])) et
          · rw [List.length_map, List.length_map, List.length_take]
            exact small1000 (by omega)
        refine ⟨rfl, .ref b, rfl, .str x, rfl, by show 1 ≤ sizeLine; decide, fun m nm => ?_⟩
        have nem := p.ne (nec.same s2)
        refine ⟨b, m, t.map V.str, [.str x], rfl, rfl, same_tup (up_same nm) hb3, .inl (.inl upd_same), ?_, fun et0 => ?_, fun _ e0 => (by cases e0), fun _ _ o no => ?_⟩
        · rw [List.length_map]
          exact Nat.le_of_lt (small1000 (by show t.length + 1 ≤ 1000; omega))
        · refine fin m _ (up_same nm) ?_
          have e0 : t = [] := List.map_eq_nil_iff.1 et0
          rw [e0]
          exact dl_at upd_same (nem.not nm) rfl
        · refine fin o _ ((up_same nm).trans (up_same no)) ?_
          rw [List.map_append]
          exact dl_at upd_same ((nem.same (up_same nm)).not no) rfl
      · obtain ⟨s3, acc, eD, gD⟩ := p
        rw [xlen] at gD
        have gD : DpAll K (dl (D :: cs) H3) acc ((((partsOf (fs.take i)).take (partsOf (fs.take i)).length).map (· ++ [x])).map tm) := gD
        rw [List.take_length] at gD
        have alen : acc.length = (partsOf (fs.take i)).length := by
          have := dps_len gD
          rw [List.length_map, List.length_map] at this
          exact this
        refine ⟨l, D, xs, acc, rfl, rfl, s3 _ _ el, eD, by have := sizeLine_eq; omega, fun m nm => ?_⟩
        refine ⟨m, some (.str x), xs ++ acc, rfl, (s2.trans s3).trans (up_same nm), (s2.trans s3).free nm, upd_same, ?_⟩
        have e : fs.take (i + 1) = fs.take i ++ [x] := by
          rw [List.take_add_one, e1]
          rfl
        rw [e, parts_snoc, List.map_append]
        exact dps_same (dl_up nm) (dps_app (dps_same (dl_same s3) g) (dps_same dl_less gD))
    · obtain ⟨l, y, xs, rfl, s2, nl0, el, g⟩ := p
      rw [List.length_map, List.take_length] at g
      exact ⟨.ref l, rfl, q H2 l xs s2 nl0 el g⟩
theorem ok_lpair {f : Addr} {fd : FuncData} {k : Nat} (F : Fun K "_law_pair" "_law_pair" (topS 40) f fd) (M : Mg K mg) : FnOk P w K mg base CX0 (k + 1) f fd ["_law_term", "_law_kinds"] (spPair K) := by
  refine F.ok scLPair (fun vs H Q E h => ?_) (fun cdv A outer s H vs Q E hr h => ?_)
  · obtain ⟨cs, tv, kv, t, ks, rfl, _⟩ := h
    rfl
  · obtain ⟨cs, tv, kv, t, ks, rfl, nec, ht, ⟨d, rfl, hd⟩, hk, h9, q⟩ := h
    obtain ⟨a, rfl, hta⟩ := dp_tm ht
    have ha : SqT K H a (t.map V.str) := same_tup (dl_le _ _) hta
    refine ⟨_, pss_cons (ps_set (i := 2) scLPair.nd rfl (.inl rfl) (pe_callTy call_tuple_of (by rfl) M.tuple bt_tuple (pa_cons (pe_lc (own := [("_law_name", 3)]) (tt := tTest (tOp rEq (tDGet (tVar 1) (tVar 3)) (tC (.str cN)))) rfl scLPair.nd (pi_tup (pv 0)) (blkOk_by (by kernel_rfl))
        (fun s H C cl fp => pg_name (i := 3) scLPair.nd rfl (.inl rfl)) (fun s H C cl fp => pts_one (pt_cmpR op_eq (pe_dget (hu_of hr) (pv 1) (pv 3) (fun _ _ => rfl)) pe_str (nomark _))) (fun s H C cl fp => pv 3)) pa_nil)))
      (pss_one (ps_ret (pe_tup (pa_cons (pv 2) (pa_cons (pe_callTy call_tuple_of (by rfl) M.tuple bt_tuple (pa_cons (pe_lc (own := [("_law_name", 3)]) (tt := tTest (tOp rEq (tDGet (tVar 1) (tVar 3)) (tC (.str cF)))) rfl scLPair.nd (pi_tup (pv 0)) (blkOk_by (by kernel_rfl))
        (fun s H C cl fp => pg_name (i := 3) scLPair.nd rfl (.inl rfl)) (fun s H C cl fp => pts_one (pt_cmpR op_eq (pe_dget (hu_of hr) (pv 1) (pv 3) (fun _ _ => rfl)) pe_str (nomark _))) (fun s H C cl fp => pv 3)) pa_nil)) pa_nil))))), ?_⟩
    refine ⟨.ref a, rfl, a, rfl, ⟨_, ha⟩, fun D nD => ?_⟩
    refine pick_kind (cc := cN) ha hd hk h9 nD rfl rfl fun H2 acc s2 e2 ea => ?_
    subst ea
    refine ⟨D, _, rfl, .inl ⟨.inl (.inl e2), fun n nn => ?_⟩⟩
    have s3 := s2.trans (up_same (o := .tup ((t.filter fun y => ks.lookup y == some cN).map V.str)) nn)
    refine ⟨.ref n, rfl, .ref a, rfl, a, rfl, ⟨_, same_tup s3 ha⟩, fun D' nD' => ?_⟩
    refine pick_kind (cc := cF) (same_tup s3 ha) (s3 _ _ hd) hk h9 nD' rfl rfl fun H4 acc s4 e4 ea => ?_
    subst ea
    refine ⟨D', _, rfl, .inl ⟨.inl (.inl e4), fun m nm => ?_⟩⟩
    refine ⟨by show 2 ≤ sizeLine; decide, fun p np => ?_⟩
    have s5 := (s3.trans s4).trans (up_same (o := .tup ((t.filter fun y => ks.lookup y == some cF).map V.str)) nm)
    refine q _ p (s5.trans (up_same np)) ?_
    have hn : (upd H4 m (.tup ((t.filter fun y => ks.lookup y == some cF).map V.str))) n = some (.tup ((t.filter fun y => ks.lookup y == some cN).map V.str)) := up_same nm _ _ (s4 _ _ upd_same)
    refine dp_tupN (nec.same s5) np (.cons ?_ (.cons ?_ .nil))
    · exact dp_tm_of (.inl (.inl (dl_at hn ((nec.same s2).not nn) rfl)))
    · exact dp_tm_of (.inl (.inl (dl_at upd_same ((nec.same (s3.trans s4)).not nm) rfl)))
theorem dp_tr {H : Hp} {v : V} {q : Pr} (h : Dp K H v (trD q)) : ∃ a u w', v = .ref a ∧ SqT K H a [.int ((q.1.length + q.2.length : Nat) : Int), u, w'] ∧ Dp K H u (tm q.1) ∧ Dp K H w' (tm q.2) := by
  obtain ⟨a, xs, rfl, h, g⟩ := dp_tup h
  cases g with
  | cons g0 g =>
    cases g0
    cases g with
    | cons g1 g =>
      cases g with
      | cons g2 g =>
        cases g
        exact ⟨a, _, _, rfl, h, g1, g2⟩
def spLSh (K : PySem.W.Frag) : Sp := fun vs H Q _ => ∃ cs tv kv ts ks, vs = [tv, kv] ∧ Ne cs H ∧ Dp K (dl cs H) tv (.list (ts.map tm)) ∧ KdAt H kv ks ∧ (∀ t ∈ ts, HasKd ks t ∧ t.length ≤ 3) ∧ ts.length ≤ 7 ∧
  ∀ H' l xs sh, Same H H' → H l = none → H' l = some (.lst xs) → IsSh ks ts sh → DpAll K (dl cs H') xs (sh.map prD) → Q (.ref l) H'
theorem srt_trL {A : Around} (hu : A.units + 64 < cLine) (L : List (Addr × Pr)) (h : L.length ≤ 1000) : Srt A (fun p : Addr × Pr => pk (kTr p.2)) L := by
  refine ⟨fun d hd e he => ?_, .inl fun d hd => ?_, fun q _ => ?_, by rw [sizeLine_eq]; omega⟩
  · obtain ⟨x, _, rfl⟩ := List.mem_map.1 hd
    obtain ⟨y, _, rfl⟩ := List.mem_map.1 he
    simp only [pk_Tr]
    exact alike_tr _ _
  · obtain ⟨q, _, rfl⟩ := List.mem_map.1 hd
    simp only [pk_Tr]
    exact ⟨_, _, rfl⟩
  · simp only [pk_Tr]
    have := depth_tr q.2
    omega
theorem kTr_tup (q : Pr) : ∃ ks, kTr q = .tup ks := ⟨_, rfl⟩
theorem inj_kTr : KInj (fun q : Pr => pk (kTr q)) := fun a b h => inj_tr a b (by simpa only [pk_Tr] using h)
theorem ok_lsh {f fP fA : Addr} {fd fdP fdA : FuncData} {k : Nat} (F : Fun K "_law_shadow" "_law_shadow" (topS 41) f fd) (M : Mg K mg)
    (GP : FnOk P w K mg base CX0 k fP fdP ["_law_term", "_law_kinds"] (spPair K)) (kP' : PySem.W.keepIn K (.ref fP) = true) (bP : Binds K fdP ["_law_term", "_law_kinds"] []) (gP : mg "_law_pair" = some (.ref fP))
    (GA : FnOk P w K mg base CX0 k fA fdA ["_law_names"] (spSub K)) (kA : PySem.W.keepIn K (.ref fA) = true) (bA : Binds K fdA ["_law_names"] []) (gA : mg "_law_subsets" = some (.ref fA)) :
    FnOk P w K mg base CX0 (k + 1) f fd ["_law_terms_here", "_law_kinds"] (spLSh K) := by
  refine F.ok scLSh (fun vs H Q E h => ?_) (fun cdv A outer s H vs Q E hr h => ?_)
  · obtain ⟨cs, tv, kv, t, ks, rfl, _⟩ := h
    rfl
  · obtain ⟨cs, tv, kv, ts, ks, rfl, nec, ht, ⟨dk, rfl, hdk⟩, sm, t7, q⟩ := h
    obtain ⟨a, xs, rfl, hta, hxs⟩ := dp_list ht
    have ha : SqL K H a xs := (dl_le _ _).seq hta
    have xlen : xs.length = ts.length := by
      have := dps_len hxs
      rw [List.length_map] at this
      exact this
    refine ⟨_, pss_cons (ps_set (i := 2) scLSh.nd rfl (.inl rfl) (pe_lst pa_nil))
      (pss_cons (ps_for PassesOwn.never rfl (pi_list (pv 0)) (pg_name (i := 3) scLSh.nd rfl (.inl rfl))
        (pss_cons (ps_asg (pe_call GP hr (by rfl) gP kP' bP .nil pass0 (pa_cons (pv 3) (pa_cons (pv 1) pa_nil))) (pg_tup rfl (pgs_cons (pg_name (i := 4) scLSh.nd rfl (.inr rfl)) (pgs_cons (pg_name (i := 5) scLSh.nd rfl (.inl rfl)) pgs_nil))))
        (pss_one (ps_set (i := 2) scLSh.nd rfl (.inl rfl) (pe_op op_cat (pv 2) (pe_lc (own := [("_law_some", 6)])
          (te := tTup (tCons (tOp (rI0 fun i j => .int (i + j)) (tCB (fun xs H Q => ∃ p ys, xs = [.ref p] ∧ (SqL K H p ys ∨ SqT K H p ys) ∧ Q (.int ys.length) H) (tCons (tVar 4) tNil)) (tCB (fun xs H Q => ∃ p ys, xs = [.ref p] ∧ (SqL K H p ys ∨ SqT K H p ys) ∧ Q (.int ys.length) H) (tCons (tVar 6) tNil))) (tCons (tVar 4) (tCons (tVar 6) tNil))))
          rfl scLSh.nd (pi_list (pe_call GA hr (by rfl) gA kA bA .nil pass0 (pa_cons (pe_callTy call_list_of (by rfl) M.list bt_list (pa_cons (pv 5) pa_nil)) pa_nil))) (blkOk_by (by kernel_rfl))
          (fun s H C cl fp => pg_name (i := 6) scLSh.nd rfl (.inl rfl)) (fun s H C cl fp => pts_nil)
          (fun s H C cl fp => pe_tup (pa_cons (pe_op op_add (pe_callB call_len_seq (by rfl) M.len bt_len (pa_cons (pv 4) pa_nil)) (pe_callB call_len_seq (by rfl) M.len bt_len (pa_cons (pv 6) pa_nil))) (pa_cons (pv 4) (pa_cons (pv 6) pa_nil))))))))))
      (pss_one (ps_ret (pe_lc (own := [("_law_row", 7)]) (te := tSl (rSlA K) (tVar 7) (tPart (tC (.int 1))) tNoPart) rfl scLSh.nd
        (pi_list (pe_callB (cr_sortedN (f := kTr) rfl) (by rfl) M.sorted bt_sorted (pa_cons (pe_callTy (cr_setN (f := kTr) (fun x y => kTr_inj) kTr_depth rfl hr.units) (by rfl) M.set bt_set (pa_cons (pv 2) pa_nil)) pa_nil))) (blkOk_by (by kernel_rfl))
        (fun s H C cl fp => pg_name (i := 7) scLSh.nd rfl (.inl rfl)) (fun s H C cl fp => pts_nil) (fun s H C cl fp => pe_slice sl_tupA (pv 7) (po_some pe_int) po_none))))), ?_⟩
    refine ⟨Nat.zero_le _, fun l0 nl0 => ?_⟩
    refine ⟨.ref a, rfl, a, rfl, ⟨xs, (up_same nl0).seq ha⟩, ?_⟩
    refine for_list (xs := xs) (fun i σ H2 => ∃ l y3 y4 y5 ys qs, σ = [some (.ref a), some (.ref dk), some (.ref l), y3, y4, y5, none, none] ∧ Same H H2 ∧ H2 l = some (.lst ys) ∧ DpAll K (dl cs H2) ys (qs.map trD) ∧ (∀ q, q ∈ qs ↔ InSh ks (ts.take i) q) ∧ qs.length ≤ 8 * i)
      ⟨l0, none, none, none, [], [], rfl, up_same nl0, upd_same, .nil, fun q => ⟨fun h => (by cases h), fun hq => (by obtain ⟨t, ht, _⟩ := hq; simp at ht)⟩, Nat.le_refl _⟩ (fun i σ H2 _ p => ?_) (fun i v σ H2 ev p => ?_) fun σ H2 p => ?_
    · obtain ⟨_, _, _, _, _, _, _, s2, _⟩ := p
      exact s2.seq ha
    · obtain ⟨l, y3, y4, y5, ys, qs, rfl, s2, el, g, mem, ql⟩ := p
      obtain ⟨t, et, dt⟩ := dps_map_at hxs ev
      obtain ⟨hkd, t3⟩ := sm t (List.mem_of_getElem? et)
      have ilt : i < 7 := by
        have h1 := (List.getElem?_eq_some_iff.1 et).1
        omega
      refine ⟨v, rfl, .ref dk, rfl, cs, v, .ref dk, t, ks, rfl, nec.same s2, dp_same (dl_same s2) dt, ⟨dk, rfl, s2 _ _ hdk⟩, hkd, by omega, fun H3 p s3 dp => ?_⟩
      obtain ⟨p', un, uf, ep, hp, dn, df⟩ := dp_pr dp
      cases ep
      refine ⟨p, [un, uf], rfl, same_tup (dl_le _ _) hp, rfl, un, [uf], rfl, uf, [], rfl, rfl, ?_⟩
      obtain ⟨n, rfl, hn⟩ := dp_tm dn
      obtain ⟨m, rfl, hm⟩ := dp_tm df
      have hn3 : SqT K H3 n ((numsK ks t).map V.str) := same_tup (dl_le _ _) hn
      have hm3 : SqT K H3 m ((facsK ks t).map V.str) := same_tup (dl_le _ _) hm
      have f3 : (facsK ks t).length ≤ 3 := Nat.le_trans (List.length_filter_le _ _) t3
      -- the subsets
      refine ⟨.ref l, rfl, .ref m, rfl, m, _, rfl, .inr hm3, fun fl nfl => ?_⟩
      have ne3 : Ne cs H3 := (nec.same s2).same s3
      refine ⟨cs, .ref fl, facsK ks t, rfl, ne3.same (up_same nfl), dp_lstN ne3 nfl (dps_strs K _ _), by omega, fun H4 sl ss s4' nsl hsl dss => ?_⟩
      have s4 : Same H3 H4 := (up_same nfl).trans s4'
      refine ⟨sl, rfl, ⟨ss, .inl (.inl hsl)⟩, fun D nD => ?_⟩
      have slen : ss.length = (partsOf (facsK ks t)).length := by
        have := dps_len dss
        rw [List.length_map] at this
        exact this
      have pl8 := facs_len (ks := ks) t3
      have ne4 : Ne cs H4 := ne3.same s4
      refine lc_list (xs := ss) (PvC cs K H4 D fun j => (((partsOf (facsK ks t)).take j).map fun p => (numsK ks t, p)).map trD) (pv0 nD rfl) (fun j H5 _ p => p.seq (.inl (.inl hsl))) (fun j v5 H5 ej p => ?_) fun H5 p => ?_
      · obtain ⟨part, epa, dpa⟩ := dps_map_at dss ej
        obtain ⟨b, rfl, hb⟩ := dp_tm dpa
        have hn5 : SqT K H5 n ((numsK ks t).map V.str) := same_tup p.1 (same_tup s4 hn3)
        have hb5 : SqT K H5 b (part.map V.str) := same_tup (fun c o h => p.1 c o (dl_le _ _ c o h)) hb
        refine ⟨rfl, .ref n, rfl, n, _, rfl, .inr hn5, .ref b, rfl, b, _, rfl, .inr hb5, _, _, rfl, rfl, .ref n, rfl, .ref b, rfl, by show 3 ≤ sizeLine; decide, fun o no => ?_⟩
        have nem := p.ne ne4
        refine p.put nD (up_same no) (d := trD (numsK ks t, part)) ?_ ?_ ?_
        · refine dp_tupN nem no (.cons ?_ (.cons ?_ (.cons ?_ .nil)))
          · rw [List.length_map, List.length_map]
            have e : ((numsK ks t).length : Int) + (part.length : Int) = (((numsK ks t, part) : Pr).1.length + ((numsK ks t, part) : Pr).2.length : Nat) := by
              show _ = (((numsK ks t).length + part.length : Nat) : Int)
              omega
            show Dp K _ (.int (((numsK ks t).length : Int) + (part.length : Int))) _
            rw [e]
            exact .int _
          · exact dp_same (dl_out p.1 nD) (dp_same (dl_same s4) (dp_tm_of hn))
          · exact dp_same (dl_out p.1 nD) (dp_tm_of hb)
        · rw [List.map_map, List.map_map]
          exact take_map_succ (f := trD ∘ fun p => (numsK ks t, p)) epa
        · rw [List.length_map, List.length_map, List.length_take]
          exact small1000 (by omega)
      · obtain ⟨s5, acc, eD, gD⟩ := p
        rw [slen] at gD
        have gD : DpAll K (dl (D :: cs) H5) acc ((((partsOf (facsK ks t)).take (partsOf (facsK ks t)).length).map fun p => (numsK ks t, p)).map trD) := gD
        rw [List.take_length] at gD
        have alen : acc.length ≤ 8 := by
          have := dps_len gD
          rw [List.length_map, List.length_map] at this
          omega
        have ylen : ys.length ≤ 8 * i := by
          have := dps_len g
          rw [List.length_map] at this
          omega
        have s25 : Same H2 H5 := (s3.trans s4).trans s5
        refine ⟨l, D, ys, acc, rfl, rfl, s25 _ _ el, eD, by have := sizeLine_eq; omega, fun o no => ?_⟩
        refine ⟨o, some v, some (.ref n), some (.ref m), ys ++ acc, qs ++ (partsOf (facsK ks t)).map (fun p => (numsK ks t, p)), rfl, (s2.trans s25).trans (up_same no), upd_same, ?_, fun q => ?_, ?_⟩
        · rw [List.map_append]
          exact dps_same (dl_up no) (dps_app (dps_same (dl_same s25) g) (dps_same dl_less gD))
        · rw [List.mem_append, mem q, ← inShJ_next et]
          unfold InShJ
          rw [List.take_length]
          constructor
          · rintro (h | h)
            · exact .inl h
            · obtain ⟨p, hp, rfl⟩ := List.mem_map.1 h
              exact .inr ⟨rfl, hp⟩
          · rintro (h | ⟨h1, h2⟩)
            · exact .inl h
            · exact .inr (List.mem_map.2 ⟨q.2, h2, Prod.ext h1.symm rfl⟩)
        · rw [List.length_append, List.length_map]
          omega
    · obtain ⟨l, y3, y4, y5, ys, qs, rfl, s2, el, g, mem, ql⟩ := p
      rw [xlen, List.take_length] at mem
      have g' : DpAll K (dl cs H2) ys (qs.map fun q => pk (kTr q)) := by
        have e : (qs.map fun q => pk (kTr q)) = qs.map trD := List.map_congr_left fun q _ => pk_Tr q
        rw [e]
        exact g
      obtain ⟨LT, rfl, eLT, itLT⟩ := items_of kTr_tup g'
      have few : LT.length < 64 := by
        have := congrArg List.length eLT
        rw [List.length_map] at this
        omega
      -- sorted(set(found))
      refine ⟨.ref l, rfl, l, LT, rfl, .inl (.inl el), itLT.same (dl_le _ _), few, fun b L nb sub all nd => ?_⟩
      have itL : ItAt K (dl cs H2) kTr L := fun p hp => itLT p (sub p hp)
      have Lfew : L.length ≤ 1000 := by
        have hs : (L.map (·.2)).length ≤ (LT.map (·.2)).length := by
          refine (List.Nodup.length_le_of_subset nd ?_)
          intro x hx
          obtain ⟨p, hp, rfl⟩ := List.mem_map.1 hx
          exact List.mem_map.2 ⟨p, sub p hp, rfl⟩
        rw [List.length_map, List.length_map] at hs
        omega
      refine ⟨b, L, rfl, upd_same, (itL.same (dl_le _ _)).same (up_same nb), srt_trL hr.units L Lfew, fun L1 c p1 nc => ?_⟩
      have s3 : Same H2 (upd (upd H2 b (NSO P w b (asN kTr L))) c (.lst ((srt (fun p : Addr × Pr => pk (kTr p.2)) L1).map fun p => V.ref p.1))) := (up_same nb).trans (up_same nc)
      generalize hLS : srt (fun p : Addr × Pr => pk (kTr p.2)) L1 = LS at s3
      have ec : (upd (upd H2 b (NSO P w b (asN kTr L))) c (.lst (LS.map fun p => V.ref p.1))) c = some (.lst (LS.map fun p => V.ref p.1)) := upd_same
      have inL : ∀ p ∈ LS, p ∈ L := fun p hp => p1.mem_iff.1 (srt_mem.1 (by rw [hLS]; exact hp))
      have itLS : ItAt K (dl cs (upd (upd H2 b (NSO P w b (asN kTr L))) c (.lst (LS.map fun p => V.ref p.1)))) kTr LS := fun p hp => dp_same (dl_same s3) (itL p (inL p hp))
      refine ⟨c, rfl, ⟨_, .inl (.inl ec)⟩, fun D nD => ?_⟩
      have ne3 := (nec.same s2).same s3
      refine lc_list (xs := LS.map fun p : Addr × Pr => V.ref p.1) (PvC cs K _ D fun j => ((LS.map (·.2)).take j).map prD) (pv0 nD rfl) (fun j H4 _ p => p.seq (.inl (.inl ec))) (fun j v H4 ej p => ?_) fun H4 p => ?_
      · rw [List.getElem?_map] at ej
        obtain ⟨z, ez, rfl⟩ := Option.map_eq_some_iff.1 ej
        have dz := itLS z (List.mem_of_getElem? ez)
        rw [pk_Tr] at dz
        obtain ⟨a', u, w', ea, hrow, du, dw⟩ := dp_tr dz
        cases ea
        have hrow4 : SqT K H4 z.1 [.int ((z.2.1.length + z.2.2.length : Nat) : Int), u, w'] := same_tup (fun c o h => p.1 c o (dl_le _ _ c o h)) hrow
        refine ⟨rfl, .ref z.1, rfl, 1, rfl, z.1, _, rfl, hrow4, fun hw => absurd hw.1 (fun z => by cases (show (1 : Nat) = 0 from z)), fun _ o no => ?_⟩
        have nem := p.ne ne3
        refine p.put nD (up_same no) (d := prD z.2) ?_ ?_ ?_
        · rw [cutFrom1]
          exact dp_tupN nem no (.cons (dp_same (dl_out p.1 nD) du) (.cons (dp_same (dl_out p.1 nD) dw) .nil))
        · refine take_map_succ (f := prD) ?_
          rw [List.getElem?_map, ez]
          rfl
        · rw [List.length_map, List.length_take, List.length_map]
          have h1 : LS.length ≤ 1000 := by
            rw [← hLS, (srt_perm_self _ L1).length_eq, p1.length_eq]
            exact Lfew
          exact small1000 (by omega)
      · obtain ⟨s4, acc, eD, gD⟩ := p
        have gD : DpAll K (dl (D :: cs) H4) acc (((LS.map (·.2)).take (LS.map fun p => V.ref p.1).length).map prD) := gD
        have e : (LS.map (·.2)).take (LS.map fun p => V.ref p.1).length = LS.map (·.2) := List.take_of_length_le (by rw [List.length_map, List.length_map]; exact Nat.le_refl _)
        rw [e] at gD
        have nl : H D = none := (s2.trans s3).free nD
        refine q H4 D acc (LS.map (·.2)) ((s2.trans s3).trans s4) nl eD ⟨L1.map (·.2), ?_, fun q => ?_, ?_⟩ (dps_same dl_less gD)
        · exact (p1.map (·.2)).nodup_iff.2 nd
        · rw [(p1.map (·.2)).mem_iff, ← mem q, ← eLT]
          constructor
          · intro hq
            obtain ⟨p, hp, rfl⟩ := List.mem_map.1 hq
            exact List.mem_map.2 ⟨p, sub p hp, rfl⟩
          · intro hq
            obtain ⟨p, hp, rfl⟩ := List.mem_map.1 hq
            exact all p hp
        · rw [← hLS]
          unfold shadow
          have h1 := srt_map (fun p : Addr × Pr => p.2) L1 inj_kTr
          rw [h1]
          have ef : (fun q : Pr => pk (kTr q)) = trD := funext pk_Tr
          rw [ef]
end
end Kt
/-! the law's draws: pot, dip, pick, shaken -/
namespace Kt
open PySem PySem.Spec PyProof.Rows L2
theorem scDip : FnScope ["_law_pot_here", "_law_total", "_law_found", "_law_one", "_law_two"] ["_law_pot_here", "_law_total"] (defScope (topS 36)) := ⟨rfl, rfl, rfl, by decide +kernel, rfl, by decide +kernel, by decide +kernel⟩
theorem scPick : FnScope ["_law_pot_here", "_law_items"] ["_law_pot_here", "_law_items"] (defScope (topS 37)) := ⟨rfl, rfl, rfl, by decide +kernel, rfl, by decide +kernel, by decide +kernel⟩
theorem scShake : FnScope ["_law_pot_here", "_law_items", "_law_left", "_law_turn"] ["_law_pot_here", "_law_items"] (defScope (topS 38)) := ⟨rfl, rfl, rfl, by decide +kernel, rfl, by decide +kernel, by decide +kernel⟩
/-- the pot at c, of at most n steps -/
def PotN (H : Hp) (c : Addr) (n : Nat) : Prop := ∃ g m t : Int, H c = some (.lst [.int g, .int m, .int t]) ∧ 0 ≤ m ∧ m < 2305843009213693952 ∧ 0 ≤ t ∧ t ≤ n
theorem PotN.mono {H : Hp} {c : Addr} {n m : Nat} (h : PotN H c n) (hm : n ≤ m) : PotN H c m := by
  obtain ⟨g, a, t, h1, h2, h3, h4, h5⟩ := h
  exact ⟨g, a, t, h1, h2, h3, h4, by omega⟩
theorem PotN.same {H H' : Hp} {c : Addr} {n : Nat} (h : PotN H c n) (s : Same H H') : PotN H' c n := by
  obtain ⟨g, a, t, h1, r⟩ := h
  exact ⟨g, a, t, s _ _ h1, r⟩
theorem PotN.lst {H : Hp} {c : Addr} {n : Nat} (h : PotN H c n) : ∃ zs, H c = some (.lst zs) := let ⟨_, _, _, h, _⟩ := h; ⟨_, h⟩
section
variable {P : Program} {w : World} {K : PySem.W.Frag} {mg : Str → Option Value} {base : Heap}
def spDip : Sp := fun vs H Q _ => ∃ c tot n, vs = [.ref c, .int tot] ∧ PotN H c n ∧ n ≤ 1000000 ∧ 1 ≤ tot ∧ tot < 1000000 ∧ ∀ k H', 0 ≤ k → k < tot → Kp c H H' → PotN H' c (n + 1) → Q (.int k) H'
theorem ok_dip {f : Addr} {fd : FuncData} {k : Nat} (F : Fun K "_law_dip" "_law_dip" (topS 36) f fd) (M : Mg K mg) : FnOk P w K mg base CX0 (k + 1) f fd ["_law_pot_here", "_law_total"] spDip := by
  refine F.ok scDip (fun vs H Q E h => ?_) (fun cdv A outer s H vs Q E hr h => ?_)
  · obtain ⟨c, tot, n, rfl, _⟩ := h
    rfl
  · obtain ⟨c, tot, n, rfl, ⟨g, m, t, hc, m0, m1, t0, t1⟩, hn, p1, p2, q⟩ := h
    have hL : ∀ {H : Hp} {a b d : V}, H c = some (.lst [a, b, d]) → SqL K H c [a, b, d] := fun h => .inl (.inl h)
    refine ⟨_, pss_cons (ps_if (pt_cmpR op_gt (pe_ix ix_list (pv 0) pe_int (fun _ _ => rfl)) pe_int (nomark _))
        (pss_cons (ps_set (i := 2) scDip.nd rfl (.inl rfl) (pe_op op_mod (pe_callTy call_int1 (by rfl) M.int bt_int (pa_cons (pe_ix ix_list (pv 0) pe_int (fun _ _ => rfl)) pa_nil)) (pv 1)))
        (pss_cons (ps_asg (pe_op op_fdiv (pe_ix ix_list (pv 0) pe_int (fun _ _ => rfl)) (pv 1)) (pg_sub (pv 0) pe_int set_list))
        (pss_one (ps_ret (pv 2))))) pss_nil)
      (pss_cons (ps_asg (pe_op op_add (pe_ix ix_list (pv 0) pe_int (fun _ _ => rfl)) pe_int) (pg_sub (pv 0) pe_int set_list))
      (pss_cons (ps_set (i := 3) scDip.nd rfl (.inl rfl) (pe_op op_mod (pe_callTy call_int1 (by rfl) M.int bt_int (pa_cons (pe_op op_add (pe_ix ix_list (pv 0) pe_int (fun _ _ => rfl)) (pe_op op_mul pe_int (pe_ix ix_list (pv 0) pe_int (fun _ _ => rfl)))) pa_nil)) pe_int))
      (pss_cons (ps_set (i := 4) scDip.nd rfl (.inl rfl) (pe_op op_add (pe_op op_mul (pe_op op_mod (pe_callTy call_int1 (by rfl) M.int bt_int (pa_cons (pe_op op_mul (pv 3) (pv 3)) pa_nil)) pe_int) (pv 3)) (pe_op op_mul pe_int (pe_ix ix_list (pv 0) pe_int (fun _ _ => rfl)))))
      (pss_one (ps_ret (pe_op op_mod (pe_callTy call_int1 (by rfl) M.int bt_int (pa_cons (pe_op op_fdiv (pe_op op_mod (pe_callTy call_int1 (by rfl) M.int bt_int (pa_cons (pv 4) pa_nil)) pe_int) pe_int) pa_nil)) (pv 1))))))), ?_⟩
    refine ⟨.ref c, rfl, c, _, 0, .int g, rfl, rfl, hL hc, rfl, g, 0, rfl, rfl, _, rfl, ite2 (fun _ => ?_) (fun _ => ?_)⟩
    · refine ⟨.ref c, rfl, c, _, 0, .int g, rfl, rfl, hL hc, rfl, .inl ⟨g, rfl, .int tot, rfl, g, tot, rfl, rfl, by omega, ?_⟩⟩
      refine ⟨.ref c, rfl, c, _, 0, .int g, rfl, rfl, hL hc, rfl, .int tot, rfl, g, tot, rfl, rfl, ⟨by omega, by omega⟩, ?_⟩
      refine ⟨.ref c, rfl, c, _, 0, 0, rfl, rfl, hc, rfl, ?_⟩
      refine ⟨.int (g % tot), rfl, q _ _ (Int.emod_nonneg _ (by omega)) (Int.emod_lt_of_pos _ (by omega)) Kp.up ⟨_, m, t, upd_same, m0, m1, t0, by omega⟩⟩
    · refine ⟨.ref c, rfl, c, _, 2, .int t, rfl, rfl, hL hc, rfl, t, 1, rfl, rfl, ?_⟩
      refine ⟨.ref c, rfl, c, _, 2, 2, rfl, rfl, hc, rfl, ?_⟩
      have hc2 : (upd H c (.lst [.int g, .int m, .int (t + 1)])) c = some (.lst [.int g, .int m, .int (t + 1)]) := upd_same
      refine ⟨.ref c, rfl, c, _, 1, .int m, rfl, rfl, hL hc2, rfl, .ref c, rfl, c, _, 2, .int (t + 1), rfl, rfl, hL hc2, rfl, 1000099, t + 1, rfl, rfl, .inl (by decide), m, 1000099 * (t + 1), rfl, rfl, .inl ⟨_, rfl, _, 2305843009213693951, rfl, rfl, by show (0 : Int) < _; decide, ?_⟩⟩
      generalize ho : (m + 1000099 * (t + 1)) % 2305843009213693951 = one
      have o0 : 0 ≤ one := by rw [← ho]; exact Int.emod_nonneg _ (by decide)
      have o1 : one < 2305843009213693951 := by rw [← ho]; exact Int.emod_lt_of_pos _ (by decide)
      refine ⟨.int one, by rw [← ho]; rfl, .int one, by rw [← ho]; rfl, one, one, rfl, rfl, .inl ⟨by omega, by omega⟩, .inl ⟨_, rfl, _, 2305843009213693907, rfl, rfl, by show (0 : Int) < _; decide, ?_⟩⟩
      refine ⟨.int one, by rw [← ho]; rfl, _, one, rfl, rfl, .inr ⟨by omega, by omega⟩, .ref c, rfl, c, _, 2, .int (t + 1), rfl, rfl, hL hc2, rfl, 9041, t + 1, rfl, rfl, .inl (by decide), _, _, rfl, rfl, ?_⟩
      refine ⟨_, rfl, .inl ⟨_, rfl, _, 2305843009213693921, rfl, rfl, by show (0 : Int) < _; decide, ?_⟩⟩
      refine ⟨_, 16384, rfl, rfl, ⟨by decide, by decide⟩, .inl ⟨_, rfl, .int tot, rfl, _, tot, rfl, rfl, by show (0 : Int) < tot; omega, ?_⟩⟩
      exact q _ _ (Int.emod_nonneg _ (by omega)) (Int.emod_lt_of_pos _ (by omega)) Kp.up ⟨g, m, t + 1, upd_same, m0, m1, by omega, by omega⟩
def spPick (K : PySem.W.Frag) : Sp := fun vs H Q _ => ∃ c l n xs, vs = [.ref c, .ref l] ∧ PotN H c n ∧ n ≤ 1000000 ∧ SqL K (dl [c] H) l xs ∧ xs ≠ [] ∧ xs.length < 1000000 ∧ ∀ (i : Nat) v H', xs[i]? = some v → Kp c H H' → PotN H' c (n + 1) → Q v H'
theorem kp_seq {c : Addr} {H H' : Hp} {l : Addr} {xs : List V} (h : SqL K (dl [c] H) l xs) (s : Kp c H H') : SqL K H' l xs := (dl_le [c] H').seq ((s.dl (by simp)).seq h)
theorem atI_int {xs : List V} {i : Int} {v : V} (h0 : 0 ≤ i) (h : xs[i.toNat]? = some v) : atI xs i = some v := by
  have e : i = ((i.toNat : Nat) : Int) := by omega
  rw [e]
  exact atI_nat h
theorem ok_pick {f fD : Addr} {fd fdD : FuncData} {k : Nat} (F : Fun K "_law_pick" "_law_pick" (topS 37) f fd) (M : Mg K mg)
    (GD : FnOk P w K mg base CX0 k fD fdD ["_law_pot_here", "_law_total"] spDip) (kD : PySem.W.keepIn K (.ref fD) = true) (bD : Binds K fdD ["_law_pot_here", "_law_total"] []) (gD : mg "_law_dip" = some (.ref fD)) :
    FnOk P w K mg base CX0 (k + 1) f fd ["_law_pot_here", "_law_items"] (spPick K) := by
  refine F.ok scPick (fun vs H Q E h => ?_) (fun cdv A outer s H vs Q E hr h => ?_)
  · obtain ⟨c, l, n, xs, rfl, _⟩ := h
    rfl
  · obtain ⟨c, l, n, xs, rfl, hp, hn, hl, hne, hz, q⟩ := h
    have hl0 : SqL K H l xs := (dl_le _ _).seq hl
    have h1 : 1 ≤ xs.length := List.length_pos_iff.2 hne
    refine ⟨_, pss_one (ps_ret (pe_ix ix_list (pv 1) (pe_call GD hr (by rfl) gD kD bD .nil pass0 (pa_cons (pv 0) (pa_cons (pe_callB call_len_seq (by rfl) M.len bt_len (pa_cons (pv 1) pa_nil)) pa_nil))) (fun _ _ => rfl))), ?_⟩
    refine ⟨.ref l, rfl, .ref c, rfl, .ref l, rfl, l, xs, rfl, .inl hl0, c, xs.length, n, rfl, hp, hn, by omega, by omega, fun i H' i0 i1 kp hp' => ?_⟩
    have hi : i.toNat < xs.length := by omega
    refine ⟨l, xs, i, xs[i.toNat], rfl, rfl, kp_seq hl kp, atI_int i0 (List.getElem?_eq_getElem hi), ?_⟩
    exact q i.toNat _ H' (List.getElem?_eq_getElem hi) kp hp'
/-- a fresh list of the same items in some order -/
def spShake (K : PySem.W.Frag) : Sp := fun vs H Q _ => ∃ c l n xs, vs = [.ref c, .ref l] ∧ PotN H c n ∧ n + xs.length ≤ 1000000 ∧ SqL K (dl [c] H) l xs ∧ xs.length ≤ 1000 ∧ ∀ ys l' H', ys.Perm xs → Kp c H H' → PotN H' c (n + xs.length) → H l' = none → H' l' = some (.lst ys) → Q (.ref l') H'
theorem erase_perm {α : Type} : ∀ {l : List α} {i : Nat} {x : α}, l[i]? = some x → (x :: l.eraseIdx i).Perm l
  | [], _, _, h => by simp at h
  | a :: l, 0, x, h => by
    cases h
    exact .refl _
  | a :: l, i + 1, x, h => by
    have ih := erase_perm (l := l) (i := i) (x := x) h
    rw [List.eraseIdx_cons_succ]
    exact (List.Perm.swap a x _).trans (ih.cons a)
theorem ok_shake {f fD : Addr} {fd fdD : FuncData} {k : Nat} (F : Fun K "_law_shaken" "_law_shaken" (topS 38) f fd) (M : Mg K mg)
    (GD : FnOk P w K mg base CX0 k fD fdD ["_law_pot_here", "_law_total"] spDip) (kD : PySem.W.keepIn K (.ref fD) = true) (bD : Binds K fdD ["_law_pot_here", "_law_total"] []) (gD : mg "_law_dip" = some (.ref fD)) :
    FnOk P w K mg base CX0 (k + 1) f fd ["_law_pot_here", "_law_items"] (spShake K) := by
  refine F.ok scShake (fun vs H Q E h => ?_) (fun cdv A outer s H vs Q E hr h => ?_)
  · obtain ⟨c, l, n, xs, rfl, _⟩ := h
    rfl
  · obtain ⟨c, l, n, xs, rfl, hp, hn, hl, hz, q⟩ := h
    have hl0 : SqL K H l xs := (dl_le _ _).seq hl
    refine ⟨_, pss_cons (ps_set (i := 2) scShake.nd rfl (.inr rfl) (pe_callTy call_list_of (by rfl) M.list bt_list (pa_cons (pv 1) pa_nil)))
      (pss_one (ps_ret (pe_lc (own := [("_law_turn", 3)]) (te := tBM K "list" rPopAt (tVar 2) (tCons (tCall spDip [] E0 (tCons (tVar 0) (tCons (tCB (fun xs H Q => ∃ p ys, xs = [.ref p] ∧ (SqL K H p ys ∨ SqT K H p ys) ∧ Q (.int ys.length) H) (tCons (tVar 2) tNil)) tNil))) tNil)) rfl scShake.nd
        (pi_range1 (by rfl) M.range (pa_cons (pe_callB call_len_seq (by rfl) M.len bt_len (pa_cons (pv 1) pa_nil)) pa_nil)) (blkOk_by (by kernel_rfl)) (fun s H C cl fp => pg_name (i := 3) scShake.nd rfl (.inl rfl)) (fun s H C cl fp => pts_nil)
        (fun s H C cl fp => pe_bm PySem.F.plainAttrs_list PySem.F.slot_list_pop PySem.F.type_list_pop mt_popAt (pv 2) (pa_cons (pe_call GD hr (by rfl) gD kD bD .nil pass0 (pa_cons (pv 0) (pa_cons (pe_callB call_len_seq (by rfl) M.len bt_len (pa_cons (pv 2) pa_nil)) pa_nil))) pa_nil))))), ?_⟩
    refine ⟨.ref l, rfl, l, xs, rfl, .inl hl0, fun a na => ?_⟩
    have ca : c ≠ a := by
      obtain ⟨zs, hc⟩ := hp.lst
      exact ne_of_none hc na
    refine ⟨.ref l, rfl, l, xs, rfl, .inl ((up_same na).seq hl0), xs.length, rfl, by omega, by omega, fun D nD => ?_⟩
    have Da : D ≠ a := fun z => by
      rw [z, upd_same] at nD
      cases nD
    have nD0 : H D = none := (up_same na).free nD
    have cD : c ≠ D := by
      obtain ⟨zs, hc⟩ := hp.lst
      exact ne_of_none hc nD0
    refine lc_range (lo := 0) (n := xs.length) (fun i H2 => Kp c H H2 ∧ PotN H2 c (n + i) ∧ ∃ left got : List V, H2 a = some (.lst left) ∧ H2 D = some (.lst got) ∧ (got ++ left).Perm xs ∧ got.length = i)
      ⟨(Kp.of (up_same na)).trans (Kp.of (up_same nD)), (hp.same ((up_same na).trans (up_same nD))).mono (by omega), xs, [], by rw [upd_ne Da.symm]; exact upd_same, upd_same, .refl _, rfl⟩ (fun i H2 hi p => ?_) fun H2 p => ?_
    · obtain ⟨kp, hp2, left, got, ea, eD, pm, gl⟩ := p
      have ll : left.length = xs.length - i := by
        have := pm.length_eq
        rw [List.length_append] at this
        omega
      refine ⟨rfl, .ref a, rfl, .inl ⟨rfl, _, .inl (.inl ea)⟩, .ref c, rfl, .ref a, rfl, a, left, rfl, .inl (.inl (.inl ea)), c, left.length, n + i, rfl, hp2, by omega, by omega, by omega, fun j H3 j0 j1 kp3 hp3 => ?_⟩
      have jl : j.toNat < left.length := by omega
      have ea3 : H3 a = some (.lst left) := kp3 _ _ ca.symm ea
      have eD3 : H3 D = some (.lst got) := kp3 _ _ cD.symm eD
      refine ⟨a, left, j, j.toNat, left[j.toNat], rfl, rfl, ea3, by omega, by omega, ?_, List.getElem?_eq_getElem jl, ?_⟩
      · refine (ixN_seq ?_).1
        unfold ixN
        rw [if_pos j0, if_pos (by omega)]
      · refine ⟨got, by rw [upd_ne Da]; exact eD3, small1000 (by omega), ?_⟩
        refine ⟨fun b x hb hx => ?_, ?_, left.eraseIdx j.toNat, got ++ [left[j.toNat]], by rw [upd_ne Da.symm]; exact upd_same, upd_same, ?_, by rw [List.length_append, gl]; rfl⟩
        · rw [upd_ne (ne_of_none hx nD0), upd_ne (ne_of_none hx na)]
          exact kp3 _ _ hb (kp _ _ hb hx)
        · obtain ⟨g, m, t, h1, r⟩ := hp3
          exact ⟨g, m, t, by rw [upd_ne cD, upd_ne ca]; exact h1, r⟩
        · rw [List.append_assoc]
          exact ((erase_perm (List.getElem?_eq_getElem jl)).append_left got).trans pm
    · obtain ⟨kp, hp2, left, got, ea, eD, pm, gl⟩ := p
      have l0 : left = [] := by
        have := pm.length_eq
        rw [List.length_append] at this
        exact List.eq_nil_of_length_eq_zero (by omega)
      rw [l0, List.append_nil] at pm
      exact q got D H2 pm kp hp2 nD0 eD
end
end Kt
/-! the law's pot; drawn terms -/
namespace Kt
open PySem PySem.Spec PyProof.Rows L2
theorem scPot : FnScope ["_law_script", "_law_at", "_law_cell", "_law_great", "_law_mixed"] ["_law_script", "_law_at"] (defScope (topS 35)) := ⟨rfl, rfl, rfl, by decide +kernel, rfl, by decide +kernel, by decide +kernel⟩
theorem scLTerms : FnScope ["_law_pot_here", "_law_names", "_law_found", "_law_turn", "_law_term"] ["_law_pot_here", "_law_names"] (defScope (topS 48)) := ⟨rfl, rfl, rfl, by decide +kernel, rfl, by decide +kernel, by decide +kernel⟩
/-- all names that the law draws from -/
def cU : List Str := ["a", "b", "c", "u", "x"]
theorem cU_le : cU.Pairwise fun a b => PySem.W.dataLe false PyData.str a b = true := by decide +kernel
theorem cU_nd : cU.Nodup := by decide +kernel
/-- sorted of different names from an ascending list of them -/
theorem srt_names {names zs : List Str} (hn : names.Sublist cU) (nd : zs.Nodup) (hz : ∀ z ∈ zs, z ∈ names) : (srt PyData.str zs).Sublist names ∧ (srt PyData.str zs).length = zs.length ∧ ∀ y, y ∈ srt PyData.str zs ↔ y ∈ zs := by
  have e : srt PyData.str zs = names.filter fun x => decide (x ∈ zs) := by
    refine srt_of_sorted inj_str (nodup_perm nd ((hn.nodup cU_nd).filter _) fun q => ?_) ((cU_le.sublist hn).filter _)
    rw [List.mem_filter, decide_eq_true_eq]
    exact ⟨fun h => ⟨hz q h, h⟩, fun h => h.2⟩
  refine ⟨by rw [e]; exact List.filter_sublist, (srt_perm_self _ zs).length_eq, fun y => srt_mem⟩
theorem srt_str {A : Around} (hu : A.units + 64 < cLine) (zs : List Str) (h : zs.length ≤ 1000) : Srt A PyData.str zs := by
  refine ⟨fun d hd e he => ?_, .inr fun d hd => ?_, fun b _ => ?_, by rw [sizeLine_eq]; omega⟩
  · obtain ⟨_, _, rfl⟩ := List.mem_map.1 hd
    obtain ⟨_, _, rfl⟩ := List.mem_map.1 he
    rfl
  · obtain ⟨_, _, rfl⟩ := List.mem_map.1 hd
    exact ⟨fun z => (by cases z), fun xs z => (by cases z)⟩
  · show A.units + 2 + PyData.depth (.str _) < cLine
    simp only [PyData.depth]
    omega
section
variable {P : Program} {w : World} {K : PySem.W.Frag} {mg : Str → Option Value} {base : Heap}
def spPot (K : PySem.W.Frag) : Sp := fun vs H Q _ => ∃ (s : Addr) (ns : List Int) (at_ : Int), vs = [.ref s, .int at_] ∧ SqL K H s (ns.map V.int) ∧ ns.length ≤ 1000 ∧ 0 ≤ at_ ∧ at_ < 10 ∧ ∀ c H', Same H H' → H c = none → PotN H' c 0 → Q (.ref c) H'
abbrev lenSq (K : PySem.W.Frag) : List V → Hp → VK → Prop := fun xs H Q => ∃ p ys, xs = [.ref p] ∧ (SqL K H p ys ∨ SqT K H p ys) ∧ Q (.int ys.length) H
theorem cell_any {σ : L2.St} {H : Hp} {R : VK} {sc : Addr} {ns : List Int} {i : Int} (h0 : σ[0]? = some (some (.ref sc))) (h1 : σ[1]? = some (some (.int i))) (hs : SqL K H sc (ns.map V.int)) (i0 : 0 ≤ i) (i1 : i < 10) (h : ∀ cell : Int, R (.int cell) H) :
    tIf (tTest (tOp (rI0 fun i j => .bl (decide (i < j))) (tVar 1) (tCB (lenSq K) (tCons (tVar 0) tNil)))) (tOp (rIxL K) (tVar 0) (tVar 1)) (tOp (rI0 fun i j => .int (i + j)) (tOp (rI CMul fun i j => .int (i * j)) (tC (.int 59)) (tVar 1)) (tC (.int 41))) σ H R := by
  refine ⟨.int i, h1, .ref sc, h0, sc, ns.map V.int, rfl, .inl hs, i, _, rfl, rfl, _, rfl, ite2 (fun z => ?_) fun z => ?_⟩
  · have lt : i < (ns.map V.int).length := of_decide_eq_true z
    rw [List.length_map] at lt
    have hi : i.toNat < ns.length := by omega
    exact ⟨.ref sc, h0, .int i, h1, sc, ns.map V.int, i, .int ns[i.toNat], rfl, rfl, hs, atI_int i0 (by rw [List.getElem?_map, List.getElem?_eq_getElem hi]; rfl), h _⟩
  · exact ⟨.int i, h1, 59, i, rfl, rfl, .inl ⟨by decide, by decide⟩, 59 * i, 41, rfl, rfl, h _⟩
theorem ok_pot {f : Addr} {fd : FuncData} {k : Nat} (F : Fun K "_law_pot" "_law_pot" (topS 35) f fd) (M : Mg K mg) : FnOk P w K mg base CX0 (k + 1) f fd ["_law_script", "_law_at"] (spPot K) := by
  refine F.ok scPot (fun vs H Q E h => ?_) (fun cdv A outer s H vs Q E hr h => ?_)
  · obtain ⟨s, ns, i, rfl, _⟩ := h
    rfl
  · obtain ⟨sc, ns, i, rfl, hs, hz, i0, i1, q⟩ := h
    refine ⟨_, pss_cons (ps_set (i := 2) scPot.nd rfl (.inl rfl) (pe_ifExp (pt_cmpR op_lt (pv 1) (pe_callB call_len_seq (by rfl) M.len bt_len (pa_cons (pv 0) pa_nil)) (nomark _)) (pe_ix ix_list (pv 0) (pv 1) (fun _ _ => rfl)) (pe_op op_add (pe_op op_mul pe_int (pv 1)) pe_int)))
      (pss_cons (ps_set (i := 3) scPot.nd rfl (.inl rfl) (pe_op op_mod (pe_callTy call_int1 (by rfl) M.int bt_int (pa_cons (pe_callB call_abs (by rfl) M.abs bt_abs (pa_cons (pv 2) pa_nil)) pa_nil)) (pe_op op_powX (pe_op op_pow pe_int pe_int) pe_int)))
      (pss_cons (ps_set (i := 4) scPot.nd rfl (.inl rfl) (pe_op op_add (pe_op op_add (pe_op op_add (pe_op op_mul (pe_op op_mod (pe_callTy call_int1 (by rfl) M.int bt_int (pa_cons (pv 3) pa_nil)) pe_int) pe_int) (pe_op op_mul pe_int (pv 1)))
          (pe_op op_mul pe_int (pe_callTy call_int1 (by rfl) M.int bt_int (pa_cons (pe_cmpR op_lt (pv 2) pe_int (nomark _)) pa_nil)))) pe_int))
      (pss_one (ps_ret (pe_lst (pa_cons (pe_callB (call_max2 rfl) (by rfl) M.max bt_max (pa_cons pe_int (pa_cons (pe_op op_add (pe_op op_sub (pv 3) (pe_op op_pow pe_int pe_int)) pe_int) pa_nil)))
        (pa_cons (pe_op op_mod (pe_callTy call_int1 (by rfl) M.int bt_int (pa_cons (pv 4) pa_nil)) pe_int) (pa_cons pe_int pa_nil)))))))), ?_⟩
    refine cell_any rfl rfl hs i0 i1 fun cell => ?_
    refine ⟨.int cell, rfl, cell, rfl, .inl ⟨_, rfl, 10, 58, rfl, rfl, ⟨by decide, by decide, by decide⟩, _, 9, rfl, rfl, ⟨by decide, by decide +kernel⟩, _, _, rfl, rfl, by show (0 : Int) < _; decide +kernel, ?_⟩⟩
    generalize hg : ((if cell < 0 then -cell else cell) % ((10 : Int) ^ (58 : Int).toNat) ^ (9 : Int).toNat) = great
    refine ⟨.int great, by rw [← hg]; rfl, .inl ⟨_, rfl, great, 2305843009213693669, rfl, rfl, by show (0 : Int) < _; decide, _, 80051, rfl, rfl, .inr ⟨by decide, by decide⟩, .int i, rfl, 7027, i, rfl, rfl, .inl ⟨by decide, by decide⟩, _, _, rfl, rfl, .int cell, rfl, cell, 0, rfl, rfl, .inr ⟨_, rfl, 13, _, rfl, rfl, .inl ⟨by decide, by decide⟩, _, _, rfl, rfl, _, 31, rfl, rfl, ?_⟩⟩⟩
    generalize hm : great % 2305843009213693669 * 80051 + 7027 * i + 13 * (if decide (cell < 0) = true then 1 else 0) + 31 = mixed
    refine ⟨.int great, by rw [← hg]; rfl, 10, 18, rfl, rfl, ⟨by decide, by decide, by decide⟩, _, _, rfl, rfl, _, 1, rfl, rfl, 0, _, rfl, ?_⟩
    refine ⟨.int mixed, by rw [← hm]; rfl, .inl ⟨_, rfl, _, 2305843009213693951, rfl, rfl, by show (0 : Int) < _; decide, by show 3 ≤ sizeLine; decide, fun c nc => ?_⟩⟩
    refine q c _ (up_same nc) nc ⟨_, _, 0, upd_same, Int.emod_nonneg _ (by decide), ?_, Int.le_refl _, Int.le_refl _⟩
    have := Int.emod_lt_of_pos mixed (show (0 : Int) < 2305843009213693951 by decide)
    omega
/-! ### drawn terms -/
theorem dps_perm {α : Type} {H : Hp} {enc : α → PyData} {ys xs : List V} (p : ys.Perm xs) : ∀ {L : List α}, DpAll K H xs (L.map enc) → ∃ L' : List α, L'.Perm L ∧ DpAll K H ys (L'.map enc) := by
  induction p with
  | nil =>
    intro L g
    exact ⟨L, .refl _, g⟩
  | cons x p ih =>
    intro L g
    cases L with
    | nil => cases g
    | cons a L =>
      cases g with
      | cons h g =>
        obtain ⟨L', p', g'⟩ := ih g
        exact ⟨a :: L', p'.cons a, .cons h g'⟩
  | swap x y l =>
    intro L g
    match L, g with
    | [], g => cases g
    | [a], g =>
      cases g with
      | cons _ g => cases g
    | a :: b :: L, g =>
      cases g with
      | cons h1 g =>
        cases g with
        | cons h2 g => exact ⟨b :: a :: L, List.Perm.swap _ _ _, .cons h2 (.cons h1 g)⟩
  | trans p q ih1 ih2 =>
    intro L g
    obtain ⟨L1, p1, g1⟩ := ih2 g
    obtain ⟨L2, p2, g2⟩ := ih1 g1
    exact ⟨L2, p2.trans p1, g2⟩
/-- drawn terms: ascending, of at most three names, different -/
structure Drawn (names : List Str) (ts : List (List Str)) : Prop where
  tm : ∀ t ∈ ts, t.Sublist names ∧ t.length ≤ 3
  nd : ts.Nodup
theorem Drawn.nil (names : List Str) : Drawn names [] := ⟨fun t ht => (by cases ht), List.nodup_nil⟩
theorem Drawn.snoc {names : List Str} {ts : List (List Str)} {t : List Str} (d : Drawn names ts) (h : t.Sublist names ∧ t.length ≤ 3) (n : t ∉ ts) : Drawn names (ts ++ [t]) := by
  refine ⟨fun u hu => ?_, List.nodup_append.2 ⟨d.nd, by simp, fun a ha b hb e => n (by simp at hb; rw [← hb, ← e]; exact ha)⟩⟩
  rcases List.mem_append.1 hu with hu | hu
  · exact d.tm u hu
  · rw [List.mem_singleton.1 hu]
    exact h
theorem any_tm (ts : List (List Str)) (t : List Str) : ((ts.map tm).any fun z => PyData.eqv z (tm t)) = decide (t ∈ ts) := by
  rw [List.any_map, Bool.eq_iff_iff, List.any_eq_true, decide_eq_true_eq]
  constructor
  · rintro ⟨u, hu, e⟩
    rw [← (eqv_tm u t).1 e]
    exact hu
  · intro h
    exact ⟨t, h, (eqv_tm t t).2 rfl⟩
theorem cU_ok : ∀ x ∈ cU, PyData.strOk x = true := by decide +kernel
theorem shaped_tm {t : List Str} (h : AllOk t) : SeqAt.shaped (tm t) = true := shaped_of (lay_tm h) (by rw [depth_tm]; decide)
theorem shaped_tms {ts : List (List Str)} (h : ∀ t ∈ ts, AllOk t) : SeqAt.shaped (.list (ts.map tm)) = true := shaped_list (fun t ht => lay_tm (h t ht)) (fun t => by rw [depth_tm]; decide)
theorem Drawn.ok {names : List Str} {ts : List (List Str)} (d : Drawn names ts) (hn : names.Sublist cU) : ∀ t ∈ ts, AllOk t := fun t ht y hy => cU_ok y (hn.subset ((d.tm t ht).1.subset hy))
/-- a list at l whose items are the terms ts, told without l and c -/
def TsAt (K : PySem.W.Frag) (H : Hp) (c l : Addr) (ts : List (List Str)) : Prop := ∃ xs, H l = some (.lst xs) ∧ DpAll K (dl [l, c] H) xs (ts.map tm)
theorem TsAt.kp {H H' : Hp} {c l : Addr} {ts : List (List Str)} (h : TsAt K H c l ts) (s : Kp c H H') (n : l ≠ c) : TsAt K H' c l ts := by
  obtain ⟨xs, e, g⟩ := h
  exact ⟨xs, s _ _ n e, dps_same (s.dl (by simp)) g⟩
theorem TsAt.list {H : Hp} {c l : Addr} {ts : List (List Str)} (h : TsAt K H c l ts) (n : l ≠ c) : Dp K (dl [c] H) (.ref l) (.list (ts.map tm)) := by
  obtain ⟨xs, e, g⟩ := h
  exact .lst (.inl (.inl (dl_at e (by simpa using n) rfl))) (dps_same (dl_mono fun a ha => by simp at ha ⊢; exact .inr ha) g)
def spLTerms (K : PySem.W.Frag) : Sp := fun vs H Q _ => ∃ c l n names, vs = [.ref c, .ref l] ∧ PotN H c n ∧ n + 100 ≤ 1000000 ∧ SqL K (dl [c] H) l (names.map V.str) ∧ names.Sublist cU ∧
  ∀ ts l' H', Kp c H H' → PotN H' c (n + 100) → H l' = none → TsAt K H' c l' ts → Drawn names ts → ts.length ≤ 4 → Q (.ref l') H'
theorem ok_lterms {f fD fS : Addr} {fd fdD fdS : FuncData} {k : Nat} (F : Fun K "_law_terms" "_law_terms" (topS 48) f fd) (M : Mg K mg)
    (GD : FnOk P w K mg base CX0 k fD fdD ["_law_pot_here", "_law_total"] spDip) (kD : PySem.W.keepIn K (.ref fD) = true) (bD : Binds K fdD ["_law_pot_here", "_law_total"] []) (gD : mg "_law_dip" = some (.ref fD))
    (GS : FnOk P w K mg base CX0 k fS fdS ["_law_pot_here", "_law_items"] (spShake K)) (kS : PySem.W.keepIn K (.ref fS) = true) (bS : Binds K fdS ["_law_pot_here", "_law_items"] []) (gS : mg "_law_shaken" = some (.ref fS)) :
    FnOk P w K mg base CX0 (k + 1) f fd ["_law_pot_here", "_law_names"] (spLTerms K) := by
  refine F.ok scLTerms (fun vs H Q E h => ?_) (fun cdv A outer s H vs Q E hr h => ?_)
  · obtain ⟨c, l, n, names, rfl, _⟩ := h
    rfl
  · obtain ⟨c, l, n, names, rfl, hp, hn, hl, hU, q⟩ := h
    have nl5 : names.length ≤ 5 := hU.length_le
    refine ⟨_, pss_cons (ps_set (i := 2) scLTerms.nd rfl (.inl rfl) (pe_lst pa_nil))
      (pss_cons (ps_for PassesOwn.never rfl (pi_range1 (by rfl) M.range (pa_cons (pe_call GD hr (by rfl) gD kD bD .nil pass0 (pa_cons (pv 0) (pa_cons pe_int pa_nil))) pa_nil)) (pg_name (i := 3) scLTerms.nd rfl (.inl rfl))
        (pss_cons (ps_set (i := 4) scLTerms.nd rfl (.inl rfl) (pe_callTy call_tuple_of (by rfl) M.tuple bt_tuple (pa_cons (pe_callB (cr_sortedV PyData.str) (by rfl) M.sorted bt_sorted (pa_cons (pe_slice sl_list (pe_call GS hr (by rfl) gS kS bS .nil pass0 (pa_cons (pv 0) (pa_cons (pv 1) pa_nil))) po_none (po_some (pe_call GD hr (by rfl) gD kD bD .nil pass0 (pa_cons (pv 0) (pa_cons pe_int pa_nil))))) pa_nil)) pa_nil)))
        (pss_one (ps_if (pt_cmpR (op_notInD (by have h := hr.un; show (A.deeper _).units + 65 < cLine; omega)) (pv 4) (pv 2) (by rfl)) (pss_one (ps_expr (pe_bm PySem.F.plainAttrs_list PySem.F.slot_list_append PySem.F.type_list_append mt_append (pv 2) (pa_cons (pv 4) pa_nil)))) pss_nil))))
      (pss_one (ps_ret (pv 2)))), ?_⟩
    refine ⟨Nat.zero_le _, fun a na => ?_⟩
    have ca : c ≠ a := by
      obtain ⟨zs, hc⟩ := hp.lst
      exact ne_of_none hc na
    refine ⟨.ref c, rfl, c, 5, n, rfl, hp.same (up_same na), by omega, by decide, by decide, fun m H1 m0 m1 kp1 hp1 => ?_⟩
    refine ⟨m, rfl, by omega, by omega, ?_⟩
    have base1 : Kp c H H1 := (Kp.of (up_same na)).trans kp1
    have ea1 : H1 a = some (.lst []) := kp1 _ _ ca.symm upd_same
    refine for_range (lo := 0) (n := m.toNat) (fun i σ H2 => ∃ y3 y4 ts, σ = [some (.ref c), some (.ref l), some (.ref a), y3, y4] ∧ Kp c H H2 ∧ PotN H2 c (n + 1 + 10 * i) ∧ TsAt K H2 c a ts ∧ Drawn names ts ∧ ts.length ≤ i)
      ⟨none, none, [], rfl, base1, hp1, ⟨[], ea1, .nil⟩, Drawn.nil _, Nat.le_refl _⟩ (fun i σ H2 hi p => ?_) fun σ H2 p => ?_
    · obtain ⟨y3, y4, ts, rfl, kp2, hp2, hts, dr, tl⟩ := p
      -- a drawn term
      refine ⟨.ref c, rfl, .ref l, rfl, c, l, n + 1 + 10 * i, names.map V.str, rfl, hp2, by rw [List.length_map]; omega, (kp2.dl (by simp)).seq hl, by rw [List.length_map]; omega, fun ys l' H3 pm kp3 hp3 nl' el' => ?_⟩
      rw [List.length_map] at hp3
      have cl' : c ≠ l' := by
        obtain ⟨zs, hc⟩ := hp2.lst
        exact ne_of_none hc nl'
      refine ⟨.ref c, rfl, c, 4, _, rfl, hp3, by omega, by decide, by decide, fun j H4 j0 j1 kp4 hp4 => ?_⟩
      have el4 : H4 l' = some (.lst ys) := kp4 _ _ cl'.symm el'
      refine ⟨j, rfl, l', ys, rfl, .inl (.inl el4), fun cu ncu => ?_⟩
      -- the cut list
      have ecut : cutV ys none (some j) = ys.take j.toNat := by
        unfold cutV
        rw [HT.sIx_none]
        have e : j = ((j.toNat : Nat) : Int) := by omega
        rw [e, show HT.sIx ys.length ys.length (some ((j.toNat : Nat) : Int)) = min j.toNat ys.length from HT.sIx_nat _ _ _, List.drop_zero, Nat.sub_zero, Int.toNat_natCast]
        by_cases hjl : j.toNat ≤ ys.length
        · rw [Nat.min_eq_left hjl]
        · rw [Nat.min_eq_right (by omega), List.take_of_length_le (Nat.le_refl _), List.take_of_length_le (by omega)]
      rw [ecut]
      obtain ⟨L', pL, gL⟩ := dps_perm pm (L := names) (enc := PyData.str) (dps_strs K H4 names)
      have eys := dps_str gL
      have nd' : L'.Nodup := pL.nodup_iff.2 (hU.nodup cU_nd)
      have gcut : DpAll K H4 (ys.take j.toNat) ((L'.take j.toNat).map PyData.str) := by
        rw [List.map_take]
        exact dps_take _ gL
      have zn : (L'.take j.toNat).Nodup := nd'.sublist (List.take_sublist _ _)
      have zin : ∀ z ∈ L'.take j.toNat, z ∈ names := fun z hz => pL.mem_iff.1 (List.mem_of_mem_take hz)
      obtain ⟨z1, z2, z3⟩ := srt_names hU zn zin
      refine ⟨cu, ys.take j.toNat, L'.take j.toNat, H4, rfl, .inl (.inl upd_same), up_same ncu, gcut, srt_str hr.units _ ?_, fun us so dus nso => ?_⟩
      · rw [List.length_take, pL.length_eq]
        omega
      · refine ⟨so, us, rfl, .inl ⟨.inl (.inl upd_same), fun tt ntt => ?_⟩⟩
        have e2 := dps_str dus
        subst e2
        have s4 : Same H4 (upd (upd (upd H4 cu (.lst (ys.take j.toNat))) so (.lst ((srt PyData.str (L'.take j.toNat)).map V.str))) tt (.tup ((srt PyData.str (L'.take j.toNat)).map V.str))) := ((up_same ncu).trans (up_same nso)).trans (up_same ntt)
        have htt : (upd (upd (upd H4 cu (.lst (ys.take j.toNat))) so (.lst ((srt PyData.str (L'.take j.toNat)).map V.str))) tt (.tup ((srt PyData.str (L'.take j.toNat)).map V.str))) tt = some (.tup ((srt PyData.str (L'.take j.toNat)).map V.str)) := upd_same
        have ntt0 : H4 tt = none := ((up_same ncu).trans (up_same nso)).free ntt
        generalize upd (upd (upd H4 cu (.lst (ys.take j.toNat))) so (.lst ((srt PyData.str (L'.take j.toNat)).map V.str))) tt (.tup ((srt PyData.str (L'.take j.toNat)).map V.str)) = H5 at s4 htt ⊢
        generalize ht0 : srt PyData.str (L'.take j.toNat) = t at z1 z2 z3 htt ⊢
        have t3 : t.length ≤ 3 := by
          rw [z2, List.length_take]
          omega
        have kp5 : Kp c H2 H5 := (kp3.trans kp4).trans (Kp.of s4)
        have hp5 : PotN H5 c (n + 1 + 10 * (i + 1)) := (hp4.same s4).mono (by omega)
        have hts5 : TsAt K H5 c a ts := hts.kp kp5 ca.symm
        have hl5 := hts5.list ca.symm
        have ea2 : ∃ zs, H2 a = some (.lst zs) := let ⟨zs, e, _⟩ := hts; ⟨zs, e⟩
        have ea4 : H4 a ≠ none := by
          obtain ⟨zs, e⟩ := ea2
          rw [(kp3.trans kp4) _ _ ca.symm e]
          intro z
          cases z
        have tta : tt ≠ a := fun z => ea4 (by rw [← z]; exact ntt0)
        have ttc : tt ≠ c := fun z => by
          obtain ⟨zs, hc⟩ := hp4.lst
          rw [← z, ntt0] at hc
          cases hc
        have okt : AllOk t := fun y hy => cU_ok y (hU.subset (z1.subset hy))
        refine ⟨.ref tt, rfl, .ref a, rfl, tm t, ts.map tm, dp_tm_of (.inl (.inl htt)), dp_le hl5, shaped_tm okt, shaped_tms (dr.ok hU), _, rfl, ?_⟩
        rw [any_tm]
        refine ite2 (fun z => ?_) fun z => ?_
        · have nin : t ∉ ts := fun h => by
            rw [decide_eq_true h] at z
            cases z
          obtain ⟨zs, ea5, g5⟩ := hts5
          have zl : zs.length = ts.length := by
            have := dps_len g5
            rw [List.length_map] at this
            exact this
          refine ⟨.ref a, rfl, .inl ⟨rfl, _, .inl (.inl ea5)⟩, .ref tt, rfl, a, zs, _, rfl, rfl, ea5, small1000 (by omega), ?_⟩
          refine ⟨_, _, ts ++ [t], rfl, fun b x hb hx => ?_, ?_, ⟨zs ++ [.ref tt], upd_same, ?_⟩, dr.snoc ⟨z1, t3⟩ nin, by rw [List.length_append, List.length_singleton]; omega⟩
          · rw [upd_ne (ne_of_none hx na)]
            exact kp5 _ _ hb (kp2 _ _ hb hx)
          · obtain ⟨g, mm, tt', h1, r⟩ := hp5
            exact ⟨g, mm, tt', by rw [upd_ne ca]; exact h1, r⟩
          · rw [dl_in List.mem_cons_self, List.map_append]
            exact dps_snoc g5 (dp_tm_of (.inl (.inl (dl_at htt (by simp [tta, ttc]) rfl))))
        · exact ⟨_, _, ts, rfl, kp2.trans kp5, hp5, hts5, dr, by omega⟩
    · obtain ⟨y3, y4, ts, rfl, kp2, hp2, hts, dr, tl⟩ := p
      refine ⟨.ref a, rfl, q ts a H2 kp2 (hp2.mono (by omega)) na hts dr (by omega)⟩
end
end Kt
/-! sorted of a tuple of texts; the law's other terms -/
namespace Kt
open PySem PySem.Spec PyProof.Rows L2
section
variable {P : Program} {w : World} {A : Around} {E : Value → Shared → Prop} {s : Shared} {β : Type} {enc : β → PyData} {f : β → Value} {L : List β} {a : Addr}
theorem sorted_gotR {Q : Value → Shared → Prop} {R : Shared → Prop}
    (got : ∀ (E' : Value → Shared → Prop) (Q' : List Value → Shared → Prop), (∀ z out, (∀ b o, s.heap.get? b = some o → z.heap.get? b = some o) → R z → z.gens = s.gens → z.os = s.os → out.Perm (L.map f) → Q' out z) → wpAny (model P w) A.in1 (collect (.ref a)) Q' E' s)
    (ok : Srt A enc L) (rd : ∀ b ∈ L, ∃ as, Reads s.heap (f b) (enc b) as)
    (h : ∀ b z p c L1, R b → p = b.heap.objs.size → (∀ x o, b.heap.get? x = some o → z.heap.get? x = some o) → z.gens = b.gens → z.os = b.os → L1.Perm L → z.heap.get? p = some (seqObj "list" ((srt enc L1).map f).toArray c) → Q (.ref p) z) :
    wpAny (model P w) A (call (.builtin "sorted") [.ref a]) Q E s := by
  refine Calls.call_function_entry kind_sorted plain_sorted entry_sorted (args_sorted1 _) ?_
  unfold Builtin.«sorted»
  refine wpAny_bind (m := checkCount "sorted" 1 1 _) (wpAny_pure ?_)
  refine wpAny_bind (got _ _ fun b vs up le g o pm => ?_)
  obtain ⟨L1, p1, rfl⟩ := perm_lift pm L rfl
  have ok1 := ok.perm p1
  have rd1 : ∀ x ∈ L1, ∃ as, Reads b.heap (f x) (enc x) as := fun x hx => by
    obtain ⟨as, r⟩ := rd x (p1.mem_iff.1 hx)
    exact ⟨as, PyProof.Rows.Reads.keeps up r⟩
  have hz : (L1.map f).length ≤ sizeLine := by rw [List.length_map]; exact ok1.len
  refine wpAny_bind (wpAny_newList ?_ hz)
  have ho : (b.heap.push (seqObj "list" (L1.map f).toArray 0)).get? b.heap.objs.size = some (seqObj "list" (L1.map f).toArray 0) := Heap.get?_push_size _ rfl
  have up2 : ∀ c o, b.heap.get? c = some o → (PySem.W.sortingHeap (b.heap.push (seqObj "list" (L1.map f).toArray 0)) b.heap.objs.size (L1.map f)).get? c = some o := fun c o e =>
    PySem.W.sortingHeap_old (Nat.ne_of_lt (Heap.lt_size e)) (Heap.get?_push_of_some _ e)
  have er : PySem.W.EachIs (fun v x => ∃ as, Reads (PySem.W.sortingHeap (b.heap.push (seqObj "list" (L1.map f).toArray 0)) b.heap.objs.size (L1.map f)) v (enc x) as) (L1.map f) L1 := each_of fun x hx => by
    obtain ⟨as, r⟩ := rd1 x hx
    exact ⟨as, PyProof.Rows.Reads.keeps up2 r⟩
  refine wpAny_bind (wpAny_holding (wpAny_call_entry PySem.F.slot_list_sort ⟨_, ho, rfl⟩ PySem.F.entry_list_sort
    (PySem.W.list_sort_vals (κ := PySem.W.dataKind (PySem.W.sortingHeap (b.heap.push (seqObj "list" (L1.map f).toArray 0)) b.heap.objs.size (L1.map f)) (L1.map enc)) ho
      (PySem.W.SortsAt.data (PySem.W.each_map (R := fun v d => ∃ as, Reads _ v d as) enc er) ok1.al ok1.so (PySem.W.bound_map fun x hx => ok1.dp x hx)) hz ⟨.none, rfl, ?_⟩) (PyProof.Rows.args_list_sort _)))
  have es := PySem.W.sortVals_data (R := fun v x => v = f x) false (each_of fun x _ => rfl) er ok1.al
  rw [each_map_of es]
  obtain ⟨c, hc⟩ := sortedHeap_at (vs := L1.map f) (out := ((srt enc L1).map f).toArray) ho
  refine wpAny_pure ⟨_, rfl, h b _ _ c L1 le rfl (fun x o e => ?_) rfl rfl p1 hc⟩
  have lt := Heap.lt_size e
  exact (sortedHeap_old (Nat.ne_of_lt lt) (by rw [size_push']; exact Nat.lt_succ_of_lt lt)).trans (Heap.get?_push_of_some _ e)
end
section
variable {X : Cx}
theorem strs_vals : ∀ (zs : List Str) (us : List Value), Vals (zs.map V.str) us → ∃ ts : List (Str × Nat), us = ts.map (fun p => Value.str p.1 p.2) ∧ ts.map (·.1) = zs
  | [], us, r => by
    cases r
    exact ⟨[], rfl, rfl⟩
  | z :: zs, us, r => by
    cases r with
    | cons h t =>
      obtain ⟨k, rfl⟩ := h
      obtain ⟨ts, rfl, e⟩ := strs_vals zs _ t
      exact ⟨(z, k) :: ts, rfl, by rw [List.map_cons, e]⟩
theorem vals_strs : ∀ ts : List (Str × Nat), Vals ((ts.map (·.1)).map V.str) (ts.map fun p => Value.str p.1 p.2)
  | [] => .nil
  | p :: ts => .cons ⟨p.2, rfl⟩ (vals_strs ts)
theorem cr_sortedTup : CallR X (.builtin "sorted") fun vs H Q => ∃ (a : Addr) (zs : List Str), vs = [V.ref a] ∧ SqT X.K H a (zs.map V.str) ∧ zs.length ≤ 1000 ∧ X.A.units + 64 < cLine ∧
    ∀ p, H p = none → Q (.ref p) (upd H p (.lst ((srt PyData.str zs).map V.str))) := by
  intro pins s σ H vs us Q I r h
  obtain ⟨a, zs, rfl, ha, hz, hu, q⟩ := h
  rw [Vals.ref1 r]
  obtain ⟨its, rv, ⟨o, ho, hc, n, hd⟩, hsz⟩ := I.tuple ha
  obtain ⟨ts, rfl, ez⟩ := strs_vals zs its rv
  have tl : ts.length = zs.length := by rw [← ez, List.length_map]
  refine sorted_gotR (L := ts) (f := fun p : Str × Nat => Value.str p.1 p.2) (enc := fun p : Str × Nat => PyData.str p.1) (R := fun b => ∃ h', (∀ b o', s.heap.get? b = some o' → h'.get? b = some o') ∧ b = { s with heap := h' })
    (fun E' Q' hq => wpAny_collect_seq a (.inr rfl) ho hc hd (fun h' hk => ?_) (by rw [List.size_toArray, List.length_map, tl]; exact Nat.le_of_lt (small1000 hz))) ?_ (fun b hb => ⟨_, Reads.str _ _⟩) fun b z p c L1 hR ep up g o p1 hp => ?_
  · have e : (ts.map fun p : Str × Nat => Value.str p.1 p.2).toArray.toList = ts.map fun p => Value.str p.1 p.2 := by simp
    rw [e]
    exact hq _ _ hk ⟨h', hk, rfl⟩ rfl rfl (.refl _)
  · refine ⟨fun d hd e he => ?_, .inr fun d hd => ?_, fun b _ => ?_, by rw [sizeLine_eq]; omega⟩
    · obtain ⟨_, _, rfl⟩ := List.mem_map.1 hd
      obtain ⟨_, _, rfl⟩ := List.mem_map.1 he
      rfl
    · obtain ⟨_, _, rfl⟩ := List.mem_map.1 hd
      exact ⟨fun z => (by cases z), fun xs z => (by cases z)⟩
    · show X.A.units + 2 + PyData.depth (.str _) < cLine
      simp only [PyData.depth]
      omega
  · obtain ⟨h', hk, rfl⟩ := hR
    have I1 : Inv X pins σ H { s with heap := h' } := I.kept (t' := s.toks) hk
    have le : ({ s with heap := h' } : Shared).heap.objs.size ≤ p := by rw [ep]; exact Nat.le_refl _
    have hn : H p = none := I1.hok.fresh le
    have es : (srt (fun p : Str × Nat => PyData.str p.1) L1).map (·.1) = srt PyData.str zs := by
      rw [← ez, srt_map (k := PyData.str) (fun p : Str × Nat => p.1) L1 inj_str]
      exact srt_perm inj_str (p1.map _)
    have hv : Vals ((srt PyData.str zs).map V.str) ((srt (fun p : Str × Nat => PyData.str p.1) L1).map fun p => Value.str p.1 p.2) := by
      rw [← es]
      exact vals_strs _
    have len : ((srt PyData.str zs).map V.str).length ≤ sizeLine := by
      rw [List.length_map, (srt_perm_self _ zs).length_eq]
      exact Nat.le_of_lt (small1000 hz)
    have J : Inv X pins σ (upd H p (.lst ((srt PyData.str zs).map V.str))) { s with heap := z.heap, gens := z.gens, drawn := z.drawn, toks := z.toks } :=
      Inv.call (s := { s with heap := h' }) (ch := []) I1 (Un.laid up le hn) (I1.hok.laid up le ⟨len, _, c, hv, hp⟩) (by rw [g]; exact I1.bare) (fun _ y => nomatch y)
    have ez : z = { s with heap := z.heap, gens := z.gens, drawn := z.drawn, toks := z.toks } := by
      cases z
      cases s
      cases o
      rfl
    rw [ez]
    exact ⟨.ref p, _, J, rfl, q p hn⟩
end
end Kt
/-! the law's other terms -/
namespace Kt
open PySem PySem.Spec PyProof.Rows L2
theorem scOther : FnScope ["_law_pot_here", "_law_terms_here", "_law_names", "_law_kinds", "_law_found", "_law_shadow_here", "_law_turn", "_law_numbers", "_law_factors", "_law_term", "_law_here"] ["_law_pot_here", "_law_terms_here", "_law_names", "_law_kinds"] (defScope (topS 49)) := ⟨rfl, rfl, rfl, by decide +kernel, rfl, by decide +kernel, by decide +kernel⟩
/-- numbers and a part of the factors of a drawn term, put together -/
theorem in_names {ks : List (Str × Str)} {names t0 nm part : List Str} (hU : names.Sublist cU) (h0 : t0.Sublist names) (h3 : t0.length ≤ 3) (e : nm = numsK ks t0) (hp : part.Sublist (facsK ks t0)) :
    (srt PyData.str (nm ++ part)).Sublist names ∧ (srt PyData.str (nm ++ part)).length ≤ 3 := by
  have nd : names.Nodup := hU.nodup cU_nd
  have nd0 : t0.Nodup := h0.nodup nd
  have inn : ∀ z ∈ nm ++ part, z ∈ t0 := fun z hz => by
    rcases List.mem_append.1 hz with hz | hz
    · rw [e] at hz
      exact (List.mem_filter.1 hz).1
    · exact (List.mem_filter.1 (hp.subset hz)).1
  have ndz : (nm ++ part).Nodup := by
    refine List.nodup_append.2 ⟨?_, (hp.trans List.filter_sublist).nodup nd0, fun a ha b hb eab => ?_⟩
    · rw [e]
      exact nd0.filter _
    · rw [e] at ha
      have h1 := (List.mem_filter.1 ha).2
      have h2 := (List.mem_filter.1 (hp.subset hb)).2
      rw [eab, eq_of_beq h2] at h1
      exact absurd h1 (by decide)
  obtain ⟨z1, z2, z3⟩ := srt_names hU ndz fun z hz => h0.subset (inn z hz)
  have s : (srt PyData.str (nm ++ part)).Sublist t0 := KtL.sub_of z1 h0 nd fun x hx => inn x ((z3 x).1 hx)
  exact ⟨z1, Nat.le_trans s.length_le h3⟩
theorem nodup_len {α : Type} [DecidableEq α] : ∀ {l m : List α}, l.Nodup → (∀ x ∈ l, x ∈ m) → l.length ≤ m.length
  | [], m, _, _ => Nat.zero_le _
  | x :: l, m, nd, h => by
    obtain ⟨h1, h2⟩ := List.nodup_cons.1 nd
    have hx : x ∈ m := h x List.mem_cons_self
    have z := nodup_len (m := m.erase x) h2 fun y hy => (List.mem_erase_of_ne (fun e => h1 (by rw [← e]; exact hy))).2 (h y (List.mem_cons_of_mem _ hy))
    rw [List.length_erase_of_mem hx] at z
    have := List.length_pos_of_mem hx
    rw [List.length_cons]
    omega
theorem IsSh.len {ks : List (Str × Str)} {ts : List (List Str)} {sh : List Pr} (h : IsSh ks ts sh) (h3 : ∀ t ∈ ts, t.length ≤ 3) : sh.length ≤ 8 * ts.length := by
  obtain ⟨l, nd, mem, rfl⟩ := h
  have e : (shadow l).length = l.length := (srt_perm_self _ l).length_eq
  rw [e]
  have z : l.length ≤ (ts.flatMap fun t => (partsOf (facsK ks t)).map fun p => (numsK ks t, p)).length := nodup_len nd fun q hq => by
    obtain ⟨t, ht, e1, e2⟩ := (mem q).1 hq
    exact List.mem_flatMap.2 ⟨t, ht, List.mem_map.2 ⟨q.2, (parts_mem _ _).2 e2, by rw [← e1]⟩⟩
  refine Nat.le_trans z ?_
  clear z e mem nd
  induction ts with
  | nil => exact Nat.le_refl _
  | cons t ts ih =>
    rw [List.flatMap_cons, List.length_append, List.length_map, List.length_cons]
    have h1 := facs_len (ks := ks) (h3 t List.mem_cons_self)
    have h2 := ih fun t ht => h3 t (List.mem_cons_of_mem _ ht)
    omega
theorem IsSh.ne {ks : List (Str × Str)} {ts : List (List Str)} {sh : List Pr} (h : IsSh ks ts sh) (hne : ts ≠ []) : sh ≠ [] := by
  match ts, hne with
  | t :: ts, _ =>
    intro e
    have z := (h.mem (numsK ks t, [])).2 ⟨t, List.mem_cons_self, rfl, List.nil_sublist _⟩
    rw [e] at z
    cases z
section
variable {K : PySem.W.Frag}
theorem Ne.upd {cs : List Addr} {H : Hp} {a : Addr} {o : HO} (n : Ne cs H) (t : noTb o = true) : Ne cs (upd H a o) := fun c hc => by
  by_cases e : c = a
  · rw [e]
    exact ⟨o, upd_same, t⟩
  · obtain ⟨x, hx, tx⟩ := n c hc
    exact ⟨x, by rw [upd_ne e]; exact hx, tx⟩
theorem Ne.kp {cs : List Addr} {H H' : Hp} {c : Addr} {o : HO} (n : Ne cs H) (s : Kp c H H') (h : H' c = some o) (t : noTb o = true) : Ne cs H' := fun b hb => by
  by_cases e : b = c
  · rw [e]
    exact ⟨o, h, t⟩
  · obtain ⟨x, hx, tx⟩ := n b hb
    exact ⟨x, s b x e hx, tx⟩
theorem PotN.ne {cs : List Addr} {H H' : Hp} {c : Addr} {m : Nat} (p : PotN H' c m) (n : Ne cs H) (s : Kp c H H') : Ne cs H' := by
  obtain ⟨zs, hc⟩ := p.lst
  exact n.kp s hc rfl
theorem cat_any {H : Hp} {a b : Addr} {xs ys : List V} {Q : VK} (ha : SqT K H a xs) (hb : SqT K H b ys) (hz : xs.length + ys.length ≤ sizeLine) (h : ∀ r H', Same H H' → SqT K H' r (xs ++ ys) → Q (.ref r) H') : rCatA K (.ref a) (.ref b) H Q := by
  refine ⟨a, b, xs, ys, rfl, rfl, ha, hb, hz, fun e => ?_, fun _ e => ?_, fun _ _ p np => ?_⟩
  · subst e
    exact h b H (fun _ _ x => x) hb
  · subst e
    exact h a H (fun _ _ x => x) (by rw [List.append_nil]; exact ha)
  · exact h p _ (up_same np) (.inl (.inl upd_same))
theorem Drawn.perm {names : List Str} {ts us : List (List Str)} (d : Drawn names ts) (p : us.Perm ts) : Drawn names us := ⟨fun t ht => d.tm t (p.mem_iff.1 ht), p.nodup_iff.2 d.nd⟩
theorem Drawn.filter {names : List Str} {ts : List (List Str)} (d : Drawn names ts) (f : List Str → Bool) : Drawn names (ts.filter f) := ⟨fun t ht => d.tm t (List.mem_filter.1 ht).1, d.nd.filter _⟩
end
section
variable {P : Program} {w : World} {K : PySem.W.Frag} {mg : Str → Option Value} {base : Heap}
def spOther (K : PySem.W.Frag) : Sp := fun vs H Q _ => ∃ c l nl kv n names ts ks, vs = [.ref c, .ref l, .ref nl, kv] ∧ PotN H c n ∧ n + 1000 ≤ 1000000 ∧ l ≠ c ∧ TsAt K H c l ts ∧ Drawn names ts ∧ ts.length ≤ 4 ∧ SqL K (dl [c] H) nl (names.map V.str) ∧ names.Sublist cU ∧ KdAt H kv ks ∧ HasKd ks names ∧
  ∀ us l' H', Kp c H H' → PotN H' c (n + 300) → H l' = none → TsAt K H' c l' us → Drawn names us → us.length ≤ 7 → Q (.ref l') H'
theorem ok_other {f fD fS fT fP fW : Addr} {fd fdD fdS fdT fdP fdW : FuncData} {k : Nat} (F : Fun K "_law_other" "_law_other" (topS 49) f fd) (M : Mg K mg)
    (GD : FnOk P w K mg base CX0 k fD fdD ["_law_pot_here", "_law_total"] spDip) (kD : PySem.W.keepIn K (.ref fD) = true) (bD : Binds K fdD ["_law_pot_here", "_law_total"] []) (gD : mg "_law_dip" = some (.ref fD))
    (GS : FnOk P w K mg base CX0 k fS fdS ["_law_pot_here", "_law_items"] (spShake K)) (kS : PySem.W.keepIn K (.ref fS) = true) (bS : Binds K fdS ["_law_pot_here", "_law_items"] []) (gS : mg "_law_shaken" = some (.ref fS))
    (GT : FnOk P w K mg base CX0 k fT fdT ["_law_pot_here", "_law_names"] (spLTerms K)) (kT : PySem.W.keepIn K (.ref fT) = true) (bT : Binds K fdT ["_law_pot_here", "_law_names"] []) (gT : mg "_law_terms" = some (.ref fT))
    (GP : FnOk P w K mg base CX0 k fP fdP ["_law_pot_here", "_law_items"] (spPick K)) (kP' : PySem.W.keepIn K (.ref fP) = true) (bP : Binds K fdP ["_law_pot_here", "_law_items"] []) (gP : mg "_law_pick" = some (.ref fP))
    (GW : FnOk P w K mg base CX0 k fW fdW ["_law_terms_here", "_law_kinds"] (spLSh K)) (kW : PySem.W.keepIn K (.ref fW) = true) (bW : Binds K fdW ["_law_terms_here", "_law_kinds"] []) (gW : mg "_law_shadow" = some (.ref fW)) :
    FnOk P w K mg base CX0 (k + 1) f fd ["_law_pot_here", "_law_terms_here", "_law_names", "_law_kinds"] (spOther K) := by
  refine F.ok scOther (fun vs H Q E h => ?_) (fun cdv A outer s H vs Q E hr h => ?_)
  · obtain ⟨c, l, nl, kv, n, names, ts, ks, rfl, _⟩ := h
    rfl
  · obtain ⟨c, l, nl, kv, n, names, ts, ks, rfl, hp, hn, lc, hts, dr, t4, hl, hU, ⟨kd, rfl, hkd⟩, hk, q⟩ := h
    obtain ⟨tys, etl, gtl⟩ := id hts
    have tyl : tys.length = ts.length := by
      have := dps_len gtl
      rw [List.length_map] at this
      exact this
    refine ⟨_, pss_cons (ps_if (PW.pt (pw_or (pt_cmpR op_eq (pe_call GD hr (by rfl) gD kD bD .nil pass0 (pa_cons (pv 0) (pa_cons pe_int pa_nil))) pe_int (nomark _)) (pw_or1 (pt_cmpR (op_eqD hr.units) (pv 1) (pe_lst pa_nil) (nomark _)))))
        (pss_one (ps_ret (pe_call GT hr (by rfl) gT kT bT .nil pass0 (pa_cons (pv 0) (pa_cons (pv 2) pa_nil))))) pss_nil)
      (pss_cons (ps_set (i := 4) scOther.nd rfl (.inl rfl) (pe_call GS hr (by rfl) gS kS bS .nil pass0 (pa_cons (pv 0) (pa_cons (pv 1) pa_nil))))
      (pss_cons (ps_set (i := 5) scOther.nd rfl (.inl rfl) (pe_call GW hr (by rfl) gW kW bW .nil pass0 (pa_cons (pv 1) (pa_cons (pv 3) pa_nil))))
      (pss_cons (ps_for PassesOwn.never rfl (pi_range1 (by rfl) M.range (pa_cons (pe_call GD hr (by rfl) gD kD bD .nil pass0 (pa_cons (pv 0) (pa_cons pe_int pa_nil))) pa_nil)) (pg_name (i := 6) scOther.nd rfl (.inl rfl))
        (pss_cons (ps_asg (pe_call GP hr (by rfl) gP kP' bP .nil pass0 (pa_cons (pv 0) (pa_cons (pv 5) pa_nil))) (pg_tup rfl (pgs_cons (pg_name (i := 7) scOther.nd rfl (.inl rfl)) (pgs_cons (pg_name (i := 8) scOther.nd rfl (.inl rfl)) pgs_nil))))
        (pss_cons (ps_set (i := 9) scOther.nd rfl (.inr rfl) (pe_callTy call_tuple_of (by rfl) M.tuple bt_tuple (pa_cons (pe_callB cr_sortedTup (by rfl) M.sorted bt_sorted (pa_cons (pe_op op_catA (pv 7) (pv 8)) pa_nil)) pa_nil)))
        (pss_one (ps_if (pt_cmpR (op_notInD (by have h := hr.un; show (A.deeper _).units + 65 < cLine; omega)) (pv 9) (pv 4) (by rfl)) (pss_one (ps_expr (pe_bm PySem.F.plainAttrs_list PySem.F.slot_list_append PySem.F.type_list_append mt_append (pv 4) (pa_cons (pv 9) pa_nil))))
          (pss_one (ps_if (pt_cmpR op_eq (pe_call GD hr (by rfl) gD kD bD .nil pass0 (pa_cons (pv 0) (pa_cons pe_int pa_nil))) pe_int (nomark _))
            (pss_one (ps_setLc (i := 4) (own := [("_law_here", 10)]) (tt := tTest (tOp (rNeD K) (tVar 10) (tVar 9))) rfl scOther.nd rfl rfl (sw_true rfl rfl rfl rfl) (pi_list (pv 4)) (blkOk_by (by kernel_rfl)) (fun s H C cl fp => pg_name (i := 10) scOther.nd rfl (.inl rfl))
              (fun s H C cl fp => pts_one (pt_cmpR (op_neD hr.units) (pv 10) (pv 9) (nomark _))) (fun s H C cl fp => pv 10))) pss_nil)))))))
      (pss_one (ps_ret (pv 4)))))), ?_⟩
    obtain ⟨zc, hc⟩ := hp.lst
    have terms : ∀ {H1 : Hp} {R : VK}, Kp c H H1 → PotN H1 c (n + 1) → (∀ us l' H2, Kp c H H2 → PotN H2 c (n + 300) → H l' = none → TsAt K H2 c l' us → Drawn names us → us.length ≤ 7 → R (.ref l') H2) → spLTerms K [.ref c, .ref nl] H1 R E0 := fun {H1 R} kp1 hp1 r =>
      ⟨c, nl, n + 1, names, rfl, hp1, by omega, (kp1.dl (by simp)).seq hl, hU, fun us l' H2 kp2 hp2 nl' ht d u4 => by
        obtain ⟨z1, hc1⟩ := hp1.lst
        exact r us l' H2 (kp1.trans kp2) (hp2.mono (by omega)) (kp1.free hc nl' hc1) ht d (by omega)⟩
    refine ⟨.ref c, rfl, c, 4, n, rfl, hp, by omega, by decide, by decide, fun m H1 m0 m1 kp1 hp1 => ⟨rfl, _, rfl, ite2 (fun _ => ⟨.ref c, rfl, .ref nl, rfl, terms kp1 hp1 q⟩) fun _ => ?_⟩⟩
    refine ⟨.ref l, rfl, Nat.zero_le _, fun e ne => ?_⟩
    have kpe : Kp c H (upd H1 e (.lst [])) := kp1.trans (Kp.of (up_same ne))
    have hpe : PotN (upd H1 e (.lst [])) c (n + 1) := hp1.same (up_same ne)
    have he : upd H1 e (.lst []) e = some (.lst []) := upd_same
    generalize upd H1 e (.lst []) = H2 at kpe hpe he ⊢
    have hts2 : TsAt K H2 c l ts := hts.kp kpe lc
    refine ⟨.list (ts.map tm), .list (([] : List (List Str)).map tm), dp_le (hts2.list lc), .lst (.inl (.inl he)) .nil, shaped_tms (dr.ok hU), shaped_tms (fun t ht => (by cases ht)), _, rfl, ite2 (fun _ => ⟨.ref c, rfl, .ref nl, rfl, terms kpe hpe q⟩) fun zt => ?_⟩
    have tne : ts ≠ [] := fun z => zt ((eqv_list (fun a b => eqv_tm a b) ts []).2 z)
    obtain ⟨z2, hc2⟩ := hpe.lst
    have el2 : H2 l = some (.lst tys) := kpe _ _ lc etl
    -- shaken
    refine ⟨.ref c, rfl, .ref l, rfl, c, l, n + 1, tys, rfl, hpe, by omega, .inl (.inl (dl_at el2 (by simpa using lc) rfl)), by omega, fun ys a H3 pm kp3 hp3 na ea => ?_⟩
    have na0 : H a = none := kpe.free hc na hc2
    have la : l ≠ a := ne_of_none el2 na
    have ca : c ≠ a := ne_of_none hc2 na
    have g2 : DpAll K (dl [c] H2) tys (ts.map tm) := dps_same ((dl_mono fun b hb => by simp at hb ⊢; exact .inr hb).trans (kpe.dl (by simp))) gtl
    have g3 : DpAll K (dl [a, c] H3) tys (ts.map tm) := dps_same ((dl_new na).trans (kp3.dl (by simp))) g2
    obtain ⟨ts', pt, gy⟩ := dps_perm pm g3
    obtain ⟨z3, hc3⟩ := hp3.lst
    have el3 : H3 l = some (.lst tys) := kp3 _ _ lc el2
    have kd_c : kd ≠ c := fun z => by
      rw [z, hc] at hkd
      cases hkd
    have kp03 : Kp c H H3 := kpe.trans kp3
    have ne3 : Ne [a, c] H3 := ((Ne.nil H3).cons hc3).cons ea
    -- the shadow
    refine ⟨.ref l, rfl, .ref kd, rfl, [a, c], .ref l, .ref kd, ts, ks, rfl, ne3, .lst (.inl (.inl (dl_at el3 (by simp [la, lc]) rfl))) g3, ⟨kd, rfl, kp03 _ _ kd_c hkd⟩, fun t ht => ⟨fun y hy => hk y ((dr.tm t ht).1.subset hy), (dr.tm t ht).2⟩, by omega, fun H4 sl sys sh s4 nsl esl ish gsh => ?_⟩
    have shl := ish.len fun t ht => (dr.tm t ht).2
    have sysl : sys.length = sh.length := by
      have := dps_len gsh
      rw [List.length_map] at this
      exact this
    have sysne : sys ≠ [] := fun z => ish.ne tne (List.eq_nil_of_length_eq_zero (by rw [← sysl, z]; rfl))
    have slc : sl ∉ [a, c] := ne3.not nsl
    refine ⟨.ref c, rfl, c, 4, n + 5, rfl, (hp3.same s4).mono (by omega), by omega, by decide, by decide, fun m H5 m0 m1 kp5 hp5 => ⟨m, rfl, by omega, by omega, ?_⟩⟩
    have kp35 : Kp c H3 H5 := (Kp.of s4).trans kp5
    refine for_range (lo := 0) (n := m.toNat) (fun i σ H5 => ∃ a y6 y7 y8 y9 us ys cs, σ = [some (.ref c), some (.ref l), some (.ref nl), some (.ref kd), some (.ref a), some (.ref sl), y6, y7, y8, y9, none] ∧ Kp c H H5 ∧ PotN H5 c (n + 6 + 2 * i) ∧ H a = none ∧ H5 a = some (.lst ys) ∧ Ne cs H5 ∧ a ∈ cs ∧ c ∈ cs ∧ sl ∉ cs ∧ H5 sl = some (.lst sys) ∧ DpAll K (dl cs H5) sys (sh.map prD) ∧ DpAll K (dl cs H5) ys (us.map tm) ∧ Drawn names us ∧ us.length ≤ 4 + i)
      ⟨a, none, none, none, none, ts', ys, [a, c], rfl, kp03.trans kp35, hp5, na0, kp35 _ _ ca.symm ea, hp5.ne ne3 kp35, by simp, by simp, slc, kp5 _ _ (fun z => slc (by simp [z])) esl, dps_same (kp5.dl (by simp)) gsh, dps_same (kp35.dl (by simp)) gy, dr.perm pt, by rw [pt.length_eq]; omega⟩ (fun i σ H5 hi p => ?_) fun σ H5 p => ?_
    · obtain ⟨a, y6, y7, y8, y9, us, ys, cs, rfl, kp5, hp5, na, ea, nec, acs, ccs, sls, esl, gsh, gy, du, ul⟩ := p
      have i4 : i < 4 := by omega
      refine ⟨.ref c, rfl, .ref sl, rfl, c, sl, n + 6 + 2 * i, sys, rfl, hp5, by omega, .inl (.inl (dl_at esl (fun z => sls (by rw [List.mem_singleton.1 z]; exact ccs)) rfl)), sysne, by omega, fun j v H6 ej kp6 hp6 => ?_⟩
      obtain ⟨qq, eq, dq⟩ := dps_map_at gsh ej
      obtain ⟨t0, ht0, e1, e2⟩ := (ish.mem qq).1 (List.mem_of_getElem? eq)
      have dq6 : Dp K (dl cs H6) v (prD qq) := dp_same (kp6.dl ccs) dq
      obtain ⟨p', un, uf, rfl, hp', dn, df⟩ := dp_pr dq6
      obtain ⟨nn, rfl, hn'⟩ := dp_tm dn
      obtain ⟨mm, rfl, hm'⟩ := dp_tm df
      obtain ⟨z1, z3⟩ := in_names hU (dr.tm t0 ht0).1 (dr.tm t0 ht0).2 e1 e2
      have zl : (qq.1 ++ qq.2).length ≤ 3 := by
        have := (srt_perm_self PyData.str (qq.1 ++ qq.2)).length_eq
        omega
      refine ⟨p', [.ref nn, .ref mm], rfl, same_tup (dl_le _ _) hp', rfl, .ref nn, [.ref mm], rfl, .ref mm, [], rfl, rfl, ?_⟩
      refine ⟨.ref nn, rfl, .ref mm, rfl, cat_any (same_tup (dl_le _ _) hn') (same_tup (dl_le _ _) hm') ?_ fun r H7 s7 hr7 => ?_⟩
      · rw [List.length_map, List.length_map]
        rw [List.length_append] at zl
        exact Nat.le_of_lt (small1000 (by omega))
      · rw [← List.map_append] at hr7
        refine ⟨r, qq.1 ++ qq.2, rfl, hr7, by omega, hr.units, fun so nso => ⟨so, _, rfl, .inl ⟨.inl (.inl upd_same), fun tt ntt => ?_⟩⟩⟩
        generalize ht0 : srt PyData.str (qq.1 ++ qq.2) = t at z1 z3 ⊢
        have s8 : Same H6 (upd (upd H7 so (.lst (t.map V.str))) tt (.tup (t.map V.str))) := (s7.trans (up_same nso)).trans (up_same (by rw [← ht0]; exact ntt))
        have htt : (upd (upd H7 so (.lst (t.map V.str))) tt (.tup (t.map V.str))) tt = some (.tup (t.map V.str)) := upd_same
        have ntt0 : H6 tt = none := (s7.trans (up_same nso)).free ntt
        generalize upd (upd H7 so (.lst (t.map V.str))) tt (.tup (t.map V.str)) = H8 at s8 htt ⊢
        have ec6 := hp6.ne nec kp6
        have nec8 : Ne cs H8 := ec6.same s8
        have tcs : tt ∉ cs := ec6.not ntt0
        have kp58 : Kp c H5 H8 := kp6.trans (Kp.of s8)
        have kp08 : Kp c H H8 := kp5.trans kp58
        have hp8 : PotN H8 c (n + 6 + 2 * i + 1) := hp6.same s8
        have ca : a ≠ c := (ne_of_none hc na).symm
        have slc : sl ≠ c := fun z => sls (by rw [z]; exact ccs)
        have sla : sl ≠ a := fun z => sls (by rw [z]; exact acs)
        have ea8 : H8 a = some (.lst ys) := kp58 _ _ ca ea
        have esl8 : H8 sl = some (.lst sys) := kp58 _ _ slc esl
        have gy8 : DpAll K (dl cs H8) ys (us.map tm) := dps_same (kp58.dl ccs) gy
        have gsh8 : DpAll K (dl cs H8) sys (sh.map prD) := dps_same (kp58.dl ccs) gsh
        have okt : AllOk t := fun y hy => cU_ok y (hU.subset (z1.subset hy))
        have ysl : ys.length = us.length := by
          have := dps_len gy
          rw [List.length_map] at this
          exact this
        refine ⟨.ref tt, rfl, .ref a, rfl, tm t, us.map tm, dp_tm_of (.inl (.inl htt)), .lst (.inl (.inl ea8)) (dps_le gy8), shaped_tm okt, shaped_tms (du.ok hU), _, rfl, ?_⟩
        rw [any_tm]
        refine ite2 (fun z => ?_) fun z => ?_
        · have nin : t ∉ us := fun h => by
            rw [decide_eq_true h] at z
            cases z
          refine ⟨.ref a, rfl, .inl ⟨rfl, _, .inl (.inl ea8)⟩, .ref tt, rfl, a, ys, _, rfl, rfl, ea8, small1000 (by omega), ?_⟩
          refine ⟨a, _, _, _, _, us ++ [t], ys ++ [.ref tt], cs, rfl, fun b x hb hx => ?_, ?_, na, upd_same, nec8.upd rfl, acs, ccs, sls, by rw [upd_ne sla]; exact esl8, ?_, ?_, du.snoc ⟨z1, z3⟩ nin, by rw [List.length_append, List.length_singleton]; omega⟩
          · rw [upd_ne (ne_of_none hx na)]
            exact kp08 _ _ hb hx
          · obtain ⟨g, mm, tt', h1, r⟩ := hp8.mono (m := n + 6 + 2 * (i + 1)) (by omega)
            exact ⟨g, mm, tt', by rw [upd_ne ca.symm]; exact h1, r⟩
          · rw [dl_in acs]
            exact gsh8
          · rw [dl_in acs, List.map_append]
            exact dps_snoc gy8 (dp_tm_of (.inl (.inl (dl_at htt tcs rfl))))
        · refine ⟨.ref c, rfl, c, 2, n + 6 + 2 * i + 1, rfl, hp8, by omega, by decide, by decide, fun m2 H9 _ _ kp9 hp9 => ⟨rfl, _, rfl, ?_⟩⟩
          have ea9 : H9 a = some (.lst ys) := kp9 _ _ ca ea8
          have esl9 : H9 sl = some (.lst sys) := kp9 _ _ slc esl8
          have gy9 : DpAll K (dl cs H9) ys (us.map tm) := dps_same (kp9.dl ccs) gy8
          have gsh9 : DpAll K (dl cs H9) sys (sh.map prD) := dps_same (kp9.dl ccs) gsh8
          have nec9 : Ne cs H9 := hp9.ne nec8 kp9
          have tc : tt ≠ c := fun z => tcs (by rw [z]; exact ccs)
          have htt9 : H9 tt = some (.tup (t.map V.str)) := kp9 _ _ tc htt
          have kp09 : Kp c H H9 := kp08.trans kp9
          refine ite2 (fun _ => ?_) fun _ => ?_
          · refine ⟨.ref a, rfl, a, rfl, ⟨ys, .inl (.inl ea9)⟩, fun D nD => ?_⟩
            refine lc_list (xs := ys) (PvC cs K H9 D fun j => ((us.take j).filter fun u => !decide (u = t)).map tm) (pv0 nD rfl) (fun j H10 _ p => p.seq (.inl (.inl ea9))) (fun j v H10 ej p => ?_) fun H10 p => ?_
            · obtain ⟨u, eu, gu⟩ := dps_map_at gy9 ej
              have su := (du.ok hU) u (List.mem_of_getElem? eu)
              have gu10 : Dp K (dl (D :: cs) H10) v (tm u) := dp_same (dl_out p.1 nD) gu
              refine ⟨rfl, v, rfl, .ref tt, rfl, tm u, tm t, dp_le gu10, dp_tm_of (.inl (.inl (p.1 _ _ htt9))), shaped_tm su, shaped_tm okt, _, rfl, ite2 (fun z => ?_) fun z => ?_⟩
              · have hne : u ≠ t := fun e => by
                  rw [(eqv_tm u t).2 e] at z
                  cases z
                refine ⟨v, rfl, p.put nD (Same.refl _) gu10 (take_filter_yes eu (by rw [decide_eq_false hne]; rfl)) ?_⟩
                rw [List.length_map]
                refine Nat.lt_of_le_of_lt (List.length_filter_le _ _) (small1000 ?_)
                rw [List.length_take]
                omega
              · have heq : u = t := (eqv_tm u t).1 (by
                  cases h : PyData.eqv (tm u) (tm t) with
                  | true => rfl
                  | false => exact absurd (by rw [h]; rfl) z)
                exact p.skip (Same.refl _) (take_filter_no eu (by rw [decide_eq_true heq]; rfl))
            · obtain ⟨s10, acc, eD, gD⟩ := id p
              rw [ysl] at gD
              have gD : DpAll K (dl (D :: cs) H10) acc (((us.take us.length).filter fun u => !decide (u = t)).map tm) := gD
              rw [List.take_length] at gD
              have Dcs : D ∉ cs := nec9.not nD
              obtain ⟨z9, hc9⟩ := hp9.lst
              have slD : sl ≠ D := ne_of_none esl9 nD
              refine ⟨D, _, _, _, _, us.filter fun u => !decide (u = t), acc, D :: cs, rfl, kp09.trans (Kp.of s10), (hp9.same s10).mono (by omega), kp09.free hc nD hc9, eD, p.ne nec9, List.mem_cons_self, List.mem_cons_of_mem _ ccs, fun z => ?_, s10 _ _ esl9, dps_same (dl_out s10 nD) gsh9, gD, du.filter _, ?_⟩
              · rcases List.mem_cons.1 z with z | z
                · exact slD z
                · exact sls z
              · have := List.length_filter_le (fun u => !decide (u = t)) us
                omega
          · exact ⟨a, _, _, _, _, us, ys, cs, rfl, kp09, hp9.mono (by omega), na, ea9, nec9, acs, ccs, sls, esl9, gsh9, gy9, du, by omega⟩
    · obtain ⟨a, y6, y7, y8, y9, us, ys, cs, rfl, kp5, hp5, na, ea, nec, acs, ccs, sls, esl, gsh, gy, du, ul⟩ := p
      refine ⟨.ref a, rfl, q us a H5 kp5 (hp5.mono (by omega)) na ⟨ys, ea, dps_same (dl_mono fun b hb => ?_) gy⟩ du (by omega)⟩
      rcases List.mem_cons.1 hb with rfl | hb
      · exact acs
      · rw [List.mem_singleton.1 hb]
        exact ccs
end
end Kt
/-! the law's elimination: divisor, less -/
namespace Kt
open PySem PySem.Spec PyProof.Rows L2
theorem scDiv : FnScope ["_law_one", "_law_other_here", "_law_turn"] ["_law_one", "_law_other_here"] (defScope (topS 42)) := ⟨rfl, rfl, rfl, by decide +kernel, rfl, by decide +kernel, by decide +kernel⟩
theorem scLess : FnScope ["_law_row", "_law_base_here", "_law_found", "_law_lead", "_law_other_here", "_law_up", "_law_down", "_law_one", "_law_two", "_law_shared"] ["_law_row", "_law_base_here"] (defScope (topS 43)) := ⟨rfl, rfl, rfl, by decide +kernel, rfl, by decide +kernel, by decide +kernel⟩
/-! ### plain -/
theorem left_nil (v : KtL.Vec) : KtL.Left [] v v := ⟨⟨1, 1, fun _ => 0, by decide, by decide, .zero, fun i => by simp⟩, fun x hx => (by cases hx)⟩
theorem sp_app {T : List (Nat × KtL.Vec)} {x : Nat × KtL.Vec} {s : KtL.Vec} (h : KtL.Sp (KtL.rowsOf T) s) : KtL.Sp (KtL.rowsOf (T ++ [x])) s := h.mono fun w hw => by
  obtain ⟨y, hy, ey⟩ := KtL.mem_rows.mp hw
  exact .mem (KtL.mem_rows.mpr ⟨y, List.mem_append_left _ hy, ey⟩)
theorem left_skip {T : List (Nat × KtL.Vec)} {v r b : KtL.Vec} {p : Nat} (h : KtL.Left T v r) (hz : r p = 0) : KtL.Left (T ++ [(p, b)]) v r := by
  obtain ⟨c, a, s, hc, ha, hs, e⟩ := h.comb
  refine ⟨⟨c, a, s, hc, ha, sp_app hs, e⟩, fun x hx => ?_⟩
  rcases List.mem_append.1 hx with hx | hx
  · exact h.zero x hx
  · rw [List.mem_singleton.1 hx]
    exact hz
theorem left_step {T : List (Nat × KtL.Vec)} {v r r2 b : KtL.Vec} {p : Nat} {d : Int} (h : KtL.Left T v r) (hb : ∀ x ∈ T, b x.1 = 0) (hd : d ≠ 0) (hp : b p ≠ 0) (e2 : ∀ i, d * r2 i = b p * r i - r p * b i) : KtL.Left (T ++ [(p, b)]) v r2 := by
  obtain ⟨c, a, s, hc, ha, hs, e⟩ := h.comb
  refine ⟨⟨c * d, b p * a, fun i => b p * s i + (-(c * r p)) * b i, Int.mul_ne_zero hc hd, Int.mul_ne_zero hp ha, .add (.smul _ (sp_app hs)) (.smul _ (.mem (KtL.mem_rows.mpr ⟨(p, b), List.mem_append_right _ (List.mem_singleton.2 rfl), rfl⟩))), fun i => ?_⟩, fun x hx => ?_⟩
  · have h1 := e i
    have h2 := e2 i
    grind
  · have z : d * r2 x.1 = 0 := by
      rw [e2]
      rcases List.mem_append.1 hx with hx | hx
      · rw [h.zero x hx, hb x hx]
        simp
      · rw [List.mem_singleton.1 hx]
        show b p * r p - r p * b p = 0
        rw [Int.mul_comm, Int.sub_self]
    exact (Int.mul_eq_zero.mp z).resolve_left hd
/-- the width of the numbers after k rows of the base -/
def bb : Nat → Nat
  | 0 => 1
  | k + 1 => 2 * bb k + 1
theorem bb_eq : ∀ k, bb k + 1 = 2 ^ (k + 1)
  | 0 => rfl
  | k + 1 => by
    have := bb_eq k
    rw [Nat.pow_succ]
    show 2 * bb k + 1 + 1 = _
    omega
theorem bb_mono {i j : Nat} (h : i ≤ j) : bb i ≤ bb j := by
  have h1 := bb_eq i
  have h2 := bb_eq j
  have := Nat.pow_le_pow_right (show 1 ≤ 2 by decide) (Nat.succ_le_succ h)
  omega
theorem bb_24 {k : Nat} (h : k ≤ 24) : 2 * bb k + 1 ≤ 134217728 := by
  have h1 := bb_eq k
  have := Nat.pow_le_pow_right (show 1 ≤ 2 by decide) (Nat.succ_le_succ h)
  have e : 2 ^ (24 + 1) = 33554432 := by decide
  omega
def Wd (a : Nat) (r : List Int) : Prop := ∀ x ∈ r, x.natAbs < 2 ^ a
theorem Wd.mono {a b : Nat} {r : List Int} (h : Wd a r) (hab : a ≤ b) : Wd b r := fun x hx => Nat.lt_of_lt_of_le (h x hx) (Nat.pow_le_pow_right (by decide) hab)
theorem cross_lt {a : Nat} {u d x y : Int} (hu : u.natAbs < 2 ^ a) (hd : d.natAbs < 2 ^ a) (hx : x.natAbs < 2 ^ a) (hy : y.natAbs < 2 ^ a) : (u * x - d * y).natAbs < 2 ^ (2 * a + 1) := by
  have h1 : (u * x).natAbs < 2 ^ (2 * a) := by
    rw [Int.natAbs_mul, Nat.two_mul, Nat.pow_add]
    exact Nat.mul_lt_mul'' hu hx
  have h2 : (d * y).natAbs < 2 ^ (2 * a) := by
    rw [Int.natAbs_mul, Nat.two_mul, Nat.pow_add]
    exact Nat.mul_lt_mul'' hd hy
  have h3 : (u * x - d * y).natAbs ≤ (u * x).natAbs + (d * y).natAbs := by omega
  rw [Nat.pow_succ]
  omega
section
variable {P : Program} {w : World} {K : PySem.W.Frag} {mg : Str → Option Value} {base : Heap}
def spDiv : Sp := fun vs H Q _ => ∃ x y : Int, vs = [.int x, .int y] ∧ ∀ g : Int, g ∣ x → g ∣ y → Q (.int g) H
theorem ok_div {f : Addr} {fd : FuncData} {k : Nat} (F : Fun K "_law_divisor" "_law_divisor" (topS 42) f fd) (M : Mg K mg) : FnOk P w K mg base CX0 (k + 1) f fd ["_law_one", "_law_other_here"] spDiv := by
  refine F.ok scDiv (fun vs H Q E h => ?_) (fun cdv A outer s H vs Q E hr h => ?_)
  · obtain ⟨x, y, rfl, _⟩ := h
    rfl
  · obtain ⟨x, y, rfl, q⟩ := h
    refine ⟨_, pss_cons (ps_par (i := 0) (j := 1) rfl scDiv.nd rfl rfl (by decide) rfl rfl (pa_cons (pe_callB call_abs (by rfl) M.abs bt_abs (pa_cons (pv 0) pa_nil)) (pa_cons (pe_callB call_abs (by rfl) M.abs bt_abs (pa_cons (pv 1) pa_nil)) pa_nil)) rfl)
      (pss_cons (ps_for PassesOwn.never rfl (pi_range1 (by rfl) M.range (pa_cons pe_int pa_nil)) (pg_name (i := 2) scDiv.nd rfl (.inl rfl))
        (pss_cons (ps_if (pt_cmpR op_eq (pv 1) pe_int (nomark _)) (pss_one (ps_ret (pv 0))) pss_nil)
        (pss_one (ps_par (i := 0) (j := 1) rfl scDiv.nd rfl rfl (by decide) rfl rfl (pa_cons (pv 1) (pa_cons (pe_op op_mod (pe_callTy call_int1 (by rfl) M.int bt_int (pa_cons (pv 0) pa_nil)) (pv 1)) pa_nil)) rfl))))
      (pss_one (ps_ret pe_int))), ?_⟩
    refine ⟨.int x, rfl, x, rfl, .int y, rfl, y, rfl, _, _, rfl, 400, rfl, by decide, by decide, ?_⟩
    refine for_range (lo := 0) (n := 400) (fun i σ H2 => ∃ (a b : Int) (z : Option V), σ = [some (.int a), some (.int b), z] ∧ H2 = H ∧ 0 ≤ b ∧ ∀ g : Int, g ∣ a → g ∣ b → g ∣ x ∧ g ∣ y)
      ⟨_, _, none, rfl, rfl, ?_, fun g h1 h2 => ?_⟩ (fun i σ H2 hi p => ?_) fun σ H2 p => ?_
    · split <;> omega
    · refine ⟨?_, ?_⟩
      · split at h1
        · exact Int.dvd_neg.1 h1
        · exact h1
      · split at h2
        · exact Int.dvd_neg.1 h2
        · exact h2
    · obtain ⟨a, b, z, rfl, rfl, b0, hg⟩ := p
      refine ⟨.int b, rfl, rfl, _, rfl, ite2 (fun e => ?_) fun e => ?_⟩
      · have eb : b = 0 := V.int.inj (of_decide_eq_true e)
        exact ⟨.int a, rfl, q a (hg a (Int.dvd_refl a) (by rw [eb]; exact Int.dvd_zero a)).1 (hg a (Int.dvd_refl a) (by rw [eb]; exact Int.dvd_zero a)).2⟩
      · have eb : b ≠ 0 := fun z => e (decide_eq_true (by rw [z]))
        refine ⟨.int b, rfl, .int a, rfl, .inl ⟨a, rfl, .int b, rfl, a, b, rfl, rfl, by omega, _, _, rfl, _, _, _, rfl, rfl, Int.emod_nonneg _ eb, fun g h1 h2 => ?_⟩⟩
        refine hg g ?_ h1
        have e := Int.emod_add_mul_ediv a b
        rw [← e]
        exact Int.dvd_add h2 (Int.dvd_trans h1 (Int.dvd_mul_right _ _))
    · obtain ⟨a, b, z, rfl, rfl, b0, hg⟩ := p
      exact q 1 (Int.one_dvd _) (Int.one_dvd _)
/-! ### what is left of a row -/
def bsD (x : Nat × List Int) : PyData := .tuple [.int x.1, .list (x.2.map .int)]
def tv (T : List (Nat × List Int)) : List (Nat × KtL.Vec) := T.map fun x => (x.1, KtL.vec x.2)
structure BsOk (R : Nat) (T : List (Nat × List Int)) : Prop where
  few : T.length ≤ 24
  tri : KtL.Tri (tv T)
  row : ∀ k x, T[k]? = some x → x.1 < R ∧ x.2.length = R ∧ Wd (bb k) x.2
def spLess (K : PySem.W.Frag) : Sp := fun vs H Q _ => ∃ cs rv bv row T, vs = [rv, bv] ∧ Ne cs H ∧ Dp K (dl cs H) rv (colD row) ∧ Dp K (dl cs H) bv (.list (T.map bsD)) ∧ BsOk row.length T ∧ Wd 1 row ∧ 1 ≤ row.length ∧ row.length ≤ 1000 ∧
  ∀ l r H', Same H H' → H l = none → H' l = some (.lst (r.map V.int)) → r.length = row.length → Wd (bb T.length) r → KtL.Left (tv T) (KtL.vec row) (KtL.vec r) → Q (.ref l) H'
theorem tri_at : ∀ {T : List (Nat × KtL.Vec)}, KtL.Tri T → ∀ {i : Nat} {x : Nat × KtL.Vec}, T[i]? = some x → x.2 x.1 ≠ 0 ∧ ∀ y ∈ T.take i, x.2 y.1 = 0
  | _, .nil, i, x, e => by simp at e
  | _, .cons (p := p) (r := r) (T := T) hr hz ht, 0, x, e => by
    cases e
    exact ⟨hr, fun y hy => (by cases hy)⟩
  | _, .cons (p := p) (r := r) (T := T) hr hz ht, i + 1, x, e => by
    have e' : T[i]? = some x := e
    obtain ⟨h1, h2⟩ := tri_at ht e'
    refine ⟨h1, fun y hy => ?_⟩
    rw [List.take_succ_cons] at hy
    rcases List.mem_cons.1 hy with rfl | hy
    · exact hz x (List.mem_of_getElem? e')
    · exact h2 y hy
theorem vec_at {r : List Int} {i : Nat} {x : Int} (h : r[i]? = some x) : KtL.vec r i = x := by
  unfold KtL.vec
  rw [List.getD_eq_getElem?_getD, h]
  rfl
theorem vec_out {r : List Int} {i : Nat} (h : r.length ≤ i) : KtL.vec r i = 0 := by
  unfold KtL.vec
  rw [List.getD_eq_getElem?_getD, List.getElem?_eq_none h]
  rfl
theorem ok_less {f fD : Addr} {fd fdD : FuncData} {k : Nat} (F : Fun K "_law_less" "_law_less" (topS 43) f fd) (M : Mg K mg) (hS : base.NoSeer) (hT : P.given.tree = none) (hk : 34 ≤ k)
    (GD : FnOk P w K mg base CX0 k fD fdD ["_law_one", "_law_other_here"] spDiv) (kD : PySem.W.keepIn K (.ref fD) = true) (bD : Binds K fdD ["_law_one", "_law_other_here"] []) (gD : mg "_law_divisor" = some (.ref fD)) :
    FnOk P w K mg base CX0 (k + 1) f fd ["_law_row", "_law_base_here"] (spLess K) := by
  refine F.ok scLess (fun vs H Q E h => ?_) (fun cdv A outer s H vs Q E hr h => ?_)
  · obtain ⟨cs, rv, bv, row, T, rfl, _⟩ := h
    rfl
  · obtain ⟨cs, rv, bv, row, T, rfl, nec, hrow, hbs, bok, wd, r1, r24, q⟩ := h
    obtain ⟨ra, rxs, rfl, hra, hrx⟩ := dp_tup hrow
    have erx := dps_int hrx
    subst erx
    obtain ⟨ba, zs, rfl, hba, hzs⟩ := dp_list hbs
    have hra0 : SqT K H ra (row.map V.int) := same_tup (dl_le _ _) hra
    have hba0 : SqL K H ba zs := (dl_le _ _).seq hba
    have zl : zs.length = T.length := by
      have := dps_len hzs
      rw [List.length_map] at this
      exact this
    refine ⟨_, pss_cons (ps_set (i := 2) scLess.nd rfl (.inl rfl) (pe_callTy call_list_of (by rfl) M.list bt_list (pa_cons (pv 0) pa_nil)))
      (pss_cons (ps_for PassesOwn.never rfl (pi_list (pv 1)) (pg_tup rfl (pgs_cons (pg_name (i := 3) scLess.nd rfl (.inl rfl)) (pgs_cons (pg_name (i := 4) scLess.nd rfl (.inl rfl)) pgs_nil)))
        (pss_one (ps_if (pt_cmpR op_ne (pe_ix ix_list (pv 2) (pv 3) (fun _ _ => rfl)) pe_int (nomark _))
          (pss_cons (ps_asg (pe_tup (pa_cons (pe_ix ix_list (pv 4) (pv 3) (fun _ _ => rfl)) (pa_cons (pe_ix ix_list (pv 2) (pv 3) (fun _ _ => rfl)) pa_nil))) (pg_tup rfl (pgs_cons (pg_name (i := 5) scLess.nd rfl (.inr rfl)) (pgs_cons (pg_name (i := 6) scLess.nd rfl (.inr rfl)) pgs_nil))))
          (pss_cons (ps_setLc (i := 2) (own := [("_law_one", 7), ("_law_two", 8)]) (g := gTup K 2 (gCons (gName 7) (gCons (gName 8) gNil))) (te := tOp (rI0 fun i j => .int (i - j)) (tOp (rI CMulX fun i j => .int (i * j)) (tVar 5) (tVar 7)) (tOp (rI CMulX fun i j => .int (i * j)) (tVar 6) (tVar 8))) rfl scLess.nd rfl rfl (sw_true rfl rfl rfl rfl)
              (pi_zip (by rfl) M.zip (pa_cons (pv 2) (pa_cons (pv 4) pa_nil))) (blkOk_by (by kernel_rfl)) (fun s H C cl fp => pg_tup rfl (pgs_cons (pg_name (i := 7) scLess.nd rfl (.inl rfl)) (pgs_cons (pg_name (i := 8) scLess.nd rfl (.inl rfl)) pgs_nil))) (fun s H C cl fp => pts_nil)
              (fun s H C cl fp => pe_op op_sub (pe_op op_mulX (pv 5) (pv 7)) (pe_op op_mulX (pv 6) (pv 8))))
          (pss_cons (ps_set (i := 9) scLess.nd rfl (.inr rfl) (pe_callTy call_int1 (by rfl) M.int bt_int (pa_cons (pe_cmpR op_lt (pe_callB (cr_max rfl) (by rfl) M.max bt_max (pa_cons (pe_lc (own := [("_law_one", 7)]) (te := tCB (fun xs H Q => ∃ i, xs = [.int i] ∧ Q (.int (if i < 0 then -i else i)) H) (tCons (tVar 7) tNil)) rfl scLess.nd (pi_list (pv 2)) (blkOk_by (by kernel_rfl))
              (fun s H C cl fp => pg_name (i := 7) scLess.nd rfl (.inl rfl)) (fun s H C cl fp => pts_nil) (fun s H C cl fp => pe_callB call_abs (by rfl) M.abs bt_abs (pa_cons (pv 7) pa_nil))) pa_nil)) pe_int (nomark _)) pa_nil)))
          (C8.pss_cut (ps_for PassesOwn.never rfl (pi_list (pe_ifExp (pt_cmpR op_eq (pv 9) pe_int (nomark _)) (pv 2) (pe_lst pa_nil))) (pg_name (i := 7) scLess.nd rfl (.inl rfl))
            (pss_one (ps_set (i := 9) scLess.nd rfl (.inr rfl) (pe_call GD hr (by rfl) gD kD bD .nil pass0 (pa_cons (pv 9) (pa_cons (pv 7) pa_nil))))))
          (pss_one (ps_setLc (i := 2) (own := [("_law_one", 7)]) (te := tOp (rI (fun _ j => 0 < j) fun i j => .int (i / j)) (tVar 7) (tCB (fun xs H Q => ∃ i j, xs = [.int i, .int j] ∧ Q (.int (if j > i then j else i)) H) (tCons (tC (.int 1)) (tCons (tVar 9) tNil)))) rfl scLess.nd rfl rfl (sw_true rfl rfl rfl rfl)
              (pi_list (pv 2)) (blkOk_by (by kernel_rfl)) (fun s H C cl fp => pg_name (i := 7) scLess.nd rfl (.inl rfl)) (fun s H C cl fp => pts_nil)
              (fun s H C cl fp => pe_op (op_fdivX ⟨hS, hT, ⟨_, _, rfl, rfl, rfl, rfl, rfl⟩, (by have h := hr.dp; show (A.deeper _).depth + 100 < recursionLimit; omega)⟩) (pv 7) (pe_callB (call_max2 rfl) (by rfl) M.max bt_max (pa_cons pe_int (pa_cons (pv 9) pa_nil)))))))))) pss_nil)))
      (pss_one (ps_ret (pv 2)))), ?_⟩
    refine ⟨.ref ra, rfl, ra, row.map V.int, rfl, .inr hra0, fun fa nfa => ?_⟩
    refine ⟨.ref ba, rfl, ba, rfl, ⟨zs, (up_same nfa).seq hba0⟩, ?_⟩
    refine for_list (xs := zs) (fun i σ H2 => ∃ y3 y4 y5 y6 y7 y8 y9 r fa, σ = [some (.ref ra), some (.ref ba), some (.ref fa), y3, y4, y5, y6, y7, y8, y9] ∧ Same H H2 ∧ H fa = none ∧ H2 fa = some (.lst (r.map V.int)) ∧ r.length = row.length ∧ Wd (bb i) r ∧ KtL.Left (tv (T.take i)) (KtL.vec row) (KtL.vec r))
      ⟨none, none, none, none, none, none, none, row, fa, rfl, up_same nfa, nfa, upd_same, rfl, wd, left_nil _⟩ (fun i σ H2 _ p => ?_) (fun i v σ H2 ev p => ?_) fun σ H2 p => ?_
    · obtain ⟨_, _, _, _, _, _, _, _, _, _, s2, _⟩ := p
      exact s2.seq hba0
    · obtain ⟨y3, y4, y5, y6, y7, y8, y9, r, fa, rfl, s2, nfa, efa, rl, rw_, lf⟩ := p
      obtain ⟨x, ex, dx⟩ := dps_map_at hzs ev
      have hi : i < T.length := (List.getElem?_eq_some_iff.1 ex).1
      have i24 : i ≤ 24 := by
        have := bok.few
        omega
      obtain ⟨plt, bl, bw⟩ := bok.row i x ex
      have dx2 : Dp K H2 v (.tuple [.int x.1, .list (x.2.map .int)]) := dp_le (dp_same (dl_same s2) dx)
      obtain ⟨a, xs, rfl, hxa, g⟩ := dp_tup dx2
      cases g with
      | cons g0 g =>
      cases g0
      cases g with
      | cons g1 g =>
      cases g
      obtain ⟨br, bs, rfl, hbr, hb⟩ := dp_list g1
      have eb := dps_int hb
      subst eb
      have hrp : r[x.1]? = some (r[x.1]'(by omega)) := List.getElem?_eq_getElem _
      have hbp : x.2[x.1]? = some (x.2[x.1]'(by omega)) := List.getElem?_eq_getElem _
      generalize hrpe : (r[x.1]'(by omega)) = rp at hrp
      generalize hbpe : (x.2[x.1]'(by omega)) = bp at hbp
      have atr : atI (r.map V.int) (x.1 : Int) = some (.int rp) := atI_nat (by rw [List.getElem?_map, hrp]; rfl)
      have atb : atI (x.2.map V.int) (x.1 : Int) = some (.int bp) := atI_nat (by rw [List.getElem?_map, hbp]; rfl)
      have etk : tv (T.take (i + 1)) = tv (T.take i) ++ [(x.1, KtL.vec x.2)] := by
        rw [List.take_add_one, ex]
        unfold tv
        rw [List.map_append]
        rfl
      have ett : (tv T)[i]? = some (x.1, KtL.vec x.2) := by
        unfold tv
        rw [List.getElem?_map, ex]
        rfl
      obtain ⟨bne, bz⟩ := tri_at bok.tri ett
      have btk : (tv T).take i = tv (T.take i) := by
        unfold tv
        rw [List.map_take]
      rw [btk] at bz
      have rpw : rp.natAbs < 2 ^ bb i := rw_ rp (List.mem_of_getElem? hrp)
      have bpw : bp.natAbs < 2 ^ bb i := bw bp (List.mem_of_getElem? hbp)
      refine ⟨a, [.int x.1, .ref br], rfl, hxa, rfl, .int x.1, [.ref br], rfl, .ref br, [], rfl, rfl, ?_⟩
      refine ⟨.ref fa, rfl, .int x.1, rfl, fa, r.map V.int, (x.1 : Int), .int rp, rfl, rfl, .inl (.inl efa), atr, rfl, _, rfl, ite2 (fun e => ?_) fun e => ?_⟩
      · refine ⟨.ref br, rfl, .int x.1, rfl, br, x.2.map V.int, (x.1 : Int), .int bp, rfl, rfl, hbr, atb, .ref fa, rfl, .int x.1, rfl, fa, r.map V.int, (x.1 : Int), .int rp, rfl, rfl, .inl (.inl efa), atr, by show 2 ≤ sizeLine; decide, fun tp ntp => ?_⟩
        refine ⟨tp, [.int bp, .int rp], rfl, .inl (.inl upd_same), rfl, .int bp, [.int rp], rfl, .int rp, [], rfl, rfl, ?_⟩
        have s3 := up_same (o := .tup [.int bp, .int rp]) ntp
        generalize upd H2 tp (.tup [.int bp, .int rp]) = H3 at s3 ⊢
        have efa3 : H3 fa = some (.lst (r.map V.int)) := s3 _ _ efa
        have hbr3 : SqL K H3 br (x.2.map V.int) := s3.seq hbr
        have hnw : ∀ (j : Nat) (y z : Int), r[j]? = some y → x.2[j]? = some z → (List.zipWith (fun y z => bp * y - rp * z) r x.2)[j]? = some (bp * y - rp * z) := fun j y z h1 h2 => by
          rw [List.getElem?_zipWith, h1, h2]
        have nwl : (List.zipWith (fun y z => bp * y - rp * z) r x.2).length = row.length := by
          rw [List.length_zipWith]
          omega
        generalize List.zipWith (fun y z => bp * y - rp * z) r x.2 = nw at hnw nwl
        have nww : Wd (2 * bb i + 1) nw := fun n hn => by
          obtain ⟨j, hj⟩ := List.getElem?_of_mem hn
          have jl : j < row.length := by rw [← nwl]; exact (List.getElem?_eq_some_iff.1 hj).1
          have h1 : r[j]? = some (r[j]'(by omega)) := List.getElem?_eq_getElem _
          have h2 : x.2[j]? = some (x.2[j]'(by omega)) := List.getElem?_eq_getElem _
          have h3 := hnw j _ _ h1 h2
          rw [hj] at h3
          cases h3
          exact cross_lt bpw rpw (rw_ _ (List.mem_of_getElem? h1)) (bw _ (List.mem_of_getElem? h2))
        have wide : bb i + bb i ≤ 134217728 := by
          have := bb_24 i24
          omega
        refine ⟨.ref fa, rfl, .ref br, rfl, fa, br, r.map V.int, x.2.map V.int, rfl, .inl (.inl efa3), hbr3, fun D nD => ?_⟩
        refine lc_it (walk_zip (xs := r.map V.int) (ys := x.2.map V.int) (n := row.length) (by rw [List.length_map, List.length_map]; omega)) (PvC [] K H3 D fun j => (nw.take j).map PyData.int) (pv0 nD rfl) (fun j H _ p => ⟨p.seq (.inl (.inl efa3)), p.seq hbr3⟩) (fun j v H4 H5 hj p y => ?_) fun H4 p => ?_
        · obtain ⟨TT, x1, y1, rfl, nT, rfl, e1, e2⟩ := y
          have e1 : (r.map V.int)[j]? = some x1 := e1
          have e2 : (x.2.map V.int)[j]? = some y1 := e2
          obtain ⟨y, f1, rfl⟩ : ∃ y, r[j]? = some y ∧ x1 = .int y := by
            rw [List.getElem?_map] at e1
            obtain ⟨y, e1, e2⟩ := Option.map_eq_some_iff.1 e1
            exact ⟨y, e1, e2.symm⟩
          obtain ⟨z, f2, rfl⟩ : ∃ y, x.2[j]? = some y ∧ y1 = .int y := by
            rw [List.getElem?_map] at e2
            obtain ⟨y, e1, e2⟩ := Option.map_eq_some_iff.1 e2
            exact ⟨y, e1, e2.symm⟩
          refine ⟨TT, [.int y, .int z], rfl, .inl (.inl upd_same), rfl, .int y, [.int z], rfl, .int z, [], rfl, rfl, rfl, .int bp, rfl, .int y, rfl, bp, y, rfl, rfl, mulx_ok bpw (rw_ _ (List.mem_of_getElem? f1)) wide, .int rp, rfl, .int z, rfl, rp, z, rfl, rfl, mulx_ok rpw (bw _ (List.mem_of_getElem? f2)) wide, _, _, rfl, rfl, ?_⟩
          refine p.put nD (up_same nT) (.int _) (take_map_succ (hnw j y z f1 f2)) ?_
          rw [List.length_map, List.length_take]
          exact small1000 (by omega)
        · obtain ⟨s4, acc, eD, gD⟩ := p
          have ea := dps_int gD
          rw [← nwl, List.take_length] at ea
          subst ea
          have s24 : Same H2 H4 := s3.trans s4
          have nDH : H D = none := (s2.trans s3).free nD
          -- the shared factor
          refine ⟨.ref D, rfl, D, rfl, ⟨_, .inl (.inl eD)⟩, fun D2 nD2 => ?_⟩
          refine lc_list (xs := nw.map V.int) (PvC [] K H4 D2 fun j => ((nw.take j).map fun y => if y < 0 then -y else y).map PyData.int) (pv0 nD2 rfl) (fun j H _ p => p.seq (.inl (.inl eD))) (fun j v H5 ej p => ?_) fun H5 p => ?_
          · obtain ⟨y, f1, rfl⟩ : ∃ y, nw[j]? = some y ∧ v = .int y := by
              rw [List.getElem?_map] at ej
              obtain ⟨y, e1, e2⟩ := Option.map_eq_some_iff.1 ej
              exact ⟨y, e1, e2.symm⟩
            refine ⟨rfl, .int y, rfl, y, rfl, ?_⟩
            refine p.put nD2 (Same.refl _) (.int _) ?_ ?_
            · rw [List.map_map, List.map_map]
              exact take_map_succ (f := PyData.int ∘ fun y => if y < 0 then -y else y) f1
            · rw [List.length_map, List.length_map, List.length_take]
              exact small1000 (by omega)
          · obtain ⟨s5, acc, eD2, gD2⟩ := p
            have ea := dps_int gD2
            rw [List.length_map, List.take_length] at ea
            subst ea
            refine ⟨D2, _, rfl, .inl (.inl eD2), by rw [List.length_map, nwl]; omega, fun m _ _ => ?_⟩
            refine ⟨m, 1000, rfl, rfl, .inr ⟨_, rfl, ?_⟩⟩
            have hsh : (if decide (m < 1000) = true then (1 : Int) else 0) = 0 ∨ (if decide (m < 1000) = true then (1 : Int) else 0) = 1 := by
              split
              · exact .inr rfl
              · exact .inl rfl
            generalize (if decide (m < 1000) = true then (1 : Int) else 0) = sh0 at hsh ⊢
            have eD5 : H5 D = some (.lst (nw.map V.int)) := s5 _ _ eD
            refine ⟨fun σ' H' => ∃ (sh : Int) (z7 : Option V), σ' = [some (.ref ra), some (.ref ba), some (.ref D), some (.int x.1), some (.ref br), some (.int bp), some (.int rp), z7, y8, some (.int sh)] ∧ Same H5 H' ∧ ∀ y ∈ nw, sh ∣ y, ?_, ?_⟩
            · refine ⟨.int sh0, rfl, rfl, _, rfl, ite2 (fun e => ?_) fun e => ?_⟩
              · refine ⟨.ref D, rfl, D, rfl, ⟨_, .inl (.inl eD5)⟩, ?_⟩
                refine for_list (xs := nw.map V.int) (fun j σ H6 => ∃ (sh : Int) (z7 : Option V), σ = [some (.ref ra), some (.ref ba), some (.ref D), some (.int x.1), some (.ref br), some (.int bp), some (.int rp), z7, y8, some (.int sh)] ∧ H6 = H5 ∧ ∀ y ∈ nw.take j, sh ∣ y)
                  ⟨sh0, y7, rfl, rfl, fun y hy => (by cases hy)⟩ (fun j σ H6 _ p => ?_) (fun j v σ H6 ej p => ?_) fun σ H6 p => ?_
                · obtain ⟨_, _, _, rfl, _⟩ := p
                  exact .inl (.inl eD5)
                · obtain ⟨sh, z7, rfl, rfl, hd⟩ := p
                  obtain ⟨y, f1, rfl⟩ : ∃ y, nw[j]? = some y ∧ v = .int y := by
                    rw [List.getElem?_map] at ej
                    obtain ⟨y, e1, e2⟩ := Option.map_eq_some_iff.1 ej
                    exact ⟨y, e1, e2.symm⟩
                  refine ⟨.int sh, rfl, .int y, rfl, sh, y, rfl, fun g g1 g2 => ⟨g, some (.int y), rfl, rfl, fun z hz => ?_⟩⟩
                  rw [List.take_add_one, f1] at hz
                  rcases List.mem_append.1 hz with hz | hz
                  · exact Int.dvd_trans g1 (hd z hz)
                  · rw [List.mem_singleton.1 hz]
                    exact g2
                · obtain ⟨sh, z7, rfl, rfl, hd⟩ := p
                  rw [List.length_map, List.take_length] at hd
                  exact ⟨sh, z7, rfl, Same.refl _, hd⟩
              · have s1 : sh0 = 1 := hsh.resolve_left fun z => e (decide_eq_true (by rw [z]))
                refine ⟨Nat.zero_le _, fun e2 ne2 => ⟨e2, rfl, ⟨[], .inl (.inl upd_same)⟩, ?_⟩⟩
                refine for_list (xs := []) (fun j σ H6 => σ = [some (.ref ra), some (.ref ba), some (.ref D), some (.int x.1), some (.ref br), some (.int bp), some (.int rp), y7, y8, some (.int sh0)] ∧ H6 = upd H5 e2 (.lst []))
                  ⟨rfl, rfl⟩ (fun j σ H6 _ p => ?_) (fun j v σ H6 ej p => ?_) fun σ H6 p => ?_
                · obtain ⟨_, rfl⟩ := p
                  exact .inl (.inl upd_same)
                · cases ej
                · obtain ⟨rfl, rfl⟩ := p
                  exact ⟨sh0, y7, rfl, up_same ne2, fun y _ => by rw [s1]; exact Int.one_dvd y⟩
            · rintro σ' H6 ⟨sh, z7, rfl, s6, hdiv⟩
              have eD6 : H6 D = some (.lst (nw.map V.int)) := s6 _ _ eD5
              have dd0 : 0 < (if sh > 1 then sh else 1) := by split <;> omega
              have ddv : ∀ y ∈ nw, (if sh > 1 then sh else 1) ∣ y := fun y hy => by
                split
                · exact hdiv y hy
                · exact Int.one_dvd y
              have edd : (if sh > 1 then sh else 1) = (if sh > 1 then sh else 1) := rfl
              refine ⟨.ref D, rfl, D, rfl, ⟨_, .inl (.inl eD6)⟩, fun D3 nD3 => ?_⟩
              refine lc_list (xs := nw.map V.int) (PvC [] K H6 D3 fun j => ((nw.take j).map fun y => y / (if sh > 1 then sh else 1)).map PyData.int) (pv0 nD3 rfl) (fun j H _ p => p.seq (.inl (.inl eD6))) (fun j v H7 ej p => ?_) fun H7 p => ?_
              · obtain ⟨y, f1, rfl⟩ : ∃ y, nw[j]? = some y ∧ v = .int y := by
                  rw [List.getElem?_map] at ej
                  obtain ⟨y, e1, e2⟩ := Option.map_eq_some_iff.1 ej
                  exact ⟨y, e1, e2.symm⟩
                refine ⟨rfl, .int y, rfl, .int sh, rfl, 1, sh, rfl, y, _, rfl, rfl, dd0, ?_⟩
                refine p.put nD3 (Same.refl _) (.int _) ?_ ?_
                · rw [List.map_map, List.map_map]
                  exact take_map_succ (f := PyData.int ∘ fun y => y / (if sh > 1 then sh else 1)) f1
                · rw [List.length_map, List.length_map, List.length_take]
                  exact small1000 (by omega)
              · obtain ⟨s7, acc, eD3, gD3⟩ := p
                have ea := dps_int gD3
                rw [List.length_map, List.take_length] at ea
                subst ea
                have sH6 : Same H H6 := ((s2.trans s24).trans s5).trans s6
                refine ⟨_, _, _, _, _, _, _, nw.map fun y => y / (if sh > 1 then sh else 1), D3, rfl, sH6.trans s7, sH6.free nD3, eD3, by rw [List.length_map, nwl], fun y hy => ?_, ?_⟩
                · obtain ⟨n, hn, rfl⟩ := List.mem_map.1 hy
                  exact Nat.lt_of_le_of_lt (Int.natAbs_ediv_le_natAbs _ _) (nww n hn)
                · rw [etk]
                  refine left_step lf bz (d := if sh > 1 then sh else 1) (Int.ne_of_gt dd0) bne fun j => ?_
                  rw [vec_at hbp, vec_at hrp]
                  by_cases hj : j < row.length
                  · have h1 : r[j]? = some (r[j]'(by omega)) := List.getElem?_eq_getElem _
                    have h2 : x.2[j]? = some (x.2[j]'(by omega)) := List.getElem?_eq_getElem _
                    have h3 := hnw j _ _ h1 h2
                    rw [vec_at h1, vec_at h2, vec_at (x := (bp * r[j] - rp * x.2[j]) / (if sh > 1 then sh else 1)) (by rw [List.getElem?_map, h3]; rfl)]
                    exact Int.mul_ediv_cancel' (ddv _ (List.mem_of_getElem? h3))
                  · rw [vec_out (r := r) (by omega), vec_out (r := x.2) (by omega), vec_out (by rw [List.length_map, nwl]; omega)]
                    simp
      · refine ⟨_, _, _, _, _, _, _, r, fa, rfl, s2, nfa, efa, rl, rw_.mono (bb_mono (Nat.le_succ i)), ?_⟩
        rw [etk]
        refine left_skip lf ?_
        rw [vec_at hrp]
        by_cases z : rp = 0
        · exact z
        · exact absurd (by show (!decide (V.int rp = V.int 0)) = true; rw [decide_eq_false (fun h => z (V.int.inj h))]; rfl) e
    · obtain ⟨y3, y4, y5, y6, y7, y8, y9, r, fa, rfl, s2, nfa, efa, rl, rw_, lf⟩ := p
      rw [zl] at rw_ lf
      rw [List.take_length] at lf
      exact ⟨.ref fa, rfl, q fa r H2 s2 nfa efa rl rw_ lf⟩
end
end Kt
/-! the law's base -/
namespace Kt
open PySem PySem.Spec PyProof.Rows L2
theorem scBase : FnScope ["_law_rows_here", "_law_found", "_law_row", "_law_left", "_law_leads", "_law_at", "_law_one"] ["_law_rows_here"] (defScope (topS 44)) := ⟨rfl, rfl, rfl, by decide +kernel, rfl, by decide +kernel, by decide +kernel⟩
theorem tri_nd : ∀ {T : List (Nat × KtL.Vec)}, KtL.Tri T → (T.map (·.1)).Nodup
  | _, .nil => List.nodup_nil
  | _, .cons (p := p) (r := r) (T := T) hr hz ht => by
    rw [List.map_cons]
    refine List.nodup_cons.2 ⟨fun h => ?_, tri_nd ht⟩
    obtain ⟨x, hx, e⟩ := List.mem_map.1 h
    obtain ⟨i, hi⟩ := List.getElem?_of_mem hx
    have e : x.1 = p := e
    exact (tri_at ht hi).1 (by rw [e]; exact hz x hx)
theorem tri_len {R : Nat} {T : List (Nat × List Int)} (t : KtL.Tri (tv T)) (h : ∀ x ∈ T, x.1 < R) : T.length ≤ R := by
  have nd := tri_nd t
  have e : (tv T).map (·.1) = T.map (·.1) := by
    unfold tv
    rw [List.map_map]
    rfl
  rw [e] at nd
  have z := nodup_len (m := List.range R) nd fun p hp => by
    obtain ⟨x, hx, rfl⟩ := List.mem_map.1 hp
    exact List.mem_range.2 (h x hx)
  rw [List.length_map, List.length_range] at z
  exact z
theorem BsOk.nil (R : Nat) : BsOk R [] := ⟨by decide, .nil, fun k x e => by simp at e⟩
theorem BsOk.more {R : Nat} {T : List (Nat × List Int)} {p : Nat} {r : List Int} (b : BsOk R T) (h24 : R ≤ 24) (rl : r.length = R) (wd : Wd (bb T.length) r) (hp : p < R) (hne : KtL.vec r p ≠ 0) (hz : ∀ x ∈ tv T, KtL.vec r x.1 = 0) : BsOk R (T ++ [(p, r)]) := by
  have t : KtL.Tri (tv (T ++ [(p, r)])) := by
    have e : tv (T ++ [(p, r)]) = tv T ++ [(p, KtL.vec r)] := by
      unfold tv
      rw [List.map_append]
      rfl
    rw [e]
    exact b.tri.snoc hne hz
  have row : ∀ k x, (T ++ [(p, r)])[k]? = some x → x.1 < R ∧ x.2.length = R ∧ Wd (bb k) x.2 := fun k x e => by
    by_cases hk : k < T.length
    · rw [List.getElem?_append_left hk] at e
      exact b.row k x e
    · rw [List.getElem?_append_right (by omega)] at e
      have k0 : k - T.length = 0 := by
        have := (List.getElem?_eq_some_iff.1 e).1
        rw [List.length_singleton] at this
        omega
      rw [k0] at e
      cases e
      have ek : k = T.length := by omega
      rw [ek]
      exact ⟨hp, rl, wd⟩
  refine ⟨Nat.le_trans (tri_len t fun x hx => ?_) h24, t, row⟩
  obtain ⟨i, hi⟩ := List.getElem?_of_mem hx
  exact (row i x hi).1
theorem dep1 (a : Int) : (PyData.int a).depth ≤ 10 := by
  simp only [PyData.depth]
  decide
theorem eqv_int (a b : Int) : PyData.eqv (.int a) (.int b) = true ↔ a = b := by simp [PyData.eqv]
/-- where a row is not 0 -/
def leads (r : List Int) (j : Nat) : List Int := ((List.range j).filter fun i => !decide (r[i]? = some 0)).map fun i : Nat => (i : Int)
theorem leads_yes {r : List Int} {j : Nat} (h : r[j]? ≠ some 0) : leads r (j + 1) = leads r j ++ [(j : Int)] := by
  unfold leads
  rw [List.range_succ, List.filter_append, List.map_append]
  simp [h]
theorem leads_no {r : List Int} {j : Nat} (h : r[j]? = some 0) : leads r (j + 1) = leads r j := by
  unfold leads
  rw [List.range_succ, List.filter_append, List.map_append]
  simp [h]
theorem leads_len (r : List Int) (j : Nat) : (leads r j).length ≤ j := by
  unfold leads
  rw [List.length_map]
  refine Nat.le_trans (List.length_filter_le _ _) ?_
  rw [List.length_range]
  exact Nat.le_refl _
theorem leads_nil {r : List Int} (h : leads r r.length = []) (i : Nat) : KtL.vec r i = 0 := by
  by_cases hi : i < r.length
  · have e : r[i]? = some 0 := by
      by_cases z : r[i]? = some 0
      · exact z
      · have m : ((i : Nat) : Int) ∈ leads r r.length := List.mem_map.2 ⟨i, List.mem_filter.2 ⟨List.mem_range.2 hi, by simp [z]⟩, rfl⟩
        rw [h] at m
        cases m
    exact vec_at e
  · exact vec_out (by omega)
theorem leads_cons {r : List Int} {p : Int} {rest : List Int} (h : leads r r.length = p :: rest) : ∃ i : Nat, p = (i : Int) ∧ i < r.length ∧ KtL.vec r i ≠ 0 := by
  have m : p ∈ leads r r.length := by rw [h]; exact List.mem_cons_self
  obtain ⟨i, hi, rfl⟩ := List.mem_map.1 m
  obtain ⟨h1, h2⟩ := List.mem_filter.1 hi
  have hi := List.mem_range.1 h1
  refine ⟨i, rfl, hi, fun z => ?_⟩
  have e : r[i]? = some r[i] := List.getElem?_eq_getElem hi
  rw [vec_at e] at z
  rw [e, z] at h2
  simp at h2
section
variable {P : Program} {w : World} {K : PySem.W.Frag} {mg : Str → Option Value} {base : Heap}
def spBase (K : PySem.W.Frag) : Sp := fun vs H Q _ => ∃ (cs : List Addr) (v : V) (L : List (List Int)) (R : Nat), vs = [v] ∧ Ne cs H ∧ Dp K (dl cs H) v (.list (L.map colD)) ∧ (∀ r ∈ L, r.length = R ∧ Wd 1 r) ∧ 1 ≤ R ∧ R ≤ 24 ∧
  ∀ l T H', Same H H' → H l = none → Dp K (dl cs H') (.ref l) (.list (T.map bsD)) → BsOk R T → KtL.Base (L.map KtL.vec) (tv T) → Q (.ref l) H'
theorem ok_base {f fL : Addr} {fd fdL : FuncData} {k : Nat} (F : Fun K "_law_base" "_law_base" (topS 44) f fd) (M : Mg K mg)
    (GL : FnOk P w K mg base CX0 k fL fdL ["_law_row", "_law_base_here"] (spLess K)) (kL : PySem.W.keepIn K (.ref fL) = true) (bL : Binds K fdL ["_law_row", "_law_base_here"] []) (gL : mg "_law_less" = some (.ref fL)) :
    FnOk P w K mg base CX0 (k + 1) f fd ["_law_rows_here"] (spBase K) := by
  refine F.ok scBase (fun vs H Q E h => ?_) (fun cdv A outer s H vs Q E hr h => ?_)
  · obtain ⟨cs, v, L, R, rfl, _⟩ := h
    rfl
  · obtain ⟨cs, v, L, R, rfl, nec, hv, hrow, r1, r24, q⟩ := h
    obtain ⟨ba, zs, rfl, hba, hzs⟩ := dp_list hv
    have hba0 : SqL K H ba zs := (dl_le _ _).seq hba
    have zl : zs.length = L.length := by
      have := dps_len hzs
      rw [List.length_map] at this
      exact this
    refine ⟨_, pss_cons (ps_set (i := 1) scBase.nd rfl (.inl rfl) (pe_lst pa_nil))
      (pss_cons (ps_for PassesOwn.never rfl (pi_list (pv 0)) (pg_name (i := 2) scBase.nd rfl (.inl rfl))
        (pss_cons (ps_set (i := 3) scBase.nd rfl (.inl rfl) (pe_call GL hr (by rfl) gL kL bL .nil pass0 (pa_cons (pv 2) (pa_cons (pv 1) pa_nil))))
        (pss_cons (ps_setLc (i := 4) (own := [("_law_at", 5), ("_law_one", 6)]) (g := gTup K 2 (gCons (gName 5) (gCons (gName 6) gNil))) (tt := tTest (tOp rNe (tVar 6) (tC (.int 0)))) rfl scBase.nd rfl rfl (sw_true rfl rfl rfl rfl)
            (pi_enum (by rfl) M.enumerate (pa_cons (pv 3) pa_nil)) (blkOk_by (by kernel_rfl)) (fun s H C cl fp => pg_tup rfl (pgs_cons (pg_name (i := 5) scBase.nd rfl (.inl rfl)) (pgs_cons (pg_name (i := 6) scBase.nd rfl (.inl rfl)) pgs_nil)))
            (fun s H C cl fp => pts_one (pt_cmpR op_ne (pv 6) pe_int (nomark _))) (fun s H C cl fp => pv 5))
        (pss_one (ps_if (pt_cmpR (op_neD hr.units) (pv 4) (pe_lst pa_nil) (nomark _))
          (pss_one (ps_expr (pe_bm PySem.F.plainAttrs_list PySem.F.slot_list_append PySem.F.type_list_append mt_append (pv 1) (pa_cons (pe_tup (pa_cons (pe_ix ix_list (pv 4) pe_int (fun _ _ => rfl)) (pa_cons (pv 3) pa_nil))) pa_nil)))) pss_nil)))))
      (pss_one (ps_ret (pv 1)))), ?_⟩
    refine ⟨Nat.zero_le _, fun fa nfa => ⟨.ref ba, rfl, ba, rfl, ⟨zs, (up_same nfa).seq hba0⟩, ?_⟩⟩
    have facs : fa ∉ cs := nec.not nfa
    refine for_list (xs := zs) (fun i σ H2 => ∃ y2 y3 y4 xs T, σ = [some (.ref ba), some (.ref fa), y2, y3, y4, none, none] ∧ Same H H2 ∧ H2 fa = some (.lst xs) ∧ DpAll K (dl (fa :: cs) H2) xs (T.map bsD) ∧ BsOk R T ∧ KtL.Base ((L.take i).map KtL.vec) (tv T))
      ⟨none, none, none, [], [], rfl, up_same nfa, upd_same, .nil, .nil R, .nil⟩ (fun i σ H2 _ p => ?_) (fun i v σ H2 ev p => ?_) fun σ H2 p => ?_
    · obtain ⟨_, _, _, _, _, _, s2, _⟩ := p
      exact s2.seq hba0
    · obtain ⟨y2, y3, y4, xs, T, rfl, s2, efa, g, bok, bs⟩ := p
      obtain ⟨row, er, dr⟩ := dps_map_at hzs ev
      obtain ⟨rl, wd⟩ := hrow row (List.mem_of_getElem? er)
      have nec2 : Ne cs H2 := nec.same s2
      have xl : xs.length = T.length := by
        have := dps_len g
        rw [List.length_map] at this
        exact this
      have t24 := bok.few
      have etk : (L.take (i + 1)).map KtL.vec = (L.take i).map KtL.vec ++ [KtL.vec row] := by
        rw [List.take_add_one, er, List.map_append]
        rfl
      refine ⟨v, rfl, .ref fa, rfl, cs, v, .ref fa, row, T, rfl, nec2, dp_same (dl_same s2) dr, .lst (.inl (.inl (dl_at efa facs rfl))) (dps_same dl_less g), by rw [rl]; exact bok, wd, by omega, by omega, fun l r H3 s3 nl el rlen rwd lf => ?_⟩
      rw [rl] at rlen
      have efa3 : H3 fa = some (.lst xs) := s3 _ _ efa
      have lfa : l ≠ fa := fun z => by
        rw [z, efa] at nl
        cases nl
      have lcs : l ∉ cs := nec2.not nl
      refine ⟨.ref l, rfl, l, r.map V.int, rfl, .inl (.inl el), fun D nD => ?_⟩
      refine lc_it (walk_enum (xs := r.map V.int)) (PvC [] K H3 D fun j => (leads r j).map PyData.int) (pv0 nD rfl) (fun j H _ p => p.seq (.inl (.inl el))) (fun j v H4 H5 hj p y => ?_) fun H4 p => ?_
      · obtain ⟨TT, x1, y1, rfl, nT, rfl, e1, e2⟩ := y
        have e1 : some (V.int (j : Int)) = some x1 := e1
        cases e1
        have e2 : (r.map V.int)[j]? = some y1 := e2
        obtain ⟨z, f2, rfl⟩ : ∃ y, r[j]? = some y ∧ y1 = .int y := by
          rw [List.getElem?_map] at e2
          obtain ⟨y, e1, e2⟩ := Option.map_eq_some_iff.1 e2
          exact ⟨y, e1, e2.symm⟩
        refine ⟨TT, [.int (j : Int), .int z], rfl, .inl (.inl upd_same), rfl, .int (j : Int), [.int z], rfl, .int z, [], rfl, rfl, rfl, .int z, rfl, rfl, _, rfl, ite2 (fun e => ?_) fun e => ?_⟩
        · have zn : z ≠ 0 := fun h => by
            rw [h] at e
            revert e
            show (!decide (V.int 0 = V.int 0)) = true → False
            rw [decide_eq_true rfl]
            exact fun h => by cases h
          refine ⟨.int (j : Int), rfl, ?_⟩
          refine p.put nD (up_same nT) (.int _) (by rw [leads_yes (by rw [f2]; exact fun h => zn (Option.some.inj h)), List.map_append]; rfl) ?_
          rw [List.length_map]
          have := leads_len r j
          exact small1000 (by rw [List.length_map] at hj; omega)
        · have zn : z = 0 := by
            by_cases h : z = 0
            · exact h
            · exact absurd (by show (!decide (V.int z = V.int 0)) = true; rw [decide_eq_false (fun h' => h (V.int.inj h'))]; rfl) e
          exact p.skip (up_same nT) (by rw [leads_no (by rw [f2, zn])])
      · obtain ⟨s4, acc, eD, gD⟩ := p
        rw [List.length_map] at gD
        have ea := dps_int gD
        subst ea
        have s24 : Same H2 H4 := s3.trans s4
        have efa4 : H4 fa = some (.lst xs) := s4 _ _ efa3
        have el4 : H4 l = some (.lst (r.map V.int)) := s4 _ _ el
        refine ⟨.ref D, rfl, Nat.zero_le _, fun e ne => ?_⟩
        have s5 := up_same (o := .lst []) ne
        have ee : upd H4 e (.lst []) e = some (.lst []) := upd_same
        generalize upd H4 e (.lst []) = H5 at s5 ee ⊢
        have eD5 : H5 D = some (.lst ((leads r r.length).map V.int)) := s5 _ _ eD
        refine ⟨.list ((leads r r.length).map PyData.int), .list (([] : List Int).map PyData.int), .lst (.inl (.inl eD5)) (dps_ints K _ _), .lst (.inl (.inl ee)) .nil, shaped_list (fun a _ => rfl) dep1, shaped_list (fun a ha => (by cases ha)) dep1, _, rfl, ite2 (fun z => ?_) fun z => ?_⟩
        · have lne : leads r r.length ≠ [] := fun h => by
            rw [(eqv_list eqv_int _ []).2 h] at z
            cases z
          have efa5 : H5 fa = some (.lst xs) := s5 _ _ efa4
          have el5 : H5 l = some (.lst (r.map V.int)) := s5 _ _ el4
          have s25 : Same H2 H5 := s24.trans s5
          match hl : leads r r.length, lne with
          | p :: rest, _ =>
            rw [hl] at eD5
            obtain ⟨pi, rfl, hpi, hne⟩ := leads_cons hl
            refine ⟨.ref fa, rfl, .inl ⟨rfl, _, .inl (.inl efa5)⟩, .ref D, rfl, D, _, 0, .int (pi : Int), rfl, rfl, .inl (.inl eD5), atI_nat (j := 0) rfl, .ref l, rfl, by show 2 ≤ sizeLine; decide, fun tp ntp => ?_⟩
            have s6 := up_same (o := .tup [.int (pi : Int), .ref l]) ntp
            have etp : upd H5 tp (.tup [.int (pi : Int), .ref l]) tp = some (.tup [.int (pi : Int), .ref l]) := upd_same
            have tfa : tp ≠ fa := fun h => by
              rw [h, efa5] at ntp
              cases ntp
            have tcs : tp ∉ cs := ((nec2.same s25).not ntp)
            generalize upd H5 tp (.tup [.int (pi : Int), .ref l]) = H6 at s6 etp ⊢
            have efa6 : H6 fa = some (.lst xs) := s6 _ _ efa5
            have el6 : H6 l = some (.lst (r.map V.int)) := s6 _ _ el5
            refine ⟨fa, xs, _, rfl, rfl, efa6, small1000 (by omega), ?_⟩
            have bmore := bs.more lf hne
            refine ⟨_, _, _, xs ++ [.ref tp], T ++ [(pi, r)], rfl, fun b x e => ?_, upd_same, ?_, bok.more r24 rlen rwd (by omega) hne lf.zero, ?_⟩
            · rw [upd_ne (ne_of_none e nfa)]
              exact (s2.trans (s25.trans s6)) _ _ e
            · rw [dl_in List.mem_cons_self, List.map_append]
              refine dps_snoc (dps_same (dl_same (s25.trans s6)) g) (.tup (.inl (.inl (dl_at etp (by simp [tfa, tcs]) rfl))) (.cons (.int _) (.cons (.lst (.inl (.inl (dl_at el6 (by simp [lfa, lcs]) rfl))) (dps_ints K _ _)) .nil)))
            · rw [etk]
              have e : tv (T ++ [(pi, r)]) = tv T ++ [(pi, KtL.vec r)] := by
                unfold tv
                rw [List.map_append]
                rfl
              rw [e]
              exact bmore
        · have lnil : leads r r.length = [] := by
            refine (eqv_list eqv_int _ []).1 ?_
            cases h : PyData.eqv (.list ((leads r r.length).map PyData.int)) (.list (([] : List Int).map PyData.int)) with
            | true => rfl
            | false => exact absurd (by rw [h]; rfl) z
          refine ⟨_, _, _, xs, T, rfl, s2.trans (s24.trans s5), s5 _ _ efa4, dps_same (dl_same (s24.trans s5)) g, bok, ?_⟩
          rw [etk]
          exact bs.same lf (leads_nil lnil)
    · obtain ⟨y2, y3, y4, xs, T, rfl, s2, efa, g, bok, bs⟩ := p
      rw [zl, List.take_length] at bs
      exact ⟨.ref fa, rfl, q fa T H2 s2 nfa (.lst (.inl (.inl (dl_at efa facs rfl))) (dps_same dl_less g)) bok bs⟩
end
end Kt
/-! the law's full table: longer, rows -/
namespace Kt
open PySem PySem.Spec PyProof.Rows L2
theorem scLonger : FnScope ["_law_rows_here", "_law_name", "_law_many", "_law_found", "_law_worth", "_law_row"] ["_law_rows_here", "_law_name", "_law_many"] (defScope (topS 45)) := ⟨rfl, rfl, rfl, by decide +kernel, rfl, by decide +kernel, by decide +kernel⟩
theorem scRows : FnScope ["_law_levels", "_law_numbers", "_law_found", "_law_name", "_law_row"] ["_law_levels", "_law_numbers"] (defScope (topS 46)) := ⟨rfl, rfl, rfl, by decide +kernel, rfl, by decide +kernel, by decide +kernel⟩
section
variable {X : Cx}
def rCatS (K : PySem.W.Frag) : R2 := fun x y H Q => ∃ a b xs zs, x = .ref a ∧ y = .ref b ∧ SqL K H a xs ∧ SqL K H b zs ∧ xs.length + zs.length ≤ sizeLine ∧ ∀ p, H p = none → Q (.ref p) (upd H p (.lst (xs ++ zs)))
theorem op_catS : OpR X (binaryOp .Add) (rCatS X.K) := by
  intro pins s σ H x y v u Q I rx ry h
  obtain ⟨l, b, xs, zs, rfl, rfl, hH, hB, hz, q⟩ := h
  cases rx
  cases ry
  obtain ⟨its, r, pl, _⟩ := I.list hH
  obtain ⟨its2, r2, pl2, _⟩ := I.list hB
  obtain ⟨⟨cls, dd, data, sl⟩, ho, hc, n, hd⟩ := pl.isList
  obtain ⟨⟨cls2, dd2, data2, sl2⟩, ho2, hc2, n2, hd2⟩ := pl2.isList
  simp only at hc hd hc2 hd2
  subst hc hd hc2 hd2
  have z1 := r.length
  have z2 := r2.length
  refine concat_meets ⟨_, ho, rfl⟩ ⟨_, ho2, rfl⟩ noFill_list_add seq_list_add PySem.F.slot_list_add PySem.F.entry_list_add (PySem.F.args_list_add_2 _ _) (list_addW l b its.toArray its2.toArray n n2 dd dd2 sl sl2 (by rw [List.size_toArray, List.size_toArray]; omega)) ⟨ho, ho2, ?_⟩
  have ea : its.toArray ++ its2.toArray = (its ++ its2).toArray := by simp
  rw [ea]
  exact ⟨.ref _, _, I.lnew (t' := s.toks) (r.append r2) (by rw [List.length_append]; omega), rfl, q _ I.fresh⟩
end
abbrev Rw := KtL.Rw Str
def cellD (q : Str × Int) : PyData := .tuple [.str q.1, .int q.2]
def rwD (r : Rw) : PyData := .list (r.map cellD)
theorem longer_succ (rs : List Rw) (x : Str) (j : Nat) : KtL.longer rs x (j + 1) = KtL.longer rs x j ++ rs.map (· ++ [(x, (j : Int))]) := by
  unfold KtL.longer
  rw [List.range_succ, List.flatMap_append, List.flatMap_cons, List.flatMap_nil, List.append_nil]
theorem longer_len (rs : List Rw) (x : Str) (m : Nat) : (KtL.longer rs x m).length = m * rs.length := by
  induction m with
  | zero => simp [KtL.longer]
  | succ m ih =>
    rw [longer_succ, List.length_append, ih, List.length_map, Nat.succ_mul]
theorem longer_width {rs : List Rw} {x : Str} {m n : Nat} (h : ∀ r ∈ rs, r.length = n) : ∀ r ∈ KtL.longer rs x m, r.length = n + 1 := fun r hr => by
  obtain ⟨l, _, h1⟩ := List.mem_flatMap.1 hr
  obtain ⟨r0, h0, rfl⟩ := List.mem_map.1 h1
  rw [List.length_append, h r0 h0]
  rfl
section
variable {P : Program} {w : World} {K : PySem.W.Frag} {mg : Str → Option Value} {base : Heap}
def spLonger (K : PySem.W.Frag) : Sp := fun vs H Q _ => ∃ (cs : List Addr) (v : V) (rs : List Rw) (x : Str) (m n : Nat), vs = [v, .str x, .int (m : Int)] ∧ Ne cs H ∧ Dp K (dl cs H) v (.list (rs.map rwD)) ∧ (∀ r ∈ rs, r.length = n) ∧ n ≤ 20 ∧ m * rs.length ≤ 1000 ∧ m ≤ 1000 ∧
  ∀ l H', Same H H' → H l = none → Dp K (dl cs H') (.ref l) (.list ((KtL.longer rs x m).map rwD)) → Q (.ref l) H'
theorem ok_longer {f : Addr} {fd : FuncData} {k : Nat} (F : Fun K "_law_longer" "_law_longer" (topS 45) f fd) (M : Mg K mg) : FnOk P w K mg base CX0 (k + 1) f fd ["_law_rows_here", "_law_name", "_law_many"] (spLonger K) := by
  refine F.ok scLonger (fun vs H Q E h => ?_) (fun cdv A outer s H vs Q E hr h => ?_)
  · obtain ⟨cs, v, rs, x, m, n, rfl, _⟩ := h
    rfl
  · obtain ⟨cs, v, rs, x, m, n, rfl, nec, hv, hn, n20, hm, m1, q⟩ := h
    obtain ⟨a, zs, rfl, ha, hz⟩ := dp_list hv
    have ha0 : SqL K H a zs := (dl_le _ _).seq ha
    have zl : zs.length = rs.length := by
      have := dps_len hz
      rw [List.length_map] at this
      exact this
    refine ⟨_, pss_cons (ps_set (i := 3) scLonger.nd rfl (.inl rfl) (pe_lst pa_nil))
      (pss_cons (ps_for PassesOwn.never rfl (pi_range1 (by rfl) M.range (pa_cons (pv 2) pa_nil)) (pg_name (i := 4) scLonger.nd rfl (.inr rfl))
        (pss_one (ps_set (i := 3) scLonger.nd rfl (.inl rfl) (pe_op op_cat (pv 3) (pe_lc (own := [("_law_row", 5)]) (te := tOp (rCatS K) (tVar 5) (tLst (tCons (tTup (tCons (tVar 1) (tCons (tVar 4) tNil))) tNil))) rfl scLonger.nd (pi_list (pv 0)) (blkOk_by (by kernel_rfl))
          (fun s H C cl fp => pg_name (i := 5) scLonger.nd rfl (.inl rfl)) (fun s H C cl fp => pts_nil) (fun s H C cl fp => pe_op op_catS (pv 5) (pe_lst (pa_cons (pe_tup (pa_cons (pv 1) (pa_cons (pv 4) pa_nil))) pa_nil))))))))
      (pss_one (ps_ret (pv 3)))), ?_⟩
    refine ⟨Nat.zero_le _, fun l nl => ⟨.int (m : Int), rfl, (m : Int), rfl, by omega, by omega, ?_⟩⟩
    refine for_range (lo := 0) (n := m) (fun j σ H2 => ∃ l xs y4, σ = [some (.ref a), some (.str x), some (.int (m : Int)), some (.ref l), y4, none] ∧ Same H H2 ∧ H l = none ∧ H2 l = some (.lst xs) ∧ DpAll K (dl cs H2) xs ((KtL.longer rs x j).map rwD))
      ⟨l, [], none, rfl, up_same nl, nl, upd_same, .nil⟩ (fun j σ H2 hj p => ?_) fun σ H2 p => ?_
    · obtain ⟨l, xs, y4, rfl, s2, nl, el, g⟩ := p
      have xl : xs.length = j * rs.length := by
        have := dps_len g
        rw [List.length_map, longer_len] at this
        exact this
      have jm : j * rs.length + rs.length ≤ 1000 := by
        have : (j + 1) * rs.length ≤ m * rs.length := Nat.mul_le_mul_right _ hj
        rw [Nat.succ_mul] at this
        omega
      have nec2 := nec.same s2
      refine ⟨.ref l, rfl, .ref a, rfl, a, rfl, ⟨zs, s2.seq ha0⟩, fun D nD => ?_⟩
      refine lc_list (xs := zs) (PvC cs K H2 D fun i => ((rs.take i).map (· ++ [(x, (j : Int))])).map rwD) (pv0 nD rfl) (fun i H3 _ p => p.seq (s2.seq ha0)) (fun i v H3 ei p => ?_) fun H3 p => ?_
      · obtain ⟨r, er, dr⟩ := dps_map_at hz ei
        have dr2 : Dp K (dl cs H2) v (.list (r.map cellD)) := dp_same (dl_same s2) dr
        obtain ⟨b, ys, rfl, hb, g3⟩ := dp_list dr2
        have hb3 : SqL K H3 b ys := p.seq ((dl_le _ _).seq hb)
        have g3' : DpAll K (dl (D :: cs) H3) ys (r.map cellD) := dps_same (dl_out p.1 nD) g3
        have yl : ys.length = n := by
          have := dps_len g3
          rw [List.length_map, hn r (List.mem_of_getElem? er)] at this
          exact this
        have nem := p.ne nec2
        refine ⟨rfl, .ref b, rfl, .str x, rfl, .int (0 + (j : Int)), rfl, by show 2 ≤ sizeLine; decide, fun tp ntp => ⟨by show 1 ≤ sizeLine; decide, fun tl ntl => ?_⟩⟩
        refine ⟨b, tl, ys, [.ref tp], rfl, rfl, ((up_same ntp).trans (up_same ntl)).seq hb3, .inl (.inl upd_same), Nat.le_of_lt (small1000 (by show ys.length + 1 ≤ 1000; omega)), fun o no => ?_⟩
        have s5 : Same H3 (upd (upd (upd H3 tp (.tup [.str x, .int (0 + (j : Int))])) tl (.lst [.ref tp])) o (.lst (ys ++ [.ref tp]))) := ((up_same ntp).trans (up_same ntl)).trans (up_same no)
        have etp : (upd (upd (upd H3 tp (.tup [.str x, .int (0 + (j : Int))])) tl (.lst [.ref tp])) o (.lst (ys ++ [.ref tp]))) tp = some (.tup [.str x, .int (0 + (j : Int))]) := ((up_same ntl).trans (up_same no)) _ _ upd_same
        have tpn : tp ∉ D :: cs := nem.not ntp
        have on : o ∉ D :: cs := nem.not (((up_same ntp).trans (up_same ntl)).free no)
        refine p.put nD s5 (d := rwD (r ++ [(x, (j : Int))])) (.lst (.inl (.inl (dl_at upd_same on rfl))) ?_) ?_ ?_
        · rw [List.map_append]
          refine dps_snoc (dps_same (dl_same s5) g3') (.tup (.inl (.inl (dl_at etp tpn rfl))) (.cons (.str x) (.cons ?_ .nil)))
          rw [Int.zero_add]
          exact .int _
        · rw [List.map_map, List.map_map]
          exact take_map_succ (f := rwD ∘ (· ++ [(x, (j : Int))])) er
        · rw [List.length_map, List.length_map, List.length_take]
          exact small1000 (by omega)
      · obtain ⟨s3, acc, eD, gD⟩ := p
        rw [zl] at gD
        have gD : DpAll K (dl (D :: cs) H3) acc (((rs.take rs.length).map (· ++ [(x, (j : Int))])).map rwD) := gD
        rw [List.take_length] at gD
        have al : acc.length = rs.length := by
          have := dps_len gD
          rw [List.length_map, List.length_map] at this
          exact this
        refine ⟨l, D, xs, acc, rfl, rfl, s3 _ _ el, eD, Nat.le_of_lt (small1000 (by omega)), fun o no => ?_⟩
        refine ⟨o, xs ++ acc, _, rfl, (s2.trans s3).trans (up_same no), (s2.trans s3).free no, upd_same, ?_⟩
        rw [longer_succ, List.map_append]
        exact dps_same (dl_up no) (dps_app (dps_same (dl_same s3) g) (dps_same dl_less gD))
    · obtain ⟨l, xs, y4, rfl, s2, nl, el, g⟩ := p
      exact ⟨.ref l, rfl, q l H2 s2 nl (.lst (.inl (.inl (dl_at el (nec.not nl) rfl))) g)⟩
end
/-! ### the law's own tables: levels and numbers -/
def allOf (fs : List (Str × Nat)) (ns : List Str) : List (Str × Nat) := fs ++ ns.map fun x => (x, 2)
def cfgFs : List (List (Str × Nat)) := [[("a", 2)], [("a", 3)], [("a", 2), ("b", 2)], [("a", 2), ("b", 3)], [("a", 3), ("b", 2)], [("a", 2), ("b", 2), ("c", 2)], [("a", 2), ("b", 3), ("c", 2)], [("a", 3), ("b", 2), ("c", 2)]]
def cfgs : List (List (Str × Nat) × List Str) := cfgFs.flatMap fun fs => ([[], ["u"], ["u", "x"]] : List (List Str)).filterMap fun ns => if (KtL.full (allOf fs ns)).length ≤ 24 then some (fs, ns) else none
def Cfg (fs : List (Str × Nat)) (ns : List Str) : Prop := (fs, ns) ∈ cfgs
theorem cfg_of {fs : List (Str × Nat)} {ns : List Str} {Pq : List (Str × Nat) × List Str → Prop} (h : ∀ c ∈ cfgs, Pq c) (c : Cfg fs ns) : Pq (fs, ns) := h _ c
theorem cfg_names1 : ∀ c ∈ cfgs, c.1.map (·.1) = (["a"] : List Str) ∨ c.1.map (·.1) = (["a", "b"] : List Str) ∨ c.1.map (·.1) = (["a", "b", "c"] : List Str) := by decide +kernel
theorem cfg_nd1 : ∀ c ∈ cfgs, ((allOf c.1 c.2).map (·.1)).Nodup := by decide +kernel
theorem cfg_len1 : ∀ c ∈ cfgs, (allOf c.1 c.2).length ≤ 5 ∧ ∀ p ∈ allOf c.1 c.2, 2 ≤ p.2 ∧ p.2 ≤ 3 := by decide +kernel
theorem cfg_rows1 : ∀ c ∈ cfgs, (KtL.full (allOf c.1 c.2)).length ≤ 24 ∧ 1 ≤ (KtL.full (allOf c.1 c.2)).length := by decide +kernel
theorem cfg_cU1 : ∀ c ∈ cfgs, List.isSublist ((allOf c.1 c.2).map (·.1)) cU = true := by decide +kernel
theorem sortedP {L ys : List Str} (h : L = (["a"] : List Str) ∨ L = (["a", "b"] : List Str) ∨ L = (["a", "b", "c"] : List Str)) (p : ys.Perm L) (s : sortedS ys = true) : ys = L := by
  rcases h with rfl | rfl | rfl
  · exact List.perm_singleton.1 p
  · match ys, p.length_eq with
    | [x, y], _ =>
      have hx : x ∈ (["a", "b"] : List Str) := p.mem_iff.1 (by simp)
      have hy : y ∈ (["a", "b"] : List Str) := p.mem_iff.1 (by simp)
      have nd := p.nodup_iff.2 (show (["a", "b"] : List Str).Nodup by decide +kernel)
      simp only [List.mem_cons, List.not_mem_nil, or_false] at hx hy
      rcases hx with rfl | rfl <;> rcases hy with rfl | rfl <;> first | rfl | exact absurd s (by decide +kernel) | exact absurd nd (by decide +kernel)
  · match ys, p.length_eq with
    | [x, y, z], _ =>
      have hx : x ∈ (["a", "b", "c"] : List Str) := p.mem_iff.1 (by simp)
      have hy : y ∈ (["a", "b", "c"] : List Str) := p.mem_iff.1 (by simp)
      have hz : z ∈ (["a", "b", "c"] : List Str) := p.mem_iff.1 (by simp)
      have nd := p.nodup_iff.2 (show (["a", "b", "c"] : List Str).Nodup by decide +kernel)
      simp only [List.mem_cons, List.not_mem_nil, or_false] at hx hy hz
      rcases hx with rfl | rfl | rfl <;> rcases hy with rfl | rfl | rfl <;> rcases hz with rfl | rfl | rfl <;> first | rfl | exact absurd s (by decide +kernel) | exact absurd nd (by decide +kernel)
/-! ### dicts -/
theorem map_val {β : Type} (g : β → V) (x : Str) : ∀ ks : List (Str × β), valV (ks.map fun p => ((.inr p.1 : Key), g p.2)) (.inr x) = (ks.lookup x).map g
  | [] => rfl
  | p :: ks => by
    rw [List.map_cons]
    by_cases e : p.1 = x
    · rw [valV_pos (by rw [e])]
      obtain ⟨a, b⟩ := p
      simp only at e
      subst e
      simp [List.lookup]
    · rw [valV_neg (fun z => e (Sum.inr.inj z)), map_val g x ks]
      obtain ⟨a, b⟩ := p
      have e2 : (x == a) = false := beq_eq_false_iff_ne.2 fun z => e z.symm
      simp [List.lookup, e2]
theorem merge_new : ∀ (more kvs : List (Key × V)), ((kvs ++ more).map (·.1)).Nodup → mergeK kvs more = kvs ++ more
  | [], kvs, _ => by
    rw [List.append_nil]
    rfl
  | p :: more, kvs, h => by
    have e : mergeK kvs (p :: more) = mergeK (putK kvs p.1 p.2) more := rfl
    have n : ¬ (kvs.any fun kv => decide (kv.1 = p.1)) = true := fun z => by
      obtain ⟨q, hq, eq⟩ := List.any_eq_true.1 z
      rw [List.map_append, List.map_cons] at h
      exact (List.nodup_append.1 h).2.2 q.1 (List.mem_map.2 ⟨q, hq, rfl⟩) p.1 List.mem_cons_self (of_decide_eq_true eq)
    rw [e, show putK kvs p.1 p.2 = kvs ++ [p] from if_neg n, merge_new more (kvs ++ [p]) (by rw [List.append_assoc]; exact h), List.append_assoc]
    rfl
def lvV (fs : List (Str × Nat)) : List (Key × V) := fs.map fun p => (.inr p.1, .int (p.2 : Int))
def rwV (r : Rw) : List (Key × V) := r.map fun p => (.inr p.1, .int p.2)
theorem cells_of {K : PySem.W.Frag} {H : Hp} : ∀ {r : Rw} {ys : List V}, DpAll K H ys (r.map cellD) → ∃ ps : List Addr, ys = ps.map V.ref ∧ Paired (fun p kv => SqT K H p [kV kv.1, kv.2]) ps (rwV r)
  | [], ys, g => by
    cases g
    exact ⟨[], rfl, .nil⟩
  | q :: r, ys, g => by
    cases g with
    | cons g1 g2 =>
      obtain ⟨ps, rfl, hp⟩ := cells_of g2
      obtain ⟨a, xs, rfl, ha, g3⟩ := dp_tup g1
      cases g3 with
      | cons h1 g3 =>
      cases h1
      cases g3 with
      | cons h2 g3 =>
      cases h2
      cases g3
      exact ⟨a :: ps, rfl, .cons ha hp⟩
theorem full_keys {ns : List (Str × Nat)} {r : Rw} (h : r ∈ KtL.full ns) : r.map (·.1) = ns.map (·.1) := (KtL.mem_full.1 h).keys
theorem full_snoc (ns : List (Str × Nat)) (q : Str × Nat) : KtL.full (ns ++ [q]) = KtL.longer (KtL.full ns) q.1 q.2 := by
  unfold KtL.full KtL.fullFrom
  rw [List.foldl_append]
  rfl
theorem full_width (ns : List (Str × Nat)) : ∀ r ∈ KtL.full ns, r.length = ns.length := fun r hr => by
  have := congrArg List.length (full_keys hr)
  rw [List.length_map, List.length_map] at this
  exact this
theorem full_le : ∀ (ns : List (Str × Nat)), (∀ p ∈ ns, p.2 ≤ 3) → (KtL.full ns).length ≤ 3 ^ ns.length := fun ns => by
  rw [← List.reverse_reverse ns]
  induction ns.reverse with
  | nil => intro _; exact Nat.le_refl _
  | cons q l ih =>
    intro h
    rw [List.reverse_cons, full_snoc, longer_len, List.length_append, List.length_singleton, Nat.pow_succ, Nat.mul_comm]
    exact Nat.mul_le_mul (ih fun p hp => h p (by rw [List.reverse_cons]; exact List.mem_append_left _ hp)) (h q (by rw [List.reverse_cons]; exact List.mem_append_right _ List.mem_cons_self))
theorem lookup_mem {β : Type} {x : Str} {m : β} : ∀ {l : List (Str × β)}, (l.map (·.1)).Nodup → (x, m) ∈ l → l.lookup x = some m
  | (y, n) :: l, nd, h => by
    rw [List.map_cons] at nd
    obtain ⟨n1, n2⟩ := List.nodup_cons.1 nd
    rcases List.mem_cons.1 h with e | h
    · cases e
      simp [List.lookup]
    · have hne : (x == y) = false := beq_eq_false_iff_ne.2 fun z => n1 (List.mem_map.2 ⟨(x, m), h, z⟩)
      rw [List.lookup_cons, hne]
      exact lookup_mem n2 h
/-- a list of dicts of rows -/
def RdsAt (H : Hp) (xs : List V) (rs : List Rw) : Prop := xs.length = rs.length ∧ ∀ (i : Nat) (v : V), xs[i]? = some v → ∃ (r : Rw) (d : Addr), rs[i]? = some r ∧ v = .ref d ∧ H d = some (.dK (rwV r))
theorem RdsAt.same {H H' : Hp} {xs : List V} {rs : List Rw} (h : RdsAt H xs rs) (s : Same H H') : RdsAt H' xs rs := ⟨h.1, fun i v e => by
  obtain ⟨r, d, h1, h2, h3⟩ := h.2 i v e
  exact ⟨r, d, h1, h2, s _ _ h3⟩⟩
theorem RdsAt.snoc {H : Hp} {xs : List V} {rs : List Rw} {d : Addr} {r : Rw} (h : RdsAt H xs rs) (hd : H d = some (.dK (rwV r))) : RdsAt H (xs ++ [.ref d]) (rs ++ [r]) := by
  refine ⟨by rw [List.length_append, List.length_append, h.1]; rfl, fun i v e => ?_⟩
  by_cases hi : i < xs.length
  · rw [List.getElem?_append_left hi] at e
    obtain ⟨r', d', h1, h2, h3⟩ := h.2 i v e
    exact ⟨r', d', by rw [List.getElem?_append_left (by rw [← h.1]; exact hi)]; exact h1, h2, h3⟩
  · rw [List.getElem?_append_right (by omega)] at e
    have hi2 := (List.getElem?_eq_some_iff.1 e).1
    rw [List.length_singleton] at hi2
    have e0 : i - xs.length = 0 := by omega
    rw [e0] at e
    cases e
    refine ⟨r, d, ?_, rfl, hd⟩
    rw [List.getElem?_append_right (by rw [← h.1]; omega), ← h.1, e0]
    rfl
theorem RdsAt.upd {H : Hp} {xs ys zs : List V} {rs : List Rw} {D : Addr} (h : RdsAt H xs rs) (e : H D = some (.lst ys)) : RdsAt (upd H D (.lst zs)) xs rs := ⟨h.1, fun i v ei => by
  obtain ⟨r, d, h1, h2, h3⟩ := h.2 i v ei
  refine ⟨r, d, h1, h2, ?_⟩
  rw [upd_ne (fun z => by rw [z, e] at h3; cases h3)]
  exact h3⟩
section
variable {P : Program} {w : World} {K : PySem.W.Frag} {mg : Str → Option Value} {base : Heap}
def spRows (K : PySem.W.Frag) : Sp := fun vs H Q _ => ∃ (cs : List Addr) (d : Addr) (nv : V) (fs : List (Str × Nat)) (ns : List Str), vs = [.ref d, nv] ∧ Ne cs H ∧ H d = some (.dK (lvV fs)) ∧ Dp K (dl cs H) nv (.list (ns.map .str)) ∧ Cfg fs ns ∧
  ∀ l xs H', Same H H' → H l = none → H' l = some (.lst xs) → RdsAt H' xs (KtL.full (allOf fs ns)) → Q (.ref l) H'
theorem ok_rows {f fL : Addr} {fd fdL : FuncData} {k : Nat} (F : Fun K "_law_rows" "_law_rows" (topS 46) f fd) (M : Mg K mg)
    (GL : FnOk P w K mg base CX0 k fL fdL ["_law_rows_here", "_law_name", "_law_many"] (spLonger K)) (kL : PySem.W.keepIn K (.ref fL) = true) (bL : Binds K fdL ["_law_rows_here", "_law_name", "_law_many"] []) (gL : mg "_law_longer" = some (.ref fL)) :
    FnOk P w K mg base CX0 (k + 1) f fd ["_law_levels", "_law_numbers"] (spRows K) := by
  refine F.ok scRows (fun vs H Q E h => ?_) (fun cdv A outer s H vs Q E hr h => ?_)
  · obtain ⟨cs, d, nv, fs, ns, rfl, _⟩ := h
    rfl
  · obtain ⟨cs, d, nv, fs, ns, rfl, nec, hd, hnv, cfg, q⟩ := h
    obtain ⟨na, nxs, rfl, hna, hnx⟩ := dp_list hnv
    have enx := dps_str hnx
    subst enx
    have hna0 : SqL K H na (ns.map V.str) := (dl_le _ _).seq hna
    have c1 := cfg_of cfg_names1 cfg
    have c2 := cfg_of cfg_nd1 cfg
    have c3 := cfg_of cfg_len1 cfg
    have al : (allOf fs ns).length = fs.length + ns.length := by
      unfold allOf
      rw [List.length_append, List.length_map]
    have c5 : fs.length + ns.length ≤ 5 := by
      have := c3.1
      rw [al] at this
      exact this
    have fle : ∀ l : List (Str × Nat), (∀ p ∈ l, p ∈ allOf fs ns) → l.length ≤ 5 → (KtL.full l).length ≤ 243 := fun l h1 h2 =>
      Nat.le_trans (full_le l fun p hp => (c3.2 p (h1 p hp)).2) (Nat.le_trans (Nat.pow_le_pow_right (by decide) h2) (by decide))
    refine ⟨_, pss_cons (ps_set (i := 2) scRows.nd rfl (.inl rfl) (pe_lst (pa_cons (pe_lst pa_nil) pa_nil)))
      (pss_cons (ps_for PassesOwn.never rfl (pi_list (pe_callB (call_sortedD rfl) (by rfl) M.sorted bt_sorted (pa_cons (pv 0) pa_nil))) (pg_name (i := 3) scRows.nd rfl (.inl rfl))
        (pss_one (ps_set (i := 2) scRows.nd rfl (.inl rfl) (pe_call GL hr (by rfl) gL kL bL .nil pass0 (pa_cons (pv 2) (pa_cons (pv 3) (pa_cons (pe_dget (hu_of hr) (pv 0) (pv 3) (fun _ _ => rfl)) pa_nil)))))))
      (pss_cons (ps_for PassesOwn.never rfl (pi_list (pv 1)) (pg_name (i := 3) scRows.nd rfl (.inl rfl))
        (pss_one (ps_set (i := 2) scRows.nd rfl (.inl rfl) (pe_call GL hr (by rfl) gL kL bL .nil pass0 (pa_cons (pv 2) (pa_cons (pv 3) (pa_cons pe_int pa_nil)))))))
      (pss_one (ps_ret (pe_lc (own := [("_law_row", 4)]) (te := tCB (fun xs H Q => ∃ (a : Addr) (ps : List Addr) (kvs : List (Key × V)), xs = [.ref a] ∧ SqL K H a (ps.map V.ref) ∧ Paired (fun p kv => SqT K H p [kV kv.1, kv.2]) ps kvs ∧ ∀ p, H p = none → Q (.ref p) (upd H p (.dK (mergeK [] kvs)))) (tCons (tVar 4) tNil)) rfl scRows.nd (pi_list (pv 2)) (blkOk_by (by kernel_rfl))
        (fun s H C cl fp => pg_name (i := 4) scRows.nd rfl (.inl rfl)) (fun s H C cl fp => pts_nil) (fun s H C cl fp => pe_callTy (call_dictP rfl) (by rfl) M.dict bt_dict (pa_cons (pv 4) pa_nil))))))), ?_⟩
    have nd1 : (fs.map (·.1)).Nodup := by
      have h := c2
      unfold allOf at h
      rw [List.map_append] at h
      exact (List.nodup_append.1 h).1
    refine ⟨Nat.zero_le _, fun e ne => ⟨by show 1 ≤ sizeLine; decide, fun l nl => ?_⟩⟩
    have s1 : Same H (upd (upd H e (.lst [])) l (.lst [.ref e])) := (up_same ne).trans (up_same nl)
    have ee : (upd (upd H e (.lst [])) l (.lst [.ref e])) e = some (.lst []) := up_same nl _ _ upd_same
    have el : (upd (upd H e (.lst [])) l (.lst [.ref e])) l = some (.lst [.ref e]) := upd_same
    have nlH : H l = none := (up_same ne).free nl
    generalize upd (upd H e (.lst [])) l (.lst [.ref e]) = H1 at s1 ee el ⊢
    have nec1 := nec.same s1
    have dl0 : Dp K (dl cs H1) (.ref l) (.list ((KtL.full ([] : List (Str × Nat))).map rwD)) := .lst (.inl (.inl (dl_at el (nec.not nlH) rfl))) (dps_one (.lst (.inl (.inl (dl_at ee (nec.not ne) rfl))) .nil))
    refine ⟨.ref d, rfl, d, lvV fs, fs.map (·.1), rfl, .inl (s1 _ _ hd), by unfold lvV; rw [List.map_map, List.map_map]; rfl, by rw [List.length_map]; omega, fun ys p pm so np => ?_⟩
    have eys := sortedP c1 pm so
    subst eys
    have s2 : Same H1 (upd H1 p (.lst ((fs.map (·.1)).map V.str))) := up_same np
    have ep : (upd H1 p (.lst ((fs.map (·.1)).map V.str))) p = some (.lst ((fs.map (·.1)).map V.str)) := upd_same
    generalize upd H1 p (.lst ((fs.map (·.1)).map V.str)) = H2 at s2 ep ⊢
    refine ⟨p, rfl, ⟨_, .inl (.inl ep)⟩, ?_⟩
    refine for_list (xs := (fs.map (·.1)).map V.str) (fun i σ H3 => ∃ l y3, σ = [some (.ref d), some (.ref na), some (.ref l), y3, none] ∧ Same H2 H3 ∧ H l = none ∧ Dp K (dl cs H3) (.ref l) (.list ((KtL.full (fs.take i)).map rwD)))
      ⟨l, none, rfl, Same.refl _, nlH, dp_same (dl_same s2) dl0⟩ (fun i σ H3 _ p => ?_) (fun i v σ H3 ev p => ?_) fun σ H3 p => ?_
    · obtain ⟨_, _, _, s3, _⟩ := p
      exact .inl (.inl (s3 _ _ ep))
    · obtain ⟨l, y3, rfl, s3, nl, dl3⟩ := p
      rw [List.getElem?_map, List.getElem?_map] at ev
      obtain ⟨⟨x, m⟩, ef, rfl⟩ : ∃ q : Str × Nat, fs[i]? = some q ∧ v = .str q.1 := by
        cases h : fs[i]? with
        | none =>
          rw [h] at ev
          cases ev
        | some q =>
          rw [h] at ev
          cases ev
          exact ⟨q, rfl, rfl⟩
      have hi : i < fs.length := (List.getElem?_eq_some_iff.1 ef).1
      have sH3 : Same H H3 := (s1.trans s2).trans s3
      have qin : (x, m) ∈ fs := List.mem_of_getElem? ef
      have m3 : m ≤ 3 := (c3.2 (x, m) (List.mem_append_left _ qin)).2
      have fl := fle (fs.take i) (fun p hp => List.mem_append_left _ (List.mem_of_mem_take hp)) (by rw [List.length_take]; omega)
      have eti : fs.take (i + 1) = fs.take i ++ [(x, m)] := by
        rw [List.take_add_one, ef]
        rfl
      refine ⟨.ref l, rfl, .str x, rfl, .ref d, rfl, .str x, rfl, d, .int (m : Int), rfl, .inl ⟨_, .inr x, .inl (sH3 _ _ hd), rfl, ?_⟩, cs, .ref l, KtL.full (fs.take i), x, m, (fs.take i).length, rfl, nec.same sH3, dl3, full_width _, by rw [List.length_take]; omega, ?_, by omega, fun l' H4 s4 nl' d' => ?_⟩
      · rw [show lvV fs = fs.map fun p => ((.inr p.1 : Key), V.int (p.2 : Int)) from rfl, map_val (fun n : Nat => V.int (n : Int)), lookup_mem nd1 qin]
        rfl
      · exact Nat.le_trans (Nat.mul_le_mul m3 fl) (by decide)
      · refine ⟨l', some (.str x), rfl, s3.trans s4, sH3.free nl', ?_⟩
        rw [eti, full_snoc]
        exact d'
    · obtain ⟨l, y3, rfl, s3, nl, dl3⟩ := p
      rw [List.length_map, List.length_map, List.take_length] at dl3
      have sH3 : Same H H3 := (s1.trans s2).trans s3
      refine ⟨.ref na, rfl, na, rfl, ⟨_, sH3.seq hna0⟩, ?_⟩
      refine for_list (xs := ns.map V.str) (fun i σ H4 => ∃ l y3, σ = [some (.ref d), some (.ref na), some (.ref l), y3, none] ∧ Same H H4 ∧ H l = none ∧ Dp K (dl cs H4) (.ref l) (.list ((KtL.full (allOf fs (ns.take i))).map rwD)))
        ⟨l, y3, rfl, sH3, nl, by show Dp K _ _ (.list ((KtL.full (fs ++ [])).map rwD)); rw [List.append_nil]; exact dl3⟩ (fun i σ H4 _ p => ?_) (fun i v σ H4 ev p => ?_) fun σ H4 p => ?_
      · obtain ⟨_, _, _, s4, _⟩ := p
        exact s4.seq hna0
      · obtain ⟨l, y3, rfl, s4, nl, dl4⟩ := p
        obtain ⟨x, ex, rfl⟩ : ∃ x, ns[i]? = some x ∧ v = .str x := by
          rw [List.getElem?_map] at ev
          obtain ⟨x, e1, e2⟩ := Option.map_eq_some_iff.1 ev
          exact ⟨x, e1, e2.symm⟩
        have hi : i < ns.length := (List.getElem?_eq_some_iff.1 ex).1
        have ali : (allOf fs (ns.take i)).length = fs.length + i := by
          unfold allOf
          rw [List.length_append, List.length_map, List.length_take]
          omega
        have sub : ∀ p ∈ allOf fs (ns.take i), p ∈ allOf fs ns := fun p hp => by
          unfold allOf at hp ⊢
          rcases List.mem_append.1 hp with hp | hp
          · exact List.mem_append_left _ hp
          · obtain ⟨y, hy, rfl⟩ := List.mem_map.1 hp
            exact List.mem_append_right _ (List.mem_map.2 ⟨y, List.mem_of_mem_take hy, rfl⟩)
        have fl := fle _ sub (by omega)
        have eti : allOf fs (ns.take (i + 1)) = allOf fs (ns.take i) ++ [(x, 2)] := by
          unfold allOf
          rw [List.take_add_one, ex, List.map_append, List.append_assoc]
          rfl
        refine ⟨.ref l, rfl, .str x, rfl, cs, .ref l, KtL.full (allOf fs (ns.take i)), x, 2, (allOf fs (ns.take i)).length, rfl, nec.same s4, dl4, full_width _, by omega, by omega, by decide, fun l' H5 s5 nl' d' => ?_⟩
        refine ⟨l', some (.str x), rfl, s4.trans s5, s4.free nl', ?_⟩
        rw [eti, full_snoc]
        exact d'
      · obtain ⟨l, y3, rfl, s4, nl, dl4⟩ := p
        rw [List.length_map, List.take_length] at dl4
        obtain ⟨l', zs, el', hl, hz⟩ := dp_list dl4
        cases el'
        have zl : zs.length = (KtL.full (allOf fs ns)).length := by
          have := dps_len hz
          rw [List.length_map] at this
          exact this
        have c4 : (KtL.full (allOf fs ns)).length ≤ 24 := (cfg_of cfg_rows1 cfg).1
        have hl4 : SqL K H4 l zs := (dl_le _ _).seq hl
        refine ⟨.ref l, rfl, l, rfl, ⟨zs, hl4⟩, fun D nD => ?_⟩
        refine lc_list (xs := zs) (fun j H5 => Same H4 H5 ∧ ∃ acc, H5 D = some (.lst acc) ∧ RdsAt H5 acc ((KtL.full (allOf fs ns)).take j)) ⟨up_same nD, [], upd_same, rfl, fun i v e => by simp at e⟩ (fun j H5 _ p => p.1.seq hl4) (fun j v H5 ej p => ?_) fun H5 p => ?_
        · obtain ⟨s5, acc, eD, rd⟩ := p
          obtain ⟨r, er, dr⟩ := dps_map_at hz ej
          have dr5 : Dp K H5 v (.list (r.map cellD)) := dp_same ((dl_le _ _).trans s5) dr
          obtain ⟨b, ys, rfl, hb, g5⟩ := dp_list dr5
          obtain ⟨ps, rfl, hps⟩ := cells_of g5
          have rin : r ∈ KtL.full (allOf fs ns) := List.mem_of_getElem? er
          have mg : mergeK [] (rwV r) = rwV r := by
            rw [merge_new _ [] ?_]
            · rfl
            · rw [List.nil_append]
              have e : (rwV r).map (·.1) = (r.map (·.1)).map Sum.inr := by
                unfold rwV
                rw [List.map_map, List.map_map]
                rfl
              rw [e, full_keys rin]
              exact c2.map Sum.inr fun a b hne h => hne (Sum.inr.inj h)
          refine ⟨rfl, .ref b, rfl, b, ps, rwV r, rfl, hb, hps, fun o no => ?_⟩
          rw [mg]
          have oD : o ≠ D := fun z => by
            rw [z, eD] at no
            cases no
          have eD6 : (upd H5 o (.dK (rwV r))) D = some (.lst acc) := by
            rw [upd_ne oD.symm]
            exact eD
          have rd6 : RdsAt (upd H5 o (.dK (rwV r))) (acc ++ [.ref o]) ((KtL.full (allOf fs ns)).take (j + 1)) := by
            rw [List.take_add_one, er]
            exact (rd.same (up_same no)).snoc upd_same
          refine ⟨acc, eD6, ?_, ?_, acc ++ [.ref o], upd_same, rd6.upd eD6⟩
          · rw [rd.1, List.length_take]
            exact small1000 (by omega)
          · exact fun b x e => by
              rw [upd_ne (ne_of_none e nD)]
              exact (s5.trans (up_same no)) _ _ e
        · obtain ⟨s5, acc, eD, rd⟩ := p
          rw [zl, List.take_length] at rd
          exact q D acc H5 (s4.trans s5) (s4.free nD) eD rd
end
end Kt
/-! the law's full columns -/
namespace Kt
open PySem PySem.Spec PyProof.Rows L2
theorem scCols : FnScope ["_law_terms_here", "_law_kinds", "_law_levels", "_law_rows_here", "_law_found", "_law_term", "_law_numbers", "_law_factors", "_law_cells", "_law_name", "_law_cell", "_law_column", "_law_row", "_law_is_here", "_law_level", "_law_worth"] ["_law_terms_here", "_law_kinds", "_law_levels", "_law_rows_here"] (defScope (topS 47)) := ⟨rfl, rfl, rfl, by decide +kernel, rfl, by decide +kernel, by decide +kernel⟩
/-! ### plain -/
def tbOf (fs : List (Str × Nat)) (ns : List Str) : KtL.Tb Str := { names := (allOf fs ns).map (·.1), lv := fun x => (fs.lookup x).getD 2, fac := fun x => (fs.lookup x).isSome }
theorem cfg_all1 : ∀ c ∈ cfgs, (tbOf c.1 c.2).all (tbOf c.1 c.2).names = allOf c.1 c.2 := by decide +kernel
theorem cfg_lv1 : ∀ c ∈ cfgs, ∀ x ∈ (tbOf c.1 c.2).names, 2 ≤ (tbOf c.1 c.2).lv x ∧ (tbOf c.1 c.2).lv x ≤ 3 ∧ ((tbOf c.1 c.2).fac x = false → (tbOf c.1 c.2).lv x = 2) := by decide +kernel
theorem cfg_part1 : ∀ c ∈ cfgs, ∀ F ∈ partsOf (tbOf c.1 c.2).names, F.length ≤ 3 → (KtL.full ((tbOf c.1 c.2).all ((tbOf c.1 c.2).facs F))).length ≤ 12 ∧ ((KtL.full ((tbOf c.1 c.2).all ((tbOf c.1 c.2).facs F))).length ≤ 6 ∨ F = c.1.map (·.1)) := by decide +kernel
def KdOf (ks : List (Str × Str)) (fs : List (Str × Nat)) (ns : List Str) : Prop := ∀ x ∈ (tbOf fs ns).names, ks.lookup x = some (if (fs.lookup x).isSome = true then cF else cN)
theorem KdOf.has {ks : List (Str × Str)} {fs : List (Str × Nat)} {ns : List Str} (h : KdOf ks fs ns) : HasKd ks (tbOf fs ns).names := fun y hy => by
  rw [h y hy]
  rfl
theorem KdOf.nums {ks : List (Str × Str)} {fs : List (Str × Nat)} {ns : List Str} (h : KdOf ks fs ns) {t : List Str} (ht : t.Sublist (tbOf fs ns).names) : numsK ks t = (tbOf fs ns).nums t := by
  unfold numsK KtL.Tb.nums
  refine List.filter_congr fun y hy => ?_
  rw [h y (ht.subset hy)]
  show (some (if (fs.lookup y).isSome = true then cF else cN) == some cN) = !(fs.lookup y).isSome
  cases (fs.lookup y).isSome
  · decide +kernel
  · decide +kernel
theorem KdOf.facs {ks : List (Str × Str)} {fs : List (Str × Nat)} {ns : List Str} (h : KdOf ks fs ns) {t : List Str} (ht : t.Sublist (tbOf fs ns).names) : facsK ks t = (tbOf fs ns).facs t := by
  unfold facsK KtL.Tb.facs
  refine List.filter_congr fun y hy => ?_
  rw [h y (ht.subset hy)]
  show (some (if (fs.lookup y).isSome = true then cF else cN) == some cF) = (fs.lookup y).isSome
  cases (fs.lookup y).isSome
  · decide +kernel
  · decide +kernel
theorem cols_len {fs : List (Str × Nat)} {ns : List Str} (c : Cfg fs ns) : ∀ {ts : List (List Str)}, (∀ t ∈ ts, t.Sublist (tbOf fs ns).names ∧ t.length ≤ 3) → ts.Nodup →
    ((tbOf fs ns).cols ts).length ≤ 6 * ts.length + (if fs.map (·.1) ∈ ts then 6 else 0)
  | [], _, _ => Nat.zero_le _
  | t :: ts, h, nd => by
    obtain ⟨n1, n2⟩ := List.nodup_cons.1 nd
    have ih := cols_len c (ts := ts) (fun u hu => h u (List.mem_cons_of_mem _ hu)) n2
    have e : (tbOf fs ns).cols (t :: ts) = ((KtL.full ((tbOf fs ns).all ((tbOf fs ns).facs t))).map fun cell => (tbOf fs ns).col ((tbOf fs ns).nums t) cell) ++ (tbOf fs ns).cols ts := by
      unfold KtL.Tb.cols
      rw [List.flatMap_cons]
    rw [e, List.length_append, List.length_map, List.length_cons]
    obtain ⟨h1, h2⟩ := h t List.mem_cons_self
    obtain ⟨b1, b2⟩ := cfg_of cfg_part1 c t ((parts_mem _ _).2 h1) h2
    have b1 : (KtL.full ((tbOf fs ns).all ((tbOf fs ns).facs t))).length ≤ 12 := b1
    have b2 : (KtL.full ((tbOf fs ns).all ((tbOf fs ns).facs t))).length ≤ 6 ∨ t = fs.map (·.1) := b2
    rcases b2 with b2 | b2
    · have : (if fs.map (·.1) ∈ ts then 6 else 0) ≤ (if fs.map (·.1) ∈ t :: ts then 6 else 0) := by
        by_cases z : fs.map (·.1) ∈ ts
        · rw [if_pos z, if_pos (List.mem_cons_of_mem _ z)]
          exact Nat.le_refl _
        · rw [if_neg z]
          exact Nat.zero_le _
      omega
    · rw [if_pos (by rw [b2]; exact List.mem_cons_self)]
      rw [if_neg (by rw [← b2]; exact n1)] at ih
      omega
theorem lookup_get {r : Rw} {x : Str} (h : x ∈ r.map (·.1)) : r.lookup x = some (KtL.get r x) := by
  unfold KtL.get
  cases e : r.lookup x with
  | some v => rfl
  | none =>
    exfalso
    obtain ⟨p, hp, rfl⟩ := List.mem_map.1 h
    induction r with
    | nil => cases hp
    | cons q r ih =>
      rw [show (q :: r).lookup p.1 = (match p.1 == q.1 with | true => some q.2 | false => r.lookup p.1) from by obtain ⟨a, b⟩ := q; rfl] at e
      cases z : p.1 == q.1 with
      | true =>
        rw [z] at e
        cases e
      | false =>
        rw [z] at e
        rcases List.mem_cons.1 hp with hp | hp
        · rw [hp] at z
          simp at z
        · exact ih hp (List.mem_map.2 ⟨p, hp, rfl⟩) e
theorem kC_tup (r : List Int) : ∃ ks, kC r = .tup ks := ⟨_, rfl⟩
theorem alike_ints : ∀ a b : List Int, PySem.W.alikeAll (a.map PyData.int) (b.map PyData.int) = true
  | [], [] => by simp [PySem.W.alikeAll]
  | [], _ :: _ => by simp [PySem.W.alikeAll]
  | _ :: _, [] => by simp [PySem.W.alikeAll]
  | x :: a, y :: b => by simp [PySem.W.alikeAll, PySem.W.alike, alike_ints a b]
theorem depth_col (r : List Int) : (colD r).depth ≤ 5 := by
  have e : PyData.depthAll (r.map PyData.int) ≤ 1 := by
    induction r with
    | nil => decide
    | cons x r ih =>
      rw [List.map_cons]
      simp only [PyData.depthAll, PyData.depth]
      omega
  show (PyData.tuple (r.map PyData.int)).depth ≤ 5
  simp only [PyData.depth]
  omega
theorem srt_col {A : Around} (hu : A.units + 64 < cLine) (L : List (Addr × List Int)) (h : L.length ≤ 1000) (hne : ∀ p ∈ L, p.2 ≠ []) : Srt A (fun p : Addr × List Int => pk (kC p.2)) L := by
  refine ⟨fun d hd e he => ?_, .inl fun d hd => ?_, fun q _ => ?_, by rw [sizeLine_eq]; omega⟩
  · obtain ⟨x, _, rfl⟩ := List.mem_map.1 hd
    obtain ⟨y, _, rfl⟩ := List.mem_map.1 he
    simp only [pk_C]
    show PySem.W.alike (PyData.tuple _) (PyData.tuple _) = true
    simp only [PySem.W.alike]
    exact alike_ints _ _
  · obtain ⟨q, hq, rfl⟩ := List.mem_map.1 hd
    simp only [pk_C]
    obtain ⟨a, c⟩ := q
    match c, hne (a, c) hq with
    | x :: xs, _ => exact ⟨_, _, rfl⟩
  · simp only [pk_C]
    have := depth_col q.2
    omega
section
variable {P : Program} {w : World} {K : PySem.W.Frag} {mg : Str → Option Value} {base : Heap}
def spCols (K : PySem.W.Frag) : Sp := fun vs H Q _ => ∃ (cs : List Addr) (tv' kv : V) (d ra : Addr) (ts : List (List Str)) (ks : List (Str × Str)) (fs : List (Str × Nat)) (ns : List Str) (rxs : List V), vs = [tv', kv, .ref d, .ref ra] ∧ Ne cs H ∧ Dp K (dl cs H) tv' (.list (ts.map tm)) ∧ KdAt H kv ks ∧ H d = some (.dK (lvV fs)) ∧
  H ra = some (.lst rxs) ∧ RdsAt H rxs (KtL.full (allOf fs ns)) ∧ Cfg fs ns ∧ KdOf ks fs ns ∧ Drawn (tbOf fs ns).names ts ∧ ts.length ≤ 7 ∧
  ∀ (l : Addr) (L : List (List Int)) (H' : Hp), Same H H' → H l = none → Dp K (dl cs H') (.ref l) (.list (L.map colD)) → (∀ v, v ∈ L ↔ v ∈ (tbOf fs ns).cols ts) → L.length ≤ 1000 → Q (.ref l) H'
theorem ok_cols {f fP fL : Addr} {fd fdP fdL : FuncData} {k : Nat} (F : Fun K "_law_columns" "_law_columns" (topS 47) f fd) (M : Mg K mg)
    (GP : FnOk P w K mg base CX0 k fP fdP ["_law_term", "_law_kinds"] (spPair K)) (kP' : PySem.W.keepIn K (.ref fP) = true) (bP : Binds K fdP ["_law_term", "_law_kinds"] []) (gP : mg "_law_pair" = some (.ref fP))
    (GL : FnOk P w K mg base CX0 k fL fdL ["_law_rows_here", "_law_name", "_law_many"] (spLonger K)) (kL : PySem.W.keepIn K (.ref fL) = true) (bL : Binds K fdL ["_law_rows_here", "_law_name", "_law_many"] []) (gL : mg "_law_longer" = some (.ref fL)) :
    FnOk P w K mg base CX0 (k + 1) f fd ["_law_terms_here", "_law_kinds", "_law_levels", "_law_rows_here"] (spCols K) := by
  refine F.ok scCols (fun vs H Q E h => ?_) (fun cdv A outer s H vs Q E hr h => ?_)
  · obtain ⟨cs, tv', kv, d, ra, ts, ks, fs, ns, rxs, rfl, _⟩ := h
    rfl
  · obtain ⟨cs, tv', kv, d, ra, ts, ks, fs, ns, rxs, rfl, nec, htv, ⟨kd, rfl, hkd⟩, hd, hra, hrd, cfg, kdo, dr, t7, q⟩ := h
    obtain ⟨ta, txs, rfl, hta, htx⟩ := dp_list htv
    have hta0 : SqL K H ta txs := (dl_le _ _).seq hta
    have txl : txs.length = ts.length := by
      have := dps_len htx
      rw [List.length_map] at this
      exact this
    refine ⟨_, pss_cons (ps_set (i := 4) scCols.nd rfl (.inl rfl) (pe_lst pa_nil))
      (pss_cons (ps_for PassesOwn.never rfl (pi_list (pv 0)) (pg_name (i := 5) scCols.nd rfl (.inl rfl))
        (pss_cons (ps_asg (pe_call GP hr (by rfl) gP kP' bP .nil pass0 (pa_cons (pv 5) (pa_cons (pv 1) pa_nil))) (pg_tup rfl (pgs_cons (pg_name (i := 6) scCols.nd rfl (.inl rfl)) (pgs_cons (pg_name (i := 7) scCols.nd rfl (.inl rfl)) pgs_nil))))
        (pss_cons (ps_set (i := 8) scCols.nd rfl (.inl rfl) (pe_lst (pa_cons (pe_lst pa_nil) pa_nil)))
        (pss_cons (ps_for PassesOwn.never rfl (pi_tup (pv 7)) (pg_name (i := 9) scCols.nd rfl (.inl rfl))
          (pss_one (ps_set (i := 8) scCols.nd rfl (.inl rfl) (pe_call GL hr (by rfl) gL kL bL .nil pass0 (pa_cons (pv 8) (pa_cons (pv 9) (pa_cons (pe_dget (hu_of hr) (pv 2) (pv 9) (fun _ _ => rfl)) pa_nil)))))))
        (pss_one (ps_for PassesOwn.never rfl (pi_list (pv 8)) (pg_name (i := 10) scCols.nd rfl (.inl rfl))
          (pss_cons (ps_set (i := 11) scCols.nd rfl (.inl rfl) (pe_lst pa_nil))
          (pss_cons (ps_for PassesOwn.never rfl (pi_list (pv 3)) (pg_name (i := 12) scCols.nd rfl (.inr rfl))
            (pss_cons (ps_set (i := 13) scCols.nd rfl (.inl rfl) (pe_cmpR (op_eqD hr.units) (pe_lc (own := [("_law_name", 9), ("_law_level", 14)]) (g := gTup K 2 (gCons (gName 9) (gCons (gName 14) gNil))) (tt := tTest (tOp rNe (tDGet (tVar 12) (tVar 9)) (tVar 14))) (te := tC (.int 1)) rfl scCols.nd (pi_list (pv 10)) (blkOk_by (by kernel_rfl))
                (fun s H C cl fp => pg_tup rfl (pgs_cons (pg_name (i := 9) scCols.nd rfl (.inl rfl)) (pgs_cons (pg_name (i := 14) scCols.nd rfl (.inl rfl)) pgs_nil)))
                (fun s H C cl fp => pts_one (pt_cmpR op_ne (pe_dget (hu_of hr) (pv 12) (pv 9) (fun _ _ => rfl)) (pv 14) (nomark _))) (fun s H C cl fp => pe_int)) (pe_lst pa_nil) (nomark _)))
            (pss_cons (ps_set (i := 15) scCols.nd rfl (.inl rfl) (pe_callTy call_int1 (by rfl) M.int bt_int (pa_cons (pv 13) pa_nil)))
            (pss_cons (ps_for PassesOwn.never rfl (pi_tup (pv 6)) (pg_name (i := 9) scCols.nd rfl (.inl rfl))
              (pss_one (ps_set (i := 15) scCols.nd rfl (.inl rfl) (pe_op op_mul (pv 15) (pe_dget (hu_of hr) (pv 12) (pv 9) (fun _ _ => rfl))))))
            (pss_one (ps_expr (pe_bm PySem.F.plainAttrs_list PySem.F.slot_list_append PySem.F.type_list_append mt_append (pv 11) (pa_cons (pv 15) pa_nil))))))))
          (pss_one (ps_expr (pe_bm PySem.F.plainAttrs_list PySem.F.slot_list_append PySem.F.type_list_append mt_append (pv 4) (pa_cons (pe_callTy call_tuple_of (by rfl) M.tuple bt_tuple (pa_cons (pv 11) pa_nil)) pa_nil))))))))))))
      (pss_one (ps_ret (pe_callB (cr_sortedN (f := kC) rfl) (by rfl) M.sorted bt_sorted (pa_cons (pe_callTy (cr_setN (f := kC) (fun x y => kC_inj) (fun x => Nat.le_trans (kC_depth x) (by decide)) rfl hr.units) (by rfl) M.set bt_set (pa_cons (pv 4) pa_nil)) pa_nil))))), ?_⟩
    have tbn : (tbOf fs ns).names.Nodup := cfg_of cfg_nd1 cfg
    have c3 := cfg_of cfg_len1 cfg
    have lv3 : ∀ x ∈ (tbOf fs ns).names, 2 ≤ (tbOf fs ns).lv x ∧ (tbOf fs ns).lv x ≤ 3 ∧ ((tbOf fs ns).fac x = false → (tbOf fs ns).lv x = 2) := cfg_of cfg_lv1 cfg
    have rows24 : (KtL.full (allOf fs ns)).length ≤ 24 ∧ 1 ≤ (KtL.full (allOf fs ns)).length := cfg_of cfg_rows1 cfg
    have eall : (tbOf fs ns).all (tbOf fs ns).names = allOf fs ns := cfg_of cfg_all1 cfg
    have erows : (tbOf fs ns).rows = KtL.full (allOf fs ns) := by
      unfold KtL.Tb.rows
      rw [eall]
    have nd1 : (fs.map (·.1)).Nodup := by
      have h := tbn
      have h : ((allOf fs ns).map (·.1)).Nodup := h
      unfold allOf at h
      rw [List.map_append] at h
      exact (List.nodup_append.1 h).1
    have rxl := hrd.1
    refine ⟨Nat.zero_le _, fun fa nfa => ⟨.ref ta, rfl, ta, rfl, ⟨txs, (up_same nfa).seq hta0⟩, ?_⟩⟩
    have facs' : fa ∉ cs := nec.not nfa
    refine for_list (xs := txs) (fun i σ H2 => ∃ y5 y6 y7 y8 y9 y10 y11 y12 y13 y15 xs, σ = [some (.ref ta), some (.ref kd), some (.ref d), some (.ref ra), some (.ref fa), y5, y6, y7, y8, y9, y10, y11, y12, y13, none, y15] ∧ Same H H2 ∧ H2 fa = some (.lst xs) ∧ DpAll K (dl (fa :: cs) H2) xs (((tbOf fs ns).cols (ts.take i)).map colD))
      ⟨none, none, none, none, none, none, none, none, none, none, [], rfl, up_same nfa, upd_same, .nil⟩ (fun i σ H2 _ p => ?_) (fun i v σ H2 ev p => ?_) fun σ H2 p => ?_
    · obtain ⟨_, _, _, _, _, _, _, _, _, _, _, _, s2, _⟩ := p
      exact s2.seq hta0
    · obtain ⟨y5, y6, y7, y8, y9, y10, y11, y12, y13, y15, xs, rfl, s2, efa, g⟩ := p
      obtain ⟨t, et, dt⟩ := dps_map_at htx ev
      have tin := List.mem_of_getElem? et
      obtain ⟨tsub, t3⟩ := dr.tm t tin
      have nec2 : Ne (fa :: cs) H2 := (nec.same s2).cons efa
      have hi : i < ts.length := (List.getElem?_eq_some_iff.1 et).1
      have colsucc : (tbOf fs ns).cols (ts.take (i + 1)) = (tbOf fs ns).cols (ts.take i) ++ (KtL.full ((tbOf fs ns).all ((tbOf fs ns).facs t))).map fun cell => (tbOf fs ns).col ((tbOf fs ns).nums t) cell := by
        rw [List.take_add_one, et]
        unfold KtL.Tb.cols
        show List.flatMap _ (ts.take i ++ [t]) = _
        rw [List.flatMap_append, List.flatMap_cons, List.flatMap_nil, List.append_nil]
      refine ⟨v, rfl, .ref kd, rfl, fa :: cs, v, .ref kd, t, ks, rfl, nec2, dp_same (dl_out s2 nfa) dt, ⟨kd, rfl, s2 _ _ hkd⟩, fun y hy => kdo.has y (tsub.subset hy), by omega, fun H3 p s3 dp => ?_⟩
      rw [kdo.nums tsub, kdo.facs tsub] at dp
      obtain ⟨p', un, uf, ep, hp, dn, df⟩ := dp_pr dp
      cases ep
      obtain ⟨n, rfl, hn⟩ := dp_tm dn
      obtain ⟨m, rfl, hm⟩ := dp_tm df
      have hn : SqT K (dl (fa :: cs) H3) n (((tbOf fs ns).nums t).map V.str) := hn
      have hm : SqT K (dl (fa :: cs) H3) m (((tbOf fs ns).facs t).map V.str) := hm
      have numsub : ((tbOf fs ns).nums t).Sublist (tbOf fs ns).names := List.filter_sublist.trans tsub
      have facsub : ((tbOf fs ns).facs t).Sublist (tbOf fs ns).names := List.filter_sublist.trans tsub
      have nums3 : ((tbOf fs ns).nums t).length ≤ 3 := Nat.le_trans List.filter_sublist.length_le t3
      have facs3 : ((tbOf fs ns).facs t).length ≤ 3 := Nat.le_trans List.filter_sublist.length_le t3
      have facfac : ∀ x ∈ (tbOf fs ns).facs t, (fs.lookup x).isSome = true := fun x hx => (List.mem_filter.1 hx).2
      have numfac : ∀ x ∈ (tbOf fs ns).nums t, (tbOf fs ns).fac x = false := fun x hx => by
        have := (List.mem_filter.1 hx).2
        simpa using this
      generalize hnm : (tbOf fs ns).nums t = nm at hn numsub nums3 numfac colsucc
      generalize hfm : (tbOf fs ns).facs t = fm at hm facsub facs3 facfac colsucc
      refine ⟨p, [.ref n, .ref m], rfl, same_tup (dl_le _ _) hp, rfl, .ref n, [.ref m], rfl, .ref m, [], rfl, rfl, ?_⟩
      have nec3 : Ne (fa :: cs) H3 := nec2.same s3
      refine ⟨Nat.zero_le _, fun e ne => ⟨by show 1 ≤ sizeLine; decide, fun l nl => ?_⟩⟩
      have s4 : Same H3 (upd (upd H3 e (.lst [])) l (.lst [.ref e])) := (up_same ne).trans (up_same nl)
      have ee : (upd (upd H3 e (.lst [])) l (.lst [.ref e])) e = some (.lst []) := up_same nl _ _ upd_same
      have el : (upd (upd H3 e (.lst [])) l (.lst [.ref e])) l = some (.lst [.ref e]) := upd_same
      have nl3 : H3 l = none := (up_same ne).free nl
      generalize upd (upd H3 e (.lst [])) l (.lst [.ref e]) = H4 at s4 ee el ⊢
      have nec4 : Ne (fa :: cs) H4 := nec3.same s4
      have dl0 : Dp K (dl (fa :: cs) H4) (.ref l) (.list ((KtL.full ((tbOf fs ns).all (fm.take 0))).map rwD)) := .lst (.inl (.inl (dl_at el (nec3.not nl3) rfl))) (dps_one (.lst (.inl (.inl (dl_at ee (nec3.not ne) rfl))) .nil))
      have sH4 : Same H H4 := (s2.trans s3).trans s4
      have hm4 : SqT K H4 m (fm.map V.str) := same_tup s4 (same_tup (dl_le _ _) hm)
      refine ⟨.ref m, rfl, m, rfl, ⟨_, hm4⟩, ?_⟩
      refine for_tup (xs := fm.map V.str) (fun j σ H5 => ∃ l y9, σ = [some (.ref ta), some (.ref kd), some (.ref d), some (.ref ra), some (.ref fa), some v, some (.ref n), some (.ref m), some (.ref l), y9, y10, y11, y12, y13, none, y15] ∧ Same H4 H5 ∧ Dp K (dl (fa :: cs) H5) (.ref l) (.list ((KtL.full ((tbOf fs ns).all (fm.take j))).map rwD)))
        ⟨l, y9, rfl, Same.refl _, dl0⟩ (fun j σ H5 _ p => ?_) (fun j v5 σ H5 ej p => ?_) fun σ H5 p => ?_
      · obtain ⟨_, _, _, s5, _⟩ := p
        exact same_tup s5 hm4
      · obtain ⟨l, y9, rfl, s5, dl5⟩ := p
        obtain ⟨x, ex, rfl⟩ : ∃ x, fm[j]? = some x ∧ v5 = .str x := by
          rw [List.getElem?_map] at ej
          obtain ⟨x, e1, e2⟩ := Option.map_eq_some_iff.1 ej
          exact ⟨x, e1, e2.symm⟩
        have xin := List.mem_of_getElem? ex
        have sH5 : Same H H5 := sH4.trans s5
        obtain ⟨lx, elx⟩ := Option.isSome_iff_exists.1 (facfac x xin)
        have lvx : (tbOf fs ns).lv x = lx := by
          show (fs.lookup x).getD 2 = lx
          rw [elx]
          rfl
        have lx3 : lx ≤ 3 := by
          rw [← lvx]
          exact (lv3 x (facsub.subset xin)).2.1
        have allen : ((tbOf fs ns).all (fm.take j)).length ≤ 3 := by
          unfold KtL.Tb.all
          rw [List.length_map, List.length_take]
          omega
        have fl : (KtL.full ((tbOf fs ns).all (fm.take j))).length ≤ 27 := by
          refine Nat.le_trans (full_le _ fun p hp => ?_) (Nat.le_trans (Nat.pow_le_pow_right (by decide) allen) (by decide))
          obtain ⟨y, hy, rfl⟩ := List.mem_map.1 hp
          exact (lv3 y (facsub.subset (List.mem_of_mem_take hy))).2.1
        have eti : (tbOf fs ns).all (fm.take (j + 1)) = (tbOf fs ns).all (fm.take j) ++ [(x, lx)] := by
          unfold KtL.Tb.all
          rw [List.take_add_one, ex, List.map_append, ← lvx]
          rfl
        refine ⟨.ref l, rfl, .str x, rfl, .ref d, rfl, .str x, rfl, d, .int (lx : Int), rfl, .inl ⟨_, .inr x, .inl (sH5 _ _ hd), rfl, ?_⟩, fa :: cs, .ref l, KtL.full ((tbOf fs ns).all (fm.take j)), x, lx, ((tbOf fs ns).all (fm.take j)).length, rfl, nec4.same s5, dl5, full_width _, by omega, ?_, by omega, fun l' H6 s6 nl' d' => ?_⟩
        · rw [show lvV fs = fs.map fun p => ((.inr p.1 : Key), V.int (p.2 : Int)) from rfl, map_val (fun n : Nat => V.int (n : Int)), elx]
          rfl
        · exact Nat.le_trans (Nat.mul_le_mul lx3 fl) (by decide)
        · refine ⟨l', some (.str x), rfl, s5.trans s6, ?_⟩
          rw [eti, full_snoc]
          exact d'
      · obtain ⟨l, y9, rfl, s5, dl5⟩ := p
        rw [List.length_map, List.take_length] at dl5
        have sH5 : Same H H5 := sH4.trans s5
        have nec5 : Ne (fa :: cs) H5 := nec4.same s5
        have cells27 : (KtL.full ((tbOf fs ns).all fm)).length ≤ 27 := by
          refine Nat.le_trans (full_le _ fun p hp => ?_) (Nat.le_trans (Nat.pow_le_pow_right (by decide) (show ((tbOf fs ns).all fm).length ≤ 3 by unfold KtL.Tb.all; rw [List.length_map]; exact facs3)) (by decide))
          obtain ⟨y, hy, rfl⟩ := List.mem_map.1 hp
          exact (lv3 y (facsub.subset hy)).2.1
        have cellkeys : ∀ cell ∈ KtL.full ((tbOf fs ns).all fm), ∀ z ∈ cell, z.1 ∈ (tbOf fs ns).names := fun cell hc z hz => by
          have h1 : z.1 ∈ cell.map (·.1) := List.mem_map.2 ⟨z, hz, rfl⟩
          rw [full_keys hc, KtL.all_keys] at h1
          exact facsub.subset h1
        generalize hcells : KtL.full ((tbOf fs ns).all fm) = cells at dl5 colsucc cells27 cellkeys
        obtain ⟨z, zs, ez, hz, gz⟩ := dp_list dl5
        cases ez
        have zl : zs.length = cells.length := by
          have := dps_len gz
          rw [List.length_map] at this
          exact this
        have kpseq : ∀ {H6 : Hp} {a : Addr} {ys : List V}, Kp fa H5 H6 → SqL K (dl (fa :: cs) H5) a ys → SqL K H6 a ys := fun kp h => (dl_le _ _).seq ((kp.dl List.mem_cons_self).seq h)
        have efa5 : H5 fa = some (.lst xs) := (s3.trans (s4.trans s5)) _ _ efa
        have g5 : DpAll K (dl (fa :: cs) H5) xs (((tbOf fs ns).cols (ts.take i)).map colD) := dps_same (dl_same (s3.trans (s4.trans s5))) g
        have hn5 : SqT K (dl (fa :: cs) H5) n (nm.map V.str) := same_tup (dl_same (s4.trans s5)) hn
        refine ⟨.ref l, rfl, l, rfl, ⟨zs, kpseq (Kp.refl _ _) hz⟩, ?_⟩
        refine for_list (xs := zs) (fun j σ H6 => ∃ y9 y10 y11 y12 y13 y15 xs, σ = [some (.ref ta), some (.ref kd), some (.ref d), some (.ref ra), some (.ref fa), some v, some (.ref n), some (.ref m), some (.ref l), y9, y10, y11, y12, y13, none, y15] ∧ Kp fa H5 H6 ∧ H6 fa = some (.lst xs) ∧ DpAll K (dl (fa :: cs) H6) xs (((tbOf fs ns).cols (ts.take i) ++ (cells.take j).map fun cell => (tbOf fs ns).col nm cell).map colD))
          ⟨y9, y10, y11, y12, y13, y15, xs, rfl, Kp.refl _ _, efa5, by rw [List.take_zero, List.map_nil, List.append_nil]; exact g5⟩ (fun j σ H6 _ p => ?_) (fun j v6 σ H6 ej p => ?_) fun σ H6 p => ?_
        · obtain ⟨_, _, _, _, _, _, _, _, kp, _⟩ := p
          exact kpseq kp hz
        · obtain ⟨y9, y10, y11, y12, y13, y15, xs, rfl, kp6, efa6, g6⟩ := p
          obtain ⟨cell, ec, dc⟩ := dps_map_at gz ej
          have cin := List.mem_of_getElem? ec
          have jl : j < cells.length := (List.getElem?_eq_some_iff.1 ec).1
          obtain ⟨cb, cys, rfl, hcb, gcb⟩ := dp_list (ds := cell.map cellD) dc
          have sH6 : Same H H6 := fun b x e => kp6 _ _ (ne_of_none e nfa) (sH5 _ _ e)
          have nec6 : Ne (fa :: cs) H6 := nec5.kp kp6 efa6 rfl
          have cyl : cys.length = cell.length := by
            have := dps_len gcb
            rw [List.length_map] at this
            exact this
          have cell3 : cell.length ≤ 3 := by
            rw [full_width _ cell (by rw [hcells]; exact cin)]
            unfold KtL.Tb.all
            rw [List.length_map]
            exact facs3
          -- the column
          refine ⟨Nat.zero_le _, fun ca nca => ?_⟩
          have caf : ca ∉ fa :: cs := nec6.not nca
          refine ⟨.ref ra, rfl, ra, rfl, ⟨rxs, .inl (.inl ((up_same nca) _ _ (sH6 _ _ hra)))⟩, ?_⟩
          refine for_list (xs := rxs) (fun k σ H8 => ∃ y9 y12 y13 y15, σ = [some (.ref ta), some (.ref kd), some (.ref d), some (.ref ra), some (.ref fa), some v, some (.ref n), some (.ref m), some (.ref l), y9, some (.ref cb), some (.ref ca), y12, y13, none, y15] ∧ Same H6 H8 ∧ H8 ca = some (.lst ((((KtL.full (allOf fs ns)).take k).map (KtL.colv nm cell)).map V.int)))
            ⟨y9, y12, y13, y15, rfl, up_same nca, upd_same⟩ (fun k σ H8 _ p => ?_) (fun k v8 σ H8 ek p => ?_) fun σ H8 p => ?_
          · obtain ⟨_, _, _, _, _, s8, _⟩ := p
            exact .inl (.inl (s8 _ _ (sH6 _ _ hra)))
          · obtain ⟨y9, y12, y13, y15, rfl, s8, eca⟩ := p
            obtain ⟨r, rd, er, rfl, hrd0⟩ := hrd.2 k v8 ek
            have rin := List.mem_of_getElem? er
            have sH8 : Same H H8 := sH6.trans s8
            have rkeys : r.map (·.1) = (tbOf fs ns).names := full_keys rin
            have val : ∀ x ∈ (tbOf fs ns).names, valV (rwV r) (.inr x) = some (.int (KtL.get r x)) := fun x hx => by
              rw [show rwV r = r.map fun p => ((.inr p.1 : Key), V.int p.2) from rfl, map_val V.int, lookup_get (by rw [rkeys]; exact hx)]
              rfl
            have hcb8 : SqL K H8 cb cys := s8.seq (kpseq kp6 hcb)
            have gcb8 : DpAll K H8 cys (cell.map cellD) := dps_same ((kp6.dl List.mem_cons_self).trans ((dl_le _ _).trans s8)) gcb
            refine ⟨.ref cb, rfl, cb, rfl, ⟨cys, hcb8⟩, fun D nD => ?_⟩
            refine lc_list (xs := cys) (PvC [] K H8 D fun q => ((cell.take q).filter fun z => !decide (KtL.get r z.1 = z.2)).map fun _ => PyData.int 1) (pv0 nD rfl) (fun q H9 _ p => p.seq hcb8) (fun q v9 H9 eq p => ?_) fun H9 p => ?_
            · obtain ⟨zz, ezz, dzz⟩ := dps_map_at gcb8 eq
              obtain ⟨a9, x9, rfl, ha9, g9⟩ := dp_tup dzz
              cases g9 with
              | cons h1 g9 =>
              cases h1
              cases g9 with
              | cons h2 g9 =>
              cases h2
              cases g9
              refine ⟨a9, [.str zz.1, .int zz.2], rfl, same_tup p.1 ha9, rfl, .str zz.1, [.int zz.2], rfl, .int zz.2, [], rfl, rfl, rfl, .ref rd, rfl, .str zz.1, rfl, rd, .int (KtL.get r zz.1), rfl, .inl ⟨_, .inr zz.1, .inl (p.1 _ _ (sH8 _ _ hrd0)), rfl, (val _ (cellkeys cell cin zz (List.mem_of_getElem? ezz))).symm⟩, .int zz.2, rfl, rfl, _, rfl, ite2 (fun e => ?_) fun e => ?_⟩
              · have hne : ¬ KtL.get r zz.1 = zz.2 := fun h => by
                  rw [h] at e
                  revert e
                  show (!decide (V.int zz.2 = V.int zz.2)) = true → False
                  rw [decide_eq_true rfl]
                  exact fun h => by cases h
                refine p.put nD (Same.refl _) (.int 1) (take_filter_yes (f := fun _ => PyData.int 1) ezz (by rw [decide_eq_false hne]; rfl)) ?_
                rw [List.length_map]
                refine Nat.lt_of_le_of_lt (List.length_filter_le _ _) (small1000 ?_)
                rw [List.length_take]
                omega
              · have heq : KtL.get r zz.1 = zz.2 := by
                  by_cases h : KtL.get r zz.1 = zz.2
                  · exact h
                  · exact absurd (by show (!decide (V.int (KtL.get r zz.1) = V.int zz.2)) = true; rw [decide_eq_false (fun h' => h (V.int.inj h'))]; rfl) e
                exact p.skip (Same.refl _) (take_filter_no (f := fun _ => PyData.int 1) ezz (by rw [decide_eq_true heq]; rfl))
            · obtain ⟨s9, acc, eD, gD⟩ := p
              rw [cyl] at gD
              have gD : DpAll K (dl [D] H9) acc (((cell.take cell.length).filter fun z => !decide (KtL.get r z.1 = z.2)).map fun _ => PyData.int 1) := gD
              rw [List.take_length] at gD
              have gD' : DpAll K (dl [D] H9) acc (((cell.filter fun z => !decide (KtL.get r z.1 = z.2)).map fun _ => (1 : Int)).map PyData.int) := by
                rw [List.map_map]
                exact gD
              have hone : ((cell.filter fun z => !decide (KtL.get r z.1 = z.2)).map fun _ => (1 : Int)) = [] ↔ KtL.here cell r = true := by
                unfold KtL.here
                rw [List.map_eq_nil_iff, List.filter_eq_nil_iff, List.all_eq_true]
                refine forall_congr' fun z => forall_congr' fun _ => ?_
                cases decide (KtL.get r z.1 = z.2) <;> simp
              generalize ((cell.filter fun z => !decide (KtL.get r z.1 = z.2)).map fun _ => (1 : Int)) = ones at gD' hone
              refine ⟨Nat.zero_le _, fun e2 ne2 => ?_⟩
              have s10 := up_same (o := .lst []) ne2
              have ee2 : upd H9 e2 (.lst []) e2 = some (.lst []) := upd_same
              generalize upd H9 e2 (.lst []) = H10 at s10 ee2 ⊢
              refine ⟨.list (ones.map PyData.int), .list (([] : List Int).map PyData.int), .lst (.inl (.inl (s10 _ _ eD))) (dps_same ((dl_le _ _).trans s10) gD'), .lst (.inl (.inl ee2)) .nil, shaped_list (fun a _ => rfl) dep1, shaped_list (fun a ha => (by cases ha)) dep1, ?_⟩
              have ehere : PyData.eqv (.list (ones.map PyData.int)) (.list (([] : List Int).map PyData.int)) = KtL.here cell r := by
                rw [Bool.eq_iff_iff]
                exact (eqv_list eqv_int ones []).trans hone
              rw [ehere]
              have s810 : Same H8 H10 := s9.trans s10
              refine ⟨.bl (KtL.here cell r), rfl, .inr ⟨KtL.here cell r, rfl, ?_⟩⟩
              have hn10 : SqT K H10 n (nm.map V.str) := same_tup ((kp6.dl (cs := fa :: cs) List.mem_cons_self).trans ((dl_le _ _).trans (s8.trans s810))) hn5
              refine ⟨.ref n, rfl, n, rfl, ⟨_, hn10⟩, ?_⟩
              refine for_tup (xs := nm.map V.str) (fun q σ H11 => ∃ y9, σ = [some (.ref ta), some (.ref kd), some (.ref d), some (.ref ra), some (.ref fa), some v, some (.ref n), some (.ref m), some (.ref l), y9, some (.ref cb), some (.ref ca), some (.ref rd), some (.bl (KtL.here cell r)), none, some (.int ((if KtL.here cell r = true then 1 else 0) * KtL.pr (nm.take q) fun x => KtL.get r x))] ∧ H11 = H10)
                ⟨y9, by rw [List.take_zero]; show _ = [_, _, _, _, _, _, _, _, _, _, _, _, _, _, _, some (V.int (_ * 1))]; rw [Int.mul_one]; rfl, rfl⟩ (fun q σ H11 _ p => ?_) (fun q v11 σ H11 eq p => ?_) fun σ H11 p => ?_
              · obtain ⟨_, _, rfl⟩ := p
                exact hn10
              · obtain ⟨y9, rfl, rfl⟩ := p
                obtain ⟨x, ex, rfl⟩ : ∃ x, nm[q]? = some x ∧ v11 = .str x := by
                  rw [List.getElem?_map] at eq
                  obtain ⟨x, e1, e2⟩ := Option.map_eq_some_iff.1 eq
                  exact ⟨x, e1, e2.symm⟩
                have xin := numsub.subset (List.mem_of_getElem? ex)
                obtain ⟨lx, hlx, egl⟩ := KtL.rows_get (t := tbOf fs ns) ⟨tbn, fun y hy => (lv3 y hy).1⟩ (r := r) (by rw [erows]; exact rin) xin
                have l3 := (lv3 x xin).2.1
                refine ⟨_, rfl, .ref rd, rfl, .str x, rfl, rd, .int (KtL.get r x), rfl, .inl ⟨_, .inr x, .inl (s810 _ _ (sH8 _ _ hrd0)), rfl, (val x xin).symm⟩, _, _, rfl, rfl, .inr ⟨by omega, by omega⟩, ?_⟩
                refine ⟨some (.str x), ?_, rfl⟩
                rw [List.take_add_one, ex]
                show [_, _, _, _, _, _, _, _, _, _, _, _, _, _, _, some (V.int _)] = [_, _, _, _, _, _, _, _, _, _, _, _, _, _, _, some (V.int (_ * KtL.pr (nm.take q ++ [x]) _))]
                rw [KtL.pr_app, ← Int.mul_assoc]
                show _ = [_, _, _, _, _, _, _, _, _, _, _, _, _, _, _, some (V.int (_ * (KtL.get r x * 1)))]
                rw [Int.mul_one]
              · obtain ⟨y9, rfl, rfl⟩ := p
                rw [List.length_map, List.take_length]
                have eca10 := s810 _ _ eca
                refine ⟨.ref ca, rfl, .inl ⟨rfl, _, .inl (.inl eca10)⟩, _, rfl, ca, _, _, rfl, rfl, eca10, ?_, ?_⟩
                · rw [List.length_map, List.length_map, List.length_take]
                  exact small1000 (by omega)
                · refine ⟨y9, _, _, _, rfl, fun b x e => ?_, ?_⟩
                  · rw [upd_ne (ne_of_none e nca)]
                    exact (s8.trans s810) _ _ e
                  · rw [upd_same, List.take_add_one, er, List.map_append, List.map_append]
                    rfl
          · obtain ⟨y9, y12, y13, y15, rfl, s8, eca⟩ := p
            rw [rxl, List.take_length] at eca
            have efa8 : H8 fa = some (.lst xs) := s8 _ _ efa6
            refine ⟨.ref fa, rfl, .inl ⟨rfl, _, .inl (.inl efa8)⟩, .ref ca, rfl, ca, _, rfl, .inl ⟨.inl (.inl eca), fun tc ntc => ?_⟩⟩
            have s9 := up_same (o := .tup (((KtL.full (allOf fs ns)).map (KtL.colv nm cell)).map V.int)) ntc
            have etc : upd H8 tc (.tup (((KtL.full (allOf fs ns)).map (KtL.colv nm cell)).map V.int)) tc = some (.tup (((KtL.full (allOf fs ns)).map (KtL.colv nm cell)).map V.int)) := upd_same
            have tcf : tc ∉ fa :: cs := (nec6.same s8).not ntc
            generalize upd H8 tc (.tup (((KtL.full (allOf fs ns)).map (KtL.colv nm cell)).map V.int)) = H9 at s9 etc ⊢
            have efa9 := s9 _ _ efa8
            have xl : xs.length ≤ 1000 := by
              have h1 := dps_len g6
              rw [List.length_map, List.length_append, List.length_map, List.length_take] at h1
              have h2 := cols_len cfg (ts := ts.take i) (fun u hu => dr.tm u (List.mem_of_mem_take hu)) (dr.nd.sublist (List.take_sublist _ _))
              have h3 : (if fs.map (·.1) ∈ ts.take i then 6 else 0) ≤ 6 := by split <;> omega
              rw [List.length_take] at h2
              omega
            refine ⟨fa, xs, _, rfl, rfl, efa9, small1000 xl, ?_⟩
            refine ⟨_, _, _, _, _, _, xs ++ [.ref tc], rfl, fun b x hb e => ?_, upd_same, ?_⟩
            · rw [upd_ne hb]
              exact (s8.trans s9) _ _ (kp6 _ _ hb e)
            · rw [dl_in List.mem_cons_self, List.take_add_one, ec]
              show DpAll K _ _ (List.map colD (_ ++ List.map _ (cells.take j ++ [cell])))
              rw [List.map_append (l₁ := cells.take j), ← List.append_assoc, List.map_append]
              refine dps_snoc (dps_same (dl_same (s8.trans s9)) g6) ?_
              show Dp K _ _ (PyData.tuple (((tbOf fs ns).rows.map (KtL.colv nm cell)).map .int))
              rw [erows]
              exact .tup (.inl (.inl (dl_at etc tcf rfl))) (dps_ints K _ _)
        · obtain ⟨y9, y10, y11, y12, y13, y15, xs, rfl, kp6, efa6, g6⟩ := p
          rw [zl, List.take_length, ← colsucc] at g6
          exact ⟨_, _, _, _, _, _, _, _, _, _, xs, rfl, fun b x e => kp6 _ _ (ne_of_none e nfa) (sH5 _ _ e), efa6, g6⟩
    · obtain ⟨y5, y6, y7, y8, y9, y10, y11, y12, y13, y15, xs, rfl, s2, efa, g⟩ := p
      rw [txl, List.take_length] at g
      have g' : DpAll K (dl (fa :: cs) H2) xs (((tbOf fs ns).cols ts).map fun q => pk (kC q)) := by
        have e : (((tbOf fs ns).cols ts).map fun q => pk (kC q)) = ((tbOf fs ns).cols ts).map colD := List.map_congr_left fun q _ => pk_C q
        rw [e]
        exact g
      obtain ⟨LT, rfl, eLT, itLT⟩ := items_of kC_tup g'
      have few : LT.length < 64 := by
        have h1 := congrArg List.length eLT
        rw [List.length_map] at h1
        have h2 := cols_len cfg (ts := ts) dr.tm dr.nd
        have h3 : (if fs.map (·.1) ∈ ts then 6 else 0) ≤ 6 := by split <;> omega
        omega
      refine ⟨.ref fa, rfl, fa, LT, rfl, .inl (.inl efa), itLT.same (dl_le _ _), few, fun b L nb sub all nd => ?_⟩
      have itL : ItAt K (dl cs H2) kC L := fun p hp => dp_same dl_less (itLT p (sub p hp))
      have Lfew : L.length ≤ 1000 := by
        have hs : (L.map (·.2)).length ≤ (LT.map (·.2)).length := by
          refine (List.Nodup.length_le_of_subset nd ?_)
          intro x hx
          obtain ⟨p, hp, rfl⟩ := List.mem_map.1 hx
          exact List.mem_map.2 ⟨p, sub p hp, rfl⟩
        rw [List.length_map, List.length_map] at hs
        omega
      have inc : ∀ x, x ∈ L.map (·.2) ↔ x ∈ (tbOf fs ns).cols ts := fun x => by
        rw [← eLT]
        constructor
        · intro hx
          obtain ⟨p, hp, rfl⟩ := List.mem_map.1 hx
          exact List.mem_map.2 ⟨p, sub p hp, rfl⟩
        · intro hx
          obtain ⟨p, hp, rfl⟩ := List.mem_map.1 hx
          exact all p hp
      have Lne : ∀ p ∈ L, p.2 ≠ [] := fun p hp e => by
        have h1 := (inc p.2).1 (List.mem_map.2 ⟨p, hp, rfl⟩)
        obtain ⟨t, _, h2⟩ := List.mem_flatMap.1 h1
        obtain ⟨cell, _, h3⟩ := List.mem_map.1 h2
        have h4 := congrArg List.length h3
        have h5 : ((tbOf fs ns).col ((tbOf fs ns).nums t) cell).length = (KtL.full (allOf fs ns)).length := by
          unfold KtL.Tb.col
          rw [List.length_map, erows]
        rw [h5, e, List.length_nil] at h4
        omega
      refine ⟨b, L, rfl, upd_same, (itL.same (dl_le _ _)).same (up_same nb), srt_col hr.units L Lfew Lne, fun L1 c p1 nc => ?_⟩
      have s3 : Same H2 (upd (upd H2 b (NSO P w b (asN kC L))) c (.lst ((srt (fun p : Addr × List Int => pk (kC p.2)) L1).map fun p => V.ref p.1))) := (up_same nb).trans (up_same nc)
      generalize hLS : srt (fun p : Addr × List Int => pk (kC p.2)) L1 = LS at s3
      have ec : (upd (upd H2 b (NSO P w b (asN kC L))) c (.lst (LS.map fun p => V.ref p.1))) c = some (.lst (LS.map fun p => V.ref p.1)) := upd_same
      have inL : ∀ p, p ∈ LS ↔ p ∈ L := fun p => by
        rw [← hLS, srt_mem]
        exact p1.mem_iff
      have itLS : ItAt K (dl cs (upd (upd H2 b (NSO P w b (asN kC L))) c (.lst (LS.map fun p => V.ref p.1)))) kC LS := fun p hp => dp_same (dl_same s3) (itL p ((inL p).1 hp))
      have ncH : H2 c = none := (up_same nb).free nc
      refine q c (LS.map (·.2)) _ (s2.trans s3) (s2.free ncH) (.lst (.inl (.inl (dl_at ec ((nec.same s2).not ncH) rfl))) ?_) (fun v => ?_) (by rw [List.length_map, ← hLS, (srt_perm_self _ L1).length_eq, p1.length_eq]; exact Lfew)
      · have z := itLS.dps
        have e : (LS.map fun p => pk (kC p.2)) = (LS.map (·.2)).map colD := by
          rw [List.map_map]
          exact List.map_congr_left fun p _ => pk_C p.2
        rw [e] at z
        exact z
      · rw [← inc v]
        constructor
        · intro hv
          obtain ⟨p, hp, rfl⟩ := List.mem_map.1 hv
          exact List.mem_map.2 ⟨p, (inL p).1 hp, rfl⟩
        · intro hv
          obtain ⟨p, hp, rfl⟩ := List.mem_map.1 hv
          exact List.mem_map.2 ⟨p, (inL p).2 hp, rfl⟩
end
end Kt
/-! one draw of the law -/
namespace Kt
open PySem PySem.Spec PyProof.Rows L2
theorem scRight : FnScope ["_law_pot_here", "_law_levels", "_law_many", "_law_numbers", "_law_name", "_law_names", "_law_kinds", "_law_one", "_law_other_here", "_law_first", "_law_second", "_law_rows_here", "_law_here", "_law_there", "_law_left", "_law_right_here", "_law_is_one", "_law_row", "_law_part"] ["_law_pot_here"] (defScope (topS 50)) := ⟨rfl, rfl, rfl, by decide +kernel, rfl, by decide +kernel, by decide +kernel⟩
/-! ### plain facts of a draw -/
theorem cut_take {ys : List V} {j : Int} (j0 : 0 ≤ j) : cutV ys none (some j) = ys.take j.toNat := by
  unfold cutV
  rw [HT.sIx_none]
  have e : j = ((j.toNat : Nat) : Int) := by omega
  rw [e, show HT.sIx ys.length ys.length (some ((j.toNat : Nat) : Int)) = min j.toNat ys.length from HT.sIx_nat _ _ _, List.drop_zero, Nat.sub_zero, Int.toNat_natCast]
  by_cases hjl : j.toNat ≤ ys.length
  · rw [Nat.min_eq_left hjl]
  · rw [Nat.min_eq_right (by omega), List.take_of_length_le (Nat.le_refl _), List.take_of_length_le (by omega)]
def nm3 : List Str := ["a", "b", "c"]
def nm2 : List Str := ["u", "x"]
def stages : List (Nat × List (Str × Nat) × Nat) := [(0, [], 1), (1, [("a", 2)], 2), (1, [("a", 3)], 3), (2, [("a", 2), ("b", 2)], 4), (2, [("a", 2), ("b", 3)], 6), (2, [("a", 3), ("b", 2)], 6), (3, [("a", 2), ("b", 2), ("c", 2)], 8), (3, [("a", 2), ("b", 3), ("c", 2)], 12), (3, [("a", 3), ("b", 2), ("c", 2)], 12)]
theorem stage2 : ∀ s ∈ stages, ∀ x ∈ nm3, nm3[s.1]? = some x → (s.1 + 1, s.2.1 ++ [(x, 2)], s.2.2 * 2) ∈ stages := by decide +kernel
theorem stage3 : ∀ s ∈ stages, ∀ x ∈ nm3, nm3[s.1]? = some x → s.2.2 ≤ 2 → (s.1 + 1, s.2.1 ++ [(x, 3)], s.2.2 * 3) ∈ stages := by decide +kernel
theorem stageN : ∀ s ∈ stages, ∀ x ∈ nm3, nm3[s.1]? = some x → x ∉ s.2.1.map (·.1) := by decide +kernel
theorem stageB : ∀ s ∈ stages, s.2.2 ≤ 12 ∧ s.2.1.length ≤ 3 := by decide +kernel
theorem stageC : ∀ s ∈ stages, 1 ≤ s.1 → ∀ ns ∈ ([[], ["u"], ["u", "x"]] : List (List Str)), (s.2.1, if 24 < s.2.2 * 4 then ns.take 1 else ns) ∈ cfgs := by decide +kernel
theorem take_nm2 : ∀ j : Nat, nm2.take j ∈ ([[], ["u"], ["u", "x"]] : List (List Str))
  | 0 => by decide +kernel
  | 1 => by decide +kernel
  | j + 2 => by
    rw [List.take_of_length_le (show nm2.length ≤ j + 2 from by show 2 ≤ j + 2; omega)]
    decide +kernel
theorem put_new {kvs : List (Key × V)} {k : Key} {v : V} (h : k ∉ kvs.map (·.1)) : putK kvs k v = kvs ++ [(k, v)] := by
  unfold putK
  refine if_neg fun z => ?_
  obtain ⟨q, hq, e⟩ := List.any_eq_true.1 z
  exact h (List.mem_map.2 ⟨q, hq, of_decide_eq_true e⟩)
theorem lvV_keys (fs : List (Str × Nat)) : (lvV fs).map (·.1) = (fs.map (·.1)).map Sum.inr := by
  unfold lvV
  rw [List.map_map, List.map_map]
  rfl
theorem lvV_put {fs : List (Str × Nat)} {x : Str} {m : Nat} (h : x ∉ fs.map (·.1)) : putK (lvV fs) (.inr x) (.int (m : Int)) = lvV (fs ++ [(x, m)]) := by
  rw [put_new]
  · unfold lvV
    rw [List.map_append]
    rfl
  · rw [lvV_keys]
    intro z
    obtain ⟨y, hy, e⟩ := List.mem_map.1 z
    cases e
    exact h hy
theorem lvV_val (fs : List (Str × Nat)) (x : Str) : valV (lvV fs) (.inr x) = (fs.lookup x).map fun n : Nat => V.int (n : Int) := map_val (fun n : Nat => V.int (n : Int)) x fs
theorem lookup_app {β : Type} {x : Str} {m : β} : ∀ {l : List (Str × β)}, x ∉ l.map (·.1) → (l ++ [(x, m)]).lookup x = some m
  | [], _ => by simp [List.lookup]
  | (y, n) :: l, h => by
    have hne : (x == y) = false := beq_eq_false_iff_ne.2 fun z => h (List.mem_map.2 ⟨(y, n), List.mem_cons_self, z.symm⟩)
    rw [List.cons_append, List.lookup_cons, hne]
    exact lookup_app fun z => h (by rw [List.map_cons]; exact List.mem_cons_of_mem _ z)
/-- the kinds of a draw -/
def zz : Str := "zz"
def kdX (fs : List (Str × Nat)) (x : Str) : Str := if (fs.lookup x).isSome = true then cF else cN
def ksOf (fs : List (Str × Nat)) (ns : List Str) : List (Str × Str) := ((tbOf fs ns).names ++ [zz]).map fun x => (x, kdX fs x)
theorem cfg_zz1 : ∀ c ∈ cfgs, ((tbOf c.1 c.2).names ++ [zz]).Nodup := by decide +kernel
theorem cfg_U1 : ∀ c ∈ cfgs, ∀ x ∈ (tbOf c.1 c.2).names, x ∈ cU := by decide +kernel
def cY : Str := "y"
theorem ok_all : ∀ x ∈ cU ++ [zz] ++ [cY], OkN x := fun x hx => by
  have h1 : ∀ x ∈ cU ++ [zz] ++ [cY], 1 ≤ x.length ∧ x.length ≤ 8 := by decide +kernel
  have h2 : ∀ x ∈ cU ++ [zz] ++ [cY], ∀ c ∈ x.cps.toList, c ∈ cLet.cps.toList := by decide +kernel
  have h3 : ∀ x ∈ cU ++ [zz] ++ [cY], x ∉ cRes := by decide +kernel
  have h4 : ∀ x ∈ cU ++ [zz] ++ [cY], PyData.strOk x = true := by decide +kernel
  exact ⟨h1 x hx, h2 x hx, h3 x hx, h4 x hx⟩
theorem ks_keys (fs : List (Str × Nat)) (ns : List Str) : (ksOf fs ns).map (·.1) = (tbOf fs ns).names ++ [zz] := by
  unfold ksOf
  rw [List.map_map]
  exact List.map_id _
theorem ks_of {fs : List (Str × Nat)} {ns : List Str} (c : Cfg fs ns) : KdOf (ksOf fs ns) fs ns := fun x hx =>
  lookup_mem (by rw [ks_keys]; exact cfg_of cfg_zz1 c) (List.mem_map.2 ⟨x, List.mem_append_left _ hx, rfl⟩)
theorem names_len {fs : List (Str × Nat)} {ns : List Str} (c : Cfg fs ns) : (tbOf fs ns).names.length ≤ 5 := by
  show ((allOf fs ns).map (·.1)).length ≤ 5
  rw [List.length_map]
  exact (cfg_of cfg_len1 c).1
theorem ks_ok {fs : List (Str × Nat)} {ns : List Str} (c : Cfg fs ns) : OkKd (ksOf fs ns) := by
  refine ⟨fun p hp => ?_, fun p hp => ?_, ?_⟩
  · obtain ⟨x, hx, rfl⟩ := List.mem_map.1 hp
    refine ok_all x (List.mem_append_left _ ?_)
    rcases List.mem_append.1 hx with hx | hx
    · exact List.mem_append_left _ (cfg_of cfg_U1 c x hx)
    · exact List.mem_append_right _ hx
  · obtain ⟨x, hx, rfl⟩ := List.mem_map.1 hp
    show kdX fs x = cF ∨ kdX fs x = cN
    unfold kdX
    split
    · exact .inl rfl
    · exact .inr rfl
  · unfold ksOf
    rw [List.length_map, List.length_append, List.length_singleton]
    have := names_len c
    omega
theorem names_cU {fs : List (Str × Nat)} {ns : List Str} (c : Cfg fs ns) : (tbOf fs ns).names.Sublist cU := List.isSublist_iff_sublist.1 (cfg_of cfg_cU1 c)
theorem cU_lt : cU.Pairwise ltS := by
  show cU.Pairwise fun a b => a.cps.toList < b.cps.toList
  decide +kernel
theorem drawn_ok {fs : List (Str × Nat)} {ns : List Str} (c : Cfg fs ns) {ts : List (List Str)} (d : Drawn (tbOf fs ns).names ts) (h : ts.length ≤ 100) : OkTs ts :=
  ⟨fun t ht => ⟨fun x hx => ok_all x (List.mem_append_left _ (List.mem_append_left _ ((names_cU c).subset ((d.tm t ht).1.subset hx)))), cU_lt.sublist ((d.tm t ht).1.trans (names_cU c)), by have := (d.tm t ht).2; omega⟩, d.nd, h⟩
theorem drawn_few {fs : List (Str × Nat)} {ns : List Str} (c : Cfg fs ns) {ts : List (List Str)} (d : Drawn (tbOf fs ns).names ts) : FewN ts := fun zs nd h => by
  have z := nodup_len (m := (tbOf fs ns).names) nd fun y hy => by
    obtain ⟨t, ht, hy⟩ := h y hy
    exact (d.tm t ht).1.subset hy
  have := names_len c
  omega
theorem drawn_sm {fs : List (Str × Nat)} {ns : List Str} (c : Cfg fs ns) {ts : List (List Str)} (d : Drawn (tbOf fs ns).names ts) (h : ts.length ≤ 100) : SmTs (ksOf fs ns) ts :=
  ⟨fun t ht => ⟨fun y hy => (ks_of c).has y ((d.tm t ht).1.subset hy), (d.tm t ht).2⟩, fun t ht => ((drawn_ok c d h).tm t ht).nm, h⟩
theorem kds_of {K : PySem.W.Frag} {H : Hp} {g : Str → Str} : ∀ {L : List Str} {ys : List V}, DpAll K H ys (L.map fun x => .tuple [.str x, .str (g x)]) → ∃ ps : List Addr, ys = ps.map V.ref ∧ Paired (fun p kv => SqT K H p [kV kv.1, kv.2]) ps (L.map fun x => ((.inr x : Key), V.str (g x)))
  | [], ys, h => by
    cases h
    exact ⟨[], rfl, .nil⟩
  | q :: r, ys, h => by
    cases h with
    | cons g1 g2 =>
      obtain ⟨ps, rfl, hp⟩ := kds_of g2
      obtain ⟨a, xs, rfl, ha, g3⟩ := dp_tup g1
      cases g3 with
      | cons h1 g3 =>
      cases h1
      cases g3 with
      | cons h2 g3 =>
      cases h2
      cases g3
      exact ⟨a :: ps, rfl, .cons ha hp⟩
/-! ### shadows and columns, plain -/
theorem inSh_perm {ks : List (Str × Str)} {ts ts' : List (List Str)} (p : ts'.Perm ts) (q : Pr) : InSh ks ts' q ↔ InSh ks ts q := by
  unfold InSh
  constructor
  · rintro ⟨t, ht, h⟩
    exact ⟨t, p.mem_iff.1 ht, h⟩
  · rintro ⟨t, ht, h⟩
    exact ⟨t, p.mem_iff.2 ht, h⟩
theorem IsSh.perm {ks : List (Str × Str)} {ts ts' : List (List Str)} {sh : List Pr} (p : ts'.Perm ts) (h : IsSh ks ts' sh) : IsSh ks ts sh := by
  obtain ⟨l, h1, h2, h3⟩ := h
  exact ⟨l, h1, fun q => (h2 q).trans (inSh_perm p q), h3⟩
theorem inSh_tb {fs : List (Str × Nat)} {ns : List Str} (c : Cfg fs ns) {ts : List (List Str)} (d : Drawn (tbOf fs ns).names ts) (nm part : List Str) : InSh (ksOf fs ns) ts (nm, part) ↔ (tbOf fs ns).sh ts nm part := by
  unfold InSh KtL.Tb.sh
  constructor
  · rintro ⟨t, ht, h1, h2⟩
    have h1 : nm = numsK (ksOf fs ns) t := h1
    have h2 : part.Sublist (facsK (ksOf fs ns) t) := h2
    rw [(ks_of c).nums (d.tm t ht).1] at h1
    rw [(ks_of c).facs (d.tm t ht).1] at h2
    exact ⟨t, ht, h1.symm, h2⟩
  · rintro ⟨t, ht, h1, h2⟩
    refine ⟨t, ht, ?_, ?_⟩
    · show nm = numsK (ksOf fs ns) t
      rw [(ks_of c).nums (d.tm t ht).1]
      exact h1.symm
    · show part.Sublist (facsK (ksOf fs ns) t)
      rw [(ks_of c).facs (d.tm t ht).1]
      exact h2
theorem sh_iff {fs : List (Str × Nat)} {ns : List Str} (c : Cfg fs ns) {ts us : List (List Str)} (d : Drawn (tbOf fs ns).names ts) (e : Drawn (tbOf fs ns).names us) {sh1 sh2 : List Pr} (i1 : IsSh (ksOf fs ns) ts sh1) (i2 : IsSh (ksOf fs ns) us sh2) :
    (∀ nm part, (tbOf fs ns).sh ts nm part ↔ (tbOf fs ns).sh us nm part) ↔ sh1 = sh2 := by
  constructor
  · intro h
    refine IsSh.one (ks := ksOf fs ns) (ts := us) ?_ i2
    obtain ⟨l, h1, h2, h3⟩ := i1
    refine ⟨l, h1, fun q => (h2 q).trans ?_, h3⟩
    obtain ⟨nm, part⟩ := q
    rw [inSh_tb c d, inSh_tb c e]
    exact h nm part
  · intro h nm part
    rw [← inSh_tb c d, ← inSh_tb c e, ← i1.mem, ← i2.mem, h]
theorem pr01 {f : Str → Int} : ∀ {l : List Str}, (∀ x ∈ l, f x = 0 ∨ f x = 1) → KtL.pr l f = 0 ∨ KtL.pr l f = 1
  | [], _ => .inr rfl
  | x :: l, h => by
    show f x * KtL.pr l f = 0 ∨ f x * KtL.pr l f = 1
    rcases h x List.mem_cons_self with e | e
    · rw [e]
      exact .inl (Int.zero_mul _)
    · rw [e, Int.one_mul]
      exact pr01 fun y hy => h y (List.mem_cons_of_mem _ hy)
theorem cols_ok {fs : List (Str × Nat)} {ns : List Str} (c : Cfg fs ns) {ts : List (List Str)} (d : Drawn (tbOf fs ns).names ts) : ∀ r ∈ (tbOf fs ns).cols ts, r.length = (KtL.full (allOf fs ns)).length ∧ Wd 1 r := fun r hr => by
  obtain ⟨t, ht, h2⟩ := List.mem_flatMap.1 hr
  obtain ⟨cell, _, rfl⟩ := List.mem_map.1 h2
  have eall : (tbOf fs ns).all (tbOf fs ns).names = allOf fs ns := cfg_of cfg_all1 c
  have erows : (tbOf fs ns).rows = KtL.full (allOf fs ns) := by
    unfold KtL.Tb.rows
    rw [eall]
  have lv3 : ∀ x ∈ (tbOf fs ns).names, 2 ≤ (tbOf fs ns).lv x ∧ (tbOf fs ns).lv x ≤ 3 ∧ ((tbOf fs ns).fac x = false → (tbOf fs ns).lv x = 2) := cfg_of cfg_lv1 c
  refine ⟨by unfold KtL.Tb.col; rw [List.length_map, erows], fun y hy => ?_⟩
  obtain ⟨row, hrow, rfl⟩ := List.mem_map.1 hy
  have z : KtL.pr ((tbOf fs ns).nums t) (fun x => KtL.get row x) = 0 ∨ KtL.pr ((tbOf fs ns).nums t) (fun x => KtL.get row x) = 1 := pr01 fun x hx => by
    have hxn : x ∈ (tbOf fs ns).names := (d.tm t ht).1.subset (List.mem_filter.1 hx).1
    have hf : (tbOf fs ns).fac x = false := by
      have := (List.mem_filter.1 hx).2
      simpa using this
    obtain ⟨l, hl, e⟩ := KtL.rows_get (t := tbOf fs ns) ⟨cfg_of cfg_nd1 c, fun y hy => (lv3 y hy).1⟩ hrow hxn
    rw [(lv3 x hxn).2.2 hf] at hl
    rw [e]
    omega
  show (KtL.colv _ cell row).natAbs < 2 ^ 1
  unfold KtL.colv
  rcases z with z | z <;> rw [z] <;> split <;> decide
/-- a row of the span -/
noncomputable def inSpan (T : List (Nat × List Int)) (v : List Int) : Bool := @decide (KtL.Sp (KtL.rowsOf (tv T)) (KtL.vec v)) (Classical.propDecidable _)
theorem inSpan_iff {T : List (Nat × List Int)} {v : List Int} : inSpan T v = true ↔ KtL.Sp (KtL.rowsOf (tv T)) (KtL.vec v) := by
  unfold inSpan
  exact @decide_eq_true_iff _ (Classical.propDecidable _)
/-- what stands from the formulas on -/
structure Ctx (K : PySem.W.Frag) (C : Addr) (iT : Nat) (T : List (Addr × Str)) (fs : List (Str × Nat)) (ns : List Str) (ts us : List (List Str)) (d na kd l l2 x1 x2 : Addr) (H : Hp) : Prop where
  one : Dp K (dl [] H) (.ref l) (.list (ts.map tm))
  two : Dp K (dl [] H) (.ref l2) (.list (us.map tm))
  kds : H kd = some (.dK (kdV (ksOf fs ns)))
  lev : H d = some (.dK (lvV fs))
  num : Dp K (dl [] H) (.ref na) (.list (ns.map .str))
  f1 : ∃ ts', ts'.Perm ts ∧ FmAt K C iT (dl [] H) (.ref x1) ts'
  f2 : ∃ us', us'.Perm us ∧ FmAt K C iT (dl [] H) (.ref x2) us'
  tab : LamX.Tabs T H
theorem Ctx.ext {K : PySem.W.Frag} {C : Addr} {iT : Nat} {T : List (Addr × Str)} {fs : List (Str × Nat)} {ns : List Str} {ts us : List (List Str)} {d na kd l l2 x1 x2 : Addr} {H H' : Hp} (h : Ctx K C iT T fs ns ts us d na kd l l2 x1 x2 H) (e : LamX.ExtN H H') (t : LamX.Tabs T H') : Ctx K C iT T fs ns ts us d na kd l l2 x1 x2 H' :=
  ⟨dp_same (ext_dl e) h.one, dp_same (ext_dl e) h.two, e _ _ h.kds (fun ps z => by cases z), e _ _ h.lev (fun ps z => by cases z), dp_same (ext_dl e) h.num, let ⟨a, p, f⟩ := h.f1; ⟨a, p, f.same (ext_dl e)⟩, let ⟨a, p, f⟩ := h.f2; ⟨a, p, f.same (ext_dl e)⟩, t⟩
theorem Ctx.same {K : PySem.W.Frag} {C : Addr} {iT : Nat} {T : List (Addr × Str)} {fs : List (Str × Nat)} {ns : List Str} {ts us : List (List Str)} {d na kd l l2 x1 x2 : Addr} {H H' : Hp} (h : Ctx K C iT T fs ns ts us d na kd l l2 x1 x2 H) (e : Same H H') : Ctx K C iT T fs ns ts us d na kd l l2 x1 x2 H' := h.ext (LamX.ExtN.of e) (h.tab.ext e)
section
variable {P : Program} {w : World} {K : PySem.W.Frag} {mg : Str → Option Value} {base : Heap} {C : Addr} {iT iR : Nat} {T : List (Addr × Str)}
/-- a def of the module, with its promise -/
structure Gv (P : Program) (w : World) (K : PySem.W.Frag) (mg : Str → Option Value) (base : Heap) (k : Nat) (x : Str) (ps : List Str) (sp : Sp) : Prop where
  ex : ∃ (f : Addr) (fd : FuncData), FnOk P w K mg base CX0 k f fd ps sp ∧ PySem.W.keepIn K (.ref f) = true ∧ Binds K fd ps [] ∧ mg x = some (.ref f)
def spRight (T : List (Addr × Str)) : Sp := fun vs H Q _ => ∃ c, vs = [.ref c] ∧ PotN H c 0 ∧ LamX.Tabs T H ∧ ∀ H' H1, Kp c H H1 → LamX.ExtN H1 H' → LamX.Tabs T H' → Q (.bl true) H'
theorem ok_right {f fI : Addr} {fd fdI : FuncData} {k : Nat} (F : Fun K "_law_right" "_law_right" (topS 50) f fd) (M : Mg K mg) (hr9 : k + 2 ≤ k + 2)
    (gd : Gv P w K mg base k "_law_dip" ["_law_pot_here", "_law_total"] spDip) (gt : Gv P w K mg base k "_law_terms" ["_law_pot_here", "_law_names"] (spLTerms K))
    (go : Gv P w K mg base k "_law_other" ["_law_pot_here", "_law_terms_here", "_law_names", "_law_kinds"] (spOther K))
    (gs : Gv P w K mg base k "shadow_of" ["formula", "kinds"] (spShad K C iT T)) (gw : Gv P w K mg base k "_law_shadow" ["_law_terms_here", "_law_kinds"] (spLSh K))
    (gr : Gv P w K mg base k "_law_rows" ["_law_levels", "_law_numbers"] (spRows K)) (gc : Gv P w K mg base k "_law_columns" ["_law_terms_here", "_law_kinds", "_law_levels", "_law_rows_here"] (spCols K))
    (gb : Gv P w K mg base k "_law_base" ["_law_rows_here"] (spBase K)) (gl : Gv P w K mg base k "_law_less" ["_law_row", "_law_base_here"] (spLess K)) (ga : Gv P w K mg base k "is_alike" ["one", "other", "kinds"] (spAlike K C iT T))
    (mk : Mk K C fI) (gC : mg "Formula" = some (.ref C)) (gi : FnOk P w K mg base CX0 k fI fdI ["self", "terms", "response"] (spInit K C iT))
    (bi : ∃ ds, Vals [V.non] ds ∧ Binds K fdI ["self", "terms", "response"] ds) (bn : KBn K fdI ["self", "terms", "response"] 2 ["response"] (fun us ws => us ++ ws) (fun vs zs => vs ++ zs)) :
    FnOk P w K mg base CX0 (k + 2) f fd ["_law_pot_here"] (spRight T) := by
  refine F.ok scRight (fun vs H Q E h => ?_) (fun cdv A outer s H vs Q E hr' h => ?_)
  · obtain ⟨c, rfl, _⟩ := h
    rfl
  · have hr := hr'.mono (Nat.le_succ k)
    obtain ⟨c, rfl, hp, hT, q⟩ := h
    obtain ⟨fD, fdD, GD, kD, bD, gD⟩ := gd.ex
    obtain ⟨fT, fdT, GT, kT, bT, gT⟩ := gt.ex
    obtain ⟨fO, fdO, GO, kO, bO, gO⟩ := go.ex
    obtain ⟨fS, fdS, GS, kS, bS, gS⟩ := gs.ex
    obtain ⟨fW, fdW, GW, kW, bW, gW⟩ := gw.ex
    obtain ⟨fR, fdR, GR, kR, bR, gR⟩ := gr.ex
    obtain ⟨fC, fdC, GC, kC', bC, gC'⟩ := gc.ex
    obtain ⟨fB, fdB, GB, kB, bB, gB⟩ := gb.ex
    obtain ⟨fL, fdL, GL, kL, bL, gL⟩ := gl.ex
    obtain ⟨fA, fdA, GA, kA, bA, gA⟩ := ga.ex
    obtain ⟨ds, vds, bI⟩ := bi
    refine ⟨_, pss_cons (ps_asg (pe_tup (pa_cons pe_dnewK (pa_cons pe_int (pa_cons (pe_slice sl_list (pe_lst (pa_cons pe_str (pa_cons pe_str pa_nil))) po_none (po_some (pe_call GD hr (by rfl) gD kD bD .nil pass0 (pa_cons (pv 0) (pa_cons pe_int pa_nil))))) pa_nil))))
          (pg_tup rfl (pgs_cons (pg_name (i := 1) scRight.nd rfl (.inr rfl)) (pgs_cons (pg_name (i := 2) scRight.nd rfl (.inl rfl)) (pgs_cons (pg_name (i := 3) scRight.nd rfl (.inl rfl)) pgs_nil)))))
      (C8.pss_cut (ps_for PassesOwn.never rfl (pi_list (pe_slice sl_list (pe_lst (pa_cons pe_str (pa_cons pe_str (pa_cons pe_str pa_nil)))) po_none (po_some (pe_op op_add pe_int (pe_call GD hr (by rfl) gD kD bD .nil pass0 (pa_cons (pv 0) (pa_cons pe_int pa_nil))))))) (pg_name (i := 4) scRight.nd rfl (.inl rfl))
        (pss_cons (ps_dput (td := tVar 1) (ty := tVar 4) (by have h := hr.un; show (A.deeper _).units + 1 < cLine; omega) (pv 1) (pv 4) (pe_ifExp (pt_cmpR op_gt (pv 2) pe_int (nomark _)) pe_int (pe_op op_add pe_int (pe_call GD hr (by rfl) gD kD bD .nil pass0 (pa_cons (pv 0) (pa_cons pe_int pa_nil))))) rfl)
        (pss_one (ps_set (i := 2) scRight.nd rfl (.inl rfl) (pe_op op_mul (pv 2) (pe_dget (hu_of hr) (pv 1) (pv 4) (fun _ _ => rfl)))))))
      (C8.pss_cut (ps_if (pt_cmpR op_gt (pe_op op_mul (pv 2) (pe_op op_pow pe_int pe_int)) pe_int (nomark _)) (pss_one (ps_set (i := 3) scRight.nd rfl (.inl rfl) (pe_slice sl_list (pv 3) po_none (po_some pe_int)))) pss_nil)
      (pss_cons (ps_set (i := 5) scRight.nd rfl (.inl rfl) (pe_callB (cr_sortedV PyData.str) (by rfl) M.sorted bt_sorted (pa_cons (pe_op op_catS (pe_callTy (call_listD rfl) (by rfl) M.list bt_list (pa_cons (pv 1) pa_nil)) (pv 3)) pa_nil)))
      (pss_cons (ps_set (i := 6) scRight.nd rfl (.inl rfl) (pe_callTy (call_dictP rfl) (by rfl) M.dict bt_dict (pa_cons (pe_lc (own := [("_law_name", 4)])
            (te := tTup (tCons (tVar 4) (tCons (tIf (tB (tDIn (tVar 4) (tVar 1))) (tC (.str cF)) (tC (.str cN))) tNil))) rfl scRight.nd (pi_list (pe_op op_catS (pv 5) (pe_lst (pa_cons pe_str pa_nil)))) (blkOk_by (by kernel_rfl))
            (fun s H C cl fp => pg_name (i := 4) scRight.nd rfl (.inl rfl)) (fun s H C cl fp => pts_nil) (fun s H C cl fp => pe_tup (pa_cons (pv 4) (pa_cons (pe_ifExp (pt_cmp (pc_din (hu_of hr) (pv 4) (pv 1))) pe_str pe_str) pa_nil)))) pa_nil)))
      (pss_cons (ps_set (i := 7) scRight.nd rfl (.inl rfl) (pe_call GT hr (by rfl) gT kT bT .nil pass0 (pa_cons (pv 0) (pa_cons (pv 5) pa_nil))))
      (pss_cons (ps_set (i := 8) scRight.nd rfl (.inl rfl) (pe_call GO hr (by rfl) gO kO bO .nil pass0 (pa_cons (pv 0) (pa_cons (pv 7) (pa_cons (pv 5) (pa_cons (pv 6) pa_nil))))))
      (C8.pss_cut (ps_par (i := 9) (j := 10) rfl scRight.nd rfl rfl (by decide) rfl rfl (pa_cons (pe_make mk gi hr' (by rfl) gC bI vds pass0 (pa_cons (pe_callTy call_tuple_of (by rfl) M.tuple bt_tuple (pa_cons (pv 7) pa_nil)) pa_nil))
          (pa_cons (pe_makeN mk gi hr' (by rfl) gC bn pass0 (pa_cons (pe_callTy call_tuple_of (by rfl) M.tuple bt_tuple (pa_cons (pv 8) pa_nil)) pa_nil) (pk_cons pe_str pk_nil)) pa_nil)) rfl)
      (pss_cons (ps_if (PW.pt (pw_or (pt_cmpR (op_neD hr.units) (pe_callTy call_list_of (by rfl) M.list bt_list (pa_cons (pe_call GS hr (by rfl) gS kS bS .nil pass0 (pa_cons (pv 9) (pa_cons (pv 6) pa_nil))) pa_nil)) (pe_call GW hr (by rfl) gW kW bW .nil pass0 (pa_cons (pv 7) (pa_cons (pv 6) pa_nil))) (nomark _))
          (pw_or1 (pt_cmpR (op_neD hr.units) (pe_callTy call_list_of (by rfl) M.list bt_list (pa_cons (pe_call GS hr (by rfl) gS kS bS .nil pass0 (pa_cons (pv 10) (pa_cons (pv 6) pa_nil))) pa_nil)) (pe_call GW hr (by rfl) gW kW bW .nil pass0 (pa_cons (pv 8) (pa_cons (pv 6) pa_nil))) (nomark _))))) pss_never pss_nil)
      (pss_cons (ps_set (i := 11) scRight.nd rfl (.inl rfl) (pe_call GR hr (by rfl) gR kR bR .nil pass0 (pa_cons (pv 1) (pa_cons (pv 3) pa_nil))))
      (pss_cons (ps_par (i := 12) (j := 13) rfl scRight.nd rfl rfl (by decide) rfl rfl (pa_cons (pe_call GC hr (by rfl) gC' kC' bC .nil pass0 (pa_cons (pv 7) (pa_cons (pv 6) (pa_cons (pv 1) (pa_cons (pv 11) pa_nil)))))
          (pa_cons (pe_call GC hr (by rfl) gC' kC' bC .nil pass0 (pa_cons (pv 8) (pa_cons (pv 6) (pa_cons (pv 1) (pa_cons (pv 11) pa_nil))))) pa_nil)) rfl)
      (pss_cons (ps_asg (pe_tup (pa_cons (pe_call GB hr (by rfl) gB kB bB .nil pass0 (pa_cons (pv 12) pa_nil)) (pa_cons (pe_call GB hr (by rfl) gB kB bB .nil pass0 (pa_cons (pv 13) pa_nil)) pa_nil))) (pg_tup rfl (pgs_cons (pg_name (i := 14) scRight.nd rfl (.inr rfl)) (pgs_cons (pg_name (i := 15) scRight.nd rfl (.inl rfl)) pgs_nil))))
      (C8.pss_cut (ps_set (i := 16) scRight.nd rfl (.inl rfl) (pe_and (pe_cmpR op_eq (pe_callB call_len_seq (by rfl) M.len bt_len (pa_cons (pv 14) pa_nil)) (pe_callB call_len_seq (by rfl) M.len bt_len (pa_cons (pv 15) pa_nil)) (nomark _))
          (pe_one (pe_cmpR (op_eqD hr.units) (pe_lc (own := [("_law_row", 17), ("_law_part", 18)]) (tt := tTest (tOp (rNeD K) (tLc (iList K (tCall (spLess K) [] E0 (tCons (tVar 17) (tCons (tVar 14) tNil)))) (gName 18) (tTest (tOp rNe (tVar 18) (tC (.int 0)))) (tC (.int 1)) [18]) (tLst tNil))) (te := tC (.int 1)) rfl scRight.nd (pi_list (pv 13)) (blkOk_by (by kernel_rfl))
            (fun s H C cl fp => pg_name (i := 17) scRight.nd rfl (.inl rfl))
            (fun s H C cl fp => pts_one (pt_cmpR (op_neD hr.units) (pe_lc (own := [("_law_part", 18)]) rfl scRight.nd (pi_list (pe_call GL hr (by rfl) gL kL bL .nil pass0 (pa_cons (pv 17) (pa_cons (pv 14) pa_nil)))) (blkOk_by (by kernel_rfl)) (fun s H C cl fp => pg_name (i := 18) scRight.nd rfl (.inl rfl))
                (fun s H C cl fp => pts_one (pt_cmpR op_ne (pv 18) pe_int (nomark _))) (fun s H C cl fp => pe_int)) (pe_lst pa_nil) (nomark _)))
            (fun s H C cl fp => pe_int)) (pe_lst pa_nil) (nomark _)))))
      (pss_cons (ps_if (PW.pt (pw_or (pt_cmpR op_ne (pe_call GA hr (by rfl) gA kA bA .nil pass0 (pa_cons (pv 9) (pa_cons (pv 10) (pa_cons (pv 6) pa_nil)))) (pv 16) (nomark _)) (pw_or1 (pt_cmpR op_ne (pe_call GA hr (by rfl) gA kA bA .nil pass0 (pa_cons (pv 10) (pa_cons (pv 9) (pa_cons (pv 6) pa_nil)))) (pv 16) (nomark _))))) pss_never pss_nil)
      (pss_one (ps_ret (pe_and (pe_cmpR op_eq (pv 16) (pe_cmpR (op_eqD hr.units) (pe_call GW hr (by rfl) gW kW bW .nil pass0 (pa_cons (pv 7) (pa_cons (pv 6) pa_nil))) (pe_call GW hr (by rfl) gW kW bW .nil pass0 (pa_cons (pv 8) (pa_cons (pv 6) pa_nil))) (nomark _)) (nomark _))
          (pe_one (pe_call GA hr (by rfl) gA kA bA .nil pass0 (pa_cons (pv 9) (pa_cons (pv 9) (pa_cons (pv 6) pa_nil))))))))))))))))))))), ?_⟩
    obtain ⟨zc, hc⟩ := hp.lst
    refine fun d nd => ⟨by show 2 ≤ sizeLine; decide, fun lu nlu => ?_⟩
    have s1 : Same H (upd (upd H d (.dK [])) lu (.lst [.str "u", .str "x"])) := (up_same nd).trans (up_same nlu)
    have ed : (upd (upd H d (.dK [])) lu (.lst [.str "u", .str "x"])) d = some (.dK []) := up_same nlu _ _ upd_same
    have elu : (upd (upd H d (.dK [])) lu (.lst [.str "u", .str "x"])) lu = some (.lst [.str "u", .str "x"]) := upd_same
    have nluH : H lu = none := (up_same nd).free nlu
    generalize upd (upd H d (.dK [])) lu (.lst [.str "u", .str "x"]) = H1 at s1 ed elu ⊢
    have dc : d ≠ c := (ne_of_none hc nd).symm
    have luc : lu ≠ c := (ne_of_none hc nluH).symm
    refine ⟨.ref c, rfl, c, 3, 0, rfl, hp.same s1, by decide, by decide, by decide, fun j H2 j0 j1 kp2 hp2 => ?_⟩
    have kpH2 : Kp c H H2 := (Kp.of s1).trans kp2
    refine ⟨j, rfl, lu, nm2.map V.str, rfl, .inl (.inl (kp2 _ _ luc elu)), fun na nna => ?_⟩
    rw [cut_take j0, ← List.map_take]
    refine ⟨by show 3 ≤ sizeLine; decide, fun tp ntp => ⟨tp, [.ref d, .int 1, .ref na], rfl, .inl (.inl upd_same), rfl, .ref d, [.int 1, .ref na], rfl, .int 1, [.ref na], rfl, .ref na, [], rfl, rfl, ?_⟩⟩
    have hns := take_nm2 j.toNat
    generalize hnse : nm2.take j.toNat = ns0 at hns
    have s3 : Same H2 (upd (upd H2 na (.lst (ns0.map V.str))) tp (.tup [.ref d, .int 1, .ref na])) := (up_same nna).trans (up_same (by rw [← hnse]; exact ntp))
    have ena : (upd (upd H2 na (.lst (ns0.map V.str))) tp (.tup [.ref d, .int 1, .ref na])) na = some (.lst (ns0.map V.str)) := up_same (by rw [← hnse]; exact ntp) _ _ upd_same
    generalize upd (upd H2 na (.lst (ns0.map V.str))) tp (.tup [.ref d, .int 1, .ref na]) = H3 at s3 ena ⊢
    have ed3 : H3 d = some (.dK []) := s3 _ _ (kp2 _ _ dc ed)
    have kpH3 : Kp c H H3 := kpH2.trans (Kp.of s3)
    have hp3 : PotN H3 c 1 := hp2.same s3
    obtain ⟨zc3, hc3⟩ := hp3.lst
    have nac : na ≠ c := fun z => by
      rw [z, hc3] at ena
      rw [z] at nna
      obtain ⟨zc2, hc2⟩ := hp2.lst
      rw [hc2] at nna
      cases nna
    have nad : na ≠ d := fun z => by
      rw [z, ed3] at ena
      cases ena
    -- the levels
    refine ⟨fun σ' H' => ∃ fs many y4, σ' = [some (.ref c), some (.ref d), some (.int ((many : Nat) : Int)), some (.ref na), y4, none, none, none, none, none, none, none, none, none, none, none, none, none, none] ∧ Kp c H H' ∧ PotN H' c 10 ∧ H' d = some (.dK (lvV fs)) ∧ H' na = some (.lst (ns0.map V.str)) ∧ ∃ i, 1 ≤ i ∧ (i, fs, many) ∈ stages, ?_, ?_⟩
    · refine ⟨by show 3 ≤ sizeLine; decide, fun la nla => ?_⟩
      have s4 := up_same (o := .lst (nm3.map V.str)) nla
      have ela : upd H3 la (.lst (nm3.map V.str)) la = some (.lst (nm3.map V.str)) := upd_same
      have lac : la ≠ c := (ne_of_none hc3 nla).symm
      refine ⟨.ref c, rfl, c, 3, 1, rfl, hp3.same s4, by decide, by decide, by decide, fun j2 H5 k0 k1 kp5 hp5 => ⟨1, j2, rfl, rfl, 1 + j2, rfl, la, nm3.map V.str, rfl, .inl (.inl (kp5 _ _ lac ela)), fun cu ncu => ?_⟩⟩
      rw [cut_take (by omega), ← List.map_take]
      have n13 : 1 ≤ (1 + j2).toNat ∧ (1 + j2).toNat ≤ 3 := ⟨by omega, by omega⟩
      generalize (1 + j2).toNat = n at n13 ⊢
      have s6 := up_same (o := .lst ((nm3.take n).map V.str)) (show H5 cu = none from ncu)
      have ecu : upd H5 cu (.lst ((nm3.take n).map V.str)) cu = some (.lst ((nm3.take n).map V.str)) := upd_same
      generalize upd H5 cu (.lst ((nm3.take n).map V.str)) = H6 at s6 ecu ⊢
      have kp6 : Kp c H3 H6 := ((Kp.of s4).trans kp5).trans (Kp.of s6)
      have ed6 : H6 d = some (.dK []) := kp6 _ _ dc ed3
      have cud : cu ≠ d := fun z => by
        rw [z, ed6] at ecu
        cases ecu
      have cuc : cu ≠ c := fun z => by
        obtain ⟨zc6, hc6⟩ := (hp5.same s6).lst
        obtain ⟨zc5, hc5⟩ := hp5.lst
        rw [z, hc5] at ncu
        cases ncu
      have nl3 : (nm3.take n).length = n := by
        rw [List.length_take]
        show min n 3 = n
        omega
      refine ⟨cu, rfl, ⟨_, .inl (.inl ecu)⟩, ?_⟩
      refine for_list (xs := (nm3.take n).map V.str) (fun i σ H7 => ∃ fs many y4, σ = [some (.ref c), some (.ref d), some (.int ((many : Nat) : Int)), some (.ref na), y4, none, none, none, none, none, none, none, none, none, none, none, none, none, none] ∧ Kp c H H7 ∧ PotN H7 c (2 + i) ∧ H7 d = some (.dK (lvV fs)) ∧ H7 na = some (.lst (ns0.map V.str)) ∧ H7 cu = some (.lst ((nm3.take n).map V.str)) ∧ (i, fs, many) ∈ stages)
        ⟨[], 1, none, rfl, kpH3.trans kp6, hp5.same s6, ed6, kp6 _ _ nac ena, ecu, by decide +kernel⟩ (fun i σ H7 _ p => ?_) (fun i v σ H7 ev p => ?_) fun σ H7 p => ?_
      · obtain ⟨_, _, _, _, _, _, _, _, e, _⟩ := p
        exact .inl (.inl e)
      · obtain ⟨fs, many, y4, rfl, kp7, hp7, ed7, ena7, ecu7, st⟩ := p
        obtain ⟨x, ex, rfl⟩ : ∃ x, (nm3.take n)[i]? = some x ∧ v = .str x := by
          rw [List.getElem?_map] at ev
          obtain ⟨x, e1, e2⟩ := Option.map_eq_some_iff.1 ev
          exact ⟨x, e1, e2.symm⟩
        have hi : i < n := by
          have := (List.getElem?_eq_some_iff.1 ex).1
          omega
        have ex3 : nm3[i]? = some x := by
          rw [List.getElem?_take_of_lt hi] at ex
          exact ex
        have xin : x ∈ nm3 := List.mem_of_getElem? ex3
        have xn : x ∉ fs.map (·.1) := stageN _ st x xin ex3
        have stb := stageB _ st
        have fl : (lvV fs).length < sizeLine := small1000 (by
          have h2 : fs.length ≤ 3 := stb.2
          unfold lvV
          rw [List.length_map]
          omega)
        have m12 : many ≤ 12 := stb.1
        -- the level m is put
        have fin : ∀ (m : Nat) (H8 : Hp), (i + 1, fs ++ [(x, m)], many * m) ∈ stages → Kp c H7 H8 → PotN H8 c (2 + (i + 1)) → H8 d = some (.dK (lvV fs)) →
            ∃ H9, DPut H8 d (.str x) (.int (m : Int)) H9 ∧ Kp c H H9 ∧ PotN H9 c (2 + (i + 1)) ∧ H9 d = some (.dK (lvV (fs ++ [(x, m)]))) ∧ H9 na = some (.lst (ns0.map V.str)) ∧ H9 cu = some (.lst ((nm3.take n).map V.str)) := fun m H8 st' kp8 hp8 ed8 => by
          refine ⟨_, DPut.k (k := .inr x) ed8 fl, fun b o hb e => ?_, ?_, ?_, ?_, ?_⟩
          · rw [upd_ne (ne_of_none e nd)]
            exact kp8 _ _ hb (kp7 _ _ hb e)
          · obtain ⟨g, mm, tt', h1, r⟩ := hp8
            exact ⟨g, mm, tt', by rw [upd_ne dc.symm]; exact h1, r⟩
          · rw [upd_same, lvV_put xn]
          · rw [upd_ne nad]
            exact kp8 _ _ nac ena7
          · rw [upd_ne cud]
            exact kp8 _ _ cuc ecu7
        have nxt : ∀ (m : Nat) (H9 : Hp) (R : L2.St → Hp → Prop), m ≤ 3 → H9 d = some (.dK (lvV (fs ++ [(x, m)]))) → (∀ (z : Int), z = ((many * m : Nat) : Int) → R [some (.ref c), some (.ref d), some (.int z), some (.ref na), some (.str x), none, none, none, none, none, none, none, none, none, none, none, none, none, none] H9) →
            tAsg (tOp (rI CMul fun i j => V.int (i * j)) (tVar 2) (tDGet (tVar 1) (tVar 4))) (gName 2) { nx := R, rt := fun _ _ => False } [some (.ref c), some (.ref d), some (.int (many : Int)), some (.ref na), some (.str x), none, none, none, none, none, none, none, none, none, none, none, none, none, none] H9 := fun m H9 R m3 e r => by
          refine ⟨_, rfl, .ref d, rfl, .str x, rfl, d, .int (m : Int), rfl, .inl ⟨_, .inr x, .inl e, rfl, ?_⟩, _, _, rfl, rfl, .inr ⟨by omega, by omega⟩, ?_⟩
          · rw [lvV_val, lookup_app xn]
            rfl
          · exact r _ (by rw [Int.natCast_mul])
        refine ⟨_, rfl, _, 2, rfl, rfl, _, rfl, ite2 (fun _ => ?_) fun zz => ?_⟩
        · obtain ⟨H9, dput, kp9, hp9, ed9, ena9, ecu9⟩ := fin 2 H7 (stage2 _ st x xin ex3) (Kp.refl _ _) (hp7.mono (by omega)) ed7
          refine ⟨.ref d, rfl, .str x, rfl, d, H9, rfl, dput, ?_⟩
          exact nxt 2 H9 _ (by decide) ed9 fun z ez => ⟨fs ++ [(x, 2)], many * 2, some (.str x), by rw [ez], kp9, hp9, ed9, ena9, ecu9, stage2 _ st x xin ex3⟩
        · have m2 : many ≤ 2 := by
            by_cases h : many ≤ 2
            · exact h
            · exact absurd (decide_eq_true (show (2 : Int) < (many : Int) by omega)) zz
          refine ⟨.ref c, rfl, c, 2, _, rfl, hp7, by omega, by decide, by decide, fun d' H8 d0 d1 kp8 hp8 => ⟨2, d', rfl, rfl, ?_⟩⟩
          have ed8 := kp8 _ _ dc ed7
          have hd' : d' = 0 ∨ d' = 1 := by omega
          rcases hd' with rfl | rfl
          · obtain ⟨H9, dput, kp9, hp9, ed9, ena9, ecu9⟩ := fin 2 H8 (stage2 _ st x xin ex3) kp8 (hp8.mono (by omega)) ed8
            refine ⟨.ref d, rfl, .str x, rfl, d, H9, rfl, dput, ?_⟩
            exact nxt 2 H9 _ (by decide) ed9 fun z ez => ⟨fs ++ [(x, 2)], many * 2, some (.str x), by rw [ez], kp9, hp9, ed9, ena9, ecu9, stage2 _ st x xin ex3⟩
          · obtain ⟨H9, dput, kp9, hp9, ed9, ena9, ecu9⟩ := fin 3 H8 (stage3 _ st x xin ex3 m2) kp8 (hp8.mono (by omega)) ed8
            refine ⟨.ref d, rfl, .str x, rfl, d, H9, rfl, dput, ?_⟩
            exact nxt 3 H9 _ (by decide) ed9 fun z ez => ⟨fs ++ [(x, 3)], many * 3, some (.str x), by rw [ez], kp9, hp9, ed9, ena9, ecu9, stage3 _ st x xin ex3 m2⟩
      · obtain ⟨fs, many, y4, rfl, kp7, hp7, ed7, ena7, ecu7, st⟩ := p
        rw [List.length_map, nl3] at st
        exact ⟨fs, many, y4, rfl, kp7, hp7.mono (by rw [List.length_map, nl3]; omega), ed7, ena7, n, n13.1, st⟩
    · rintro σ' H' ⟨fs, many, y4, rfl, kp4, hp4, ed4, ena4, i, i1, st⟩
      have many12 : many ≤ 12 := (stageB _ st).1
      have fs3 : fs.length ≤ 3 := (stageB _ st).2
      refine ⟨fun σ' H' => ∃ ns na', σ' = [some (.ref c), some (.ref d), some (.int ((many : Nat) : Int)), some (.ref na'), y4, none, none, none, none, none, none, none, none, none, none, none, none, none, none] ∧ Kp c H H' ∧ PotN H' c 10 ∧ H' d = some (.dK (lvV fs)) ∧ H' na' = some (.lst (ns.map V.str)) ∧ na' ≠ c ∧ Cfg fs ns, ?_, ?_⟩
      · refine ⟨_, rfl, 2, 2, rfl, rfl, ⟨by decide, by decide, by decide⟩, _, _, rfl, rfl, .inl ⟨by omega, by omega⟩, _, 24, rfl, rfl, _, rfl, ite2 (fun z => ?_) fun z => ?_⟩
        · refine ⟨.ref na, rfl, 1, rfl, na, ns0.map V.str, rfl, .inl (.inl ena4), fun cu ncu => ?_⟩
          rw [cut_take (by decide), ← List.map_take]
          have hz : 24 < many * 4 := by
            have z1 : (24 : Int) < (many : Int) * 4 := of_decide_eq_true z
            omega
          have cg := stageC _ st i1 ns0 hns
          rw [if_pos hz] at cg
          have cuc : cu ≠ c := fun z => by
            obtain ⟨zc4, hc4⟩ := hp4.lst
            rw [z, hc4] at ncu
            cases ncu
          exact ⟨ns0.take 1, cu, rfl, kp4.trans (Kp.of (up_same ncu)), hp4.same (up_same ncu), up_same ncu _ _ ed4, upd_same, cuc, cg⟩
        · have hz : ¬ 24 < many * 4 := fun h => z (decide_eq_true (show (24 : Int) < (many : Int) * 4 by omega))
          have cg := stageC _ st i1 ns0 hns
          rw [if_neg hz] at cg
          exact ⟨ns0, na, rfl, kp4, hp4, ed4, ena4, nac, cg⟩
      · rintro σ' H' ⟨ns, na', rfl, kp5, hp5, ed5, ena5, nac', cfg⟩
        have nl5 := names_len cfg
        have nsl : ns.length ≤ 5 := by
          have e : (tbOf fs ns).names.length = fs.length + ns.length := by
            show ((allOf fs ns).map (·.1)).length = _
            unfold allOf
            rw [List.length_map, List.length_append, List.length_map]
          omega
        obtain ⟨zc5, hc5⟩ := hp5.lst
        -- the names
        refine ⟨.ref d, rfl, d, lvV fs, rfl, .inl ed5, fun p np => ?_⟩
        have elist : (lvV fs).map (fun kv => kV kv.1) = (fs.map (·.1)).map V.str := by
          unfold lvV
          rw [List.map_map, List.map_map]
          rfl
        rw [elist]
        refine ⟨.ref na', rfl, p, na', (fs.map (·.1)).map V.str, ns.map V.str, rfl, rfl, .inl (.inl upd_same), .inl (.inl (up_same np _ _ ena5)), Nat.le_of_lt (small1000 (by rw [List.length_map, List.length_map, List.length_map]; omega)), fun o no => ?_⟩
        have enames : (fs.map (·.1)).map V.str ++ ns.map V.str = (tbOf fs ns).names.map V.str := by
          show _ = ((allOf fs ns).map (·.1)).map V.str
          simp [allOf, Function.comp_def]
        rw [enames]
        have s6 : Same H' (upd (upd H' p (.lst ((fs.map (·.1)).map V.str))) o (.lst ((tbOf fs ns).names.map V.str))) := (up_same np).trans (up_same no)
        have eo : upd (upd H' p (.lst ((fs.map (·.1)).map V.str))) o (.lst ((tbOf fs ns).names.map V.str)) o = some (.lst ((tbOf fs ns).names.map V.str)) := upd_same
        generalize upd (upd H' p (.lst ((fs.map (·.1)).map V.str))) o (.lst ((tbOf fs ns).names.map V.str)) = H6 at s6 eo ⊢
        have srtN : srt PyData.str (tbOf fs ns).names = (tbOf fs ns).names := srt_of_sorted inj_str (List.Perm.refl _) (cU_le.sublist (names_cU cfg))
        refine ⟨o, _, (tbOf fs ns).names, H6, rfl, .inl (.inl eo), Same.refl _, dps_strs K _ _, srt_str hr.units _ (by omega), fun ys q2 dys nq2 => ?_⟩
        rw [srtN] at dys
        have eys := dps_str dys
        subst eys
        have s7 : Same H6 (upd H6 q2 (.lst ((tbOf fs ns).names.map V.str))) := up_same nq2
        have eq2 : upd H6 q2 (.lst ((tbOf fs ns).names.map V.str)) q2 = some (.lst ((tbOf fs ns).names.map V.str)) := upd_same
        generalize upd H6 q2 (.lst ((tbOf fs ns).names.map V.str)) = H7 at s7 eq2 ⊢
        have s57 : Same H' H7 := s6.trans s7
        -- the kinds
        refine ⟨.ref q2, rfl, by show 1 ≤ sizeLine; decide, fun lz nlz => ?_⟩
        refine ⟨q2, lz, (tbOf fs ns).names.map V.str, [.str zz], rfl, rfl, .inl (.inl (up_same nlz _ _ eq2)), .inl (.inl upd_same), Nat.le_of_lt (small1000 (by rw [List.length_map, List.length_singleton]; omega)), fun oz noz => ?_⟩
        have ezn : (tbOf fs ns).names.map V.str ++ [V.str zz] = ((tbOf fs ns).names ++ [zz]).map V.str := by
          rw [List.map_append]
          rfl
        rw [ezn]
        have s8 : Same H7 (upd (upd H7 lz (.lst [.str "zz"])) oz (.lst (((tbOf fs ns).names ++ [zz]).map V.str))) := (up_same nlz).trans (up_same noz)
        have eoz : upd (upd H7 lz (.lst [.str "zz"])) oz (.lst (((tbOf fs ns).names ++ [zz]).map V.str)) oz = some (.lst (((tbOf fs ns).names ++ [zz]).map V.str)) := upd_same
        generalize upd (upd H7 lz (.lst [.str "zz"])) oz (.lst (((tbOf fs ns).names ++ [zz]).map V.str)) = H8 at s8 eoz ⊢
        have ed8 : H8 d = some (.dK (lvV fs)) := (s57.trans s8) _ _ ed5
        refine ⟨oz, rfl, ⟨_, .inl (.inl eoz)⟩, fun D nD => ?_⟩
        refine lc_list (xs := ((tbOf fs ns).names ++ [zz]).map V.str) (PvC [] K H8 D fun j => (((tbOf fs ns).names ++ [zz]).take j).map fun x => PyData.tuple [.str x, .str (kdX fs x)]) (pv0 nD rfl) (fun j H _ p => p.seq (.inl (.inl eoz))) (fun j v H9 ej p => ?_) fun H9 p => ?_
        · obtain ⟨x, ex, rfl⟩ : ∃ x, ((tbOf fs ns).names ++ [zz])[j]? = some x ∧ v = .str x := by
            rw [List.getElem?_map] at ej
            obtain ⟨x, e1, e2⟩ := Option.map_eq_some_iff.1 ej
            exact ⟨x, e1, e2.symm⟩
          have nem := p.ne (Ne.nil H8)
          have put : ∀ (m : Addr) (kd : Str), H9 m = none → kd = kdX fs x → ∃ acc, (upd H9 m (.tup [.str x, .str kd])) D = some (.lst acc) ∧ acc.length < sizeLine ∧ PvC [] K H8 D (fun j => (((tbOf fs ns).names ++ [zz]).take j).map fun x => PyData.tuple [.str x, .str (kdX fs x)]) (j + 1) (upd (upd H9 m (.tup [.str x, .str kd])) D (.lst (acc ++ [.ref m]))) := fun m kd nm ek => by
            refine p.put nD (up_same nm) (d := .tuple [.str x, .str (kdX fs x)]) ?_ (take_map_succ (f := fun x => PyData.tuple [.str x, .str (kdX fs x)]) ex) ?_
            · rw [ek]
              exact dp_tupN nem nm (.cons (.str x) (.cons (.str _) .nil))
            · rw [List.length_map, List.length_take]
              exact small1000 (by rw [List.length_append, List.length_singleton]; omega)
          refine ⟨rfl, .str x, rfl, .str x, rfl, .ref d, rfl, d, valV (lvV fs) (.inr x), rfl, .inl ⟨_, .inr x, .inl (p.1 _ _ ed8), rfl, rfl⟩, _, rfl, ite2 (fun z => ?_) fun z => ?_⟩
          · refine ⟨by show 2 ≤ sizeLine; decide, fun m nm => put m cF nm ?_⟩
            unfold kdX
            rw [lvV_val, Option.isSome_map] at z
            rw [if_pos z]
          · refine ⟨by show 2 ≤ sizeLine; decide, fun m nm => put m cN nm ?_⟩
            unfold kdX
            rw [lvV_val, Option.isSome_map] at z
            rw [if_neg z]
        · obtain ⟨s9, acc, eD, gD⟩ := p
          rw [List.length_map] at gD
          have gD : DpAll K (dl [D] H9) acc ((((tbOf fs ns).names ++ [zz]).take ((tbOf fs ns).names ++ [zz]).length).map fun x => PyData.tuple [.str x, .str (kdX fs x)]) := gD
          rw [List.take_length] at gD
          obtain ⟨ps, rfl, hps⟩ := kds_of (dps_same (dl_le _ _) gD)
          refine ⟨D, ps, _, rfl, .inl (.inl eD), hps, fun kd nkd => ?_⟩
          have ekv : (((tbOf fs ns).names ++ [zz]).map fun x => ((.inr x : Key), V.str (kdX fs x))) = kdV (ksOf fs ns) := by
            unfold kdV ksOf
            rw [List.map_map]
            rfl
          have emg : mergeK [] (((tbOf fs ns).names ++ [zz]).map fun x => ((.inr x : Key), V.str (kdX fs x))) = kdV (ksOf fs ns) := by
            rw [merge_new _ [] ?_, List.nil_append, ekv]
            rw [List.nil_append, List.map_map]
            have e : ((tbOf fs ns).names ++ [zz]).map ((fun p : Key × V => p.1) ∘ fun x => ((.inr x : Key), V.str (kdX fs x))) = ((tbOf fs ns).names ++ [zz]).map Sum.inr := rfl
            rw [e]
            exact (cfg_of cfg_zz1 cfg).map Sum.inr fun a b hne h => hne (Sum.inr.inj h)
          rw [emg]
          have s10 : Same H9 (upd H9 kd (.dK (kdV (ksOf fs ns)))) := up_same nkd
          have ekd : upd H9 kd (.dK (kdV (ksOf fs ns))) kd = some (.dK (kdV (ksOf fs ns))) := upd_same
          generalize upd H9 kd (.dK (kdV (ksOf fs ns))) = H10 at s10 ekd ⊢
          have sA : Same H' H10 := ((s57.trans s8).trans s9).trans s10
          have kpA : Kp c H H10 := kp5.trans (Kp.of sA)
          have hpA := hp5.same sA
          have q2c : q2 ≠ c := fun z => by
            have := s6 _ _ hc5
            rw [z] at nq2
            rw [this] at nq2
            cases nq2
          have eqA : H10 q2 = some (.lst ((tbOf fs ns).names.map V.str)) := ((s8.trans s9).trans s10) _ _ eq2
          have kdc : kd ≠ c := fun z => by
            have := sA _ _ hc5
            rw [z, this] at ekd
            cases ekd
          -- the terms
          refine ⟨.ref c, rfl, .ref q2, rfl, c, q2, 10, (tbOf fs ns).names, rfl, hpA, by decide, .inl (.inl (dl_at eqA (by simpa using q2c) rfl)), names_cU cfg, fun ts l H11 kp11 hp11 nl hts dts ts4 => ?_⟩
          have lc : l ≠ c := fun z => by
            rw [z, sA _ _ hc5] at nl
            cases nl
          have eqB : H11 q2 = some (.lst ((tbOf fs ns).names.map V.str)) := kp11 _ _ q2c eqA
          refine ⟨.ref c, rfl, .ref l, rfl, .ref q2, rfl, .ref kd, rfl, c, l, q2, .ref kd, 110, (tbOf fs ns).names, ts, ksOf fs ns, rfl, hp11, by decide, lc, hts, dts, ts4, .inl (.inl (dl_at eqB (by simpa using q2c) rfl)), names_cU cfg, ⟨kd, rfl, kp11 _ _ kdc ekd⟩, (ks_of cfg).has, fun us l2 H12 kp12 hp12 nl2 hus dus us7 => ?_⟩
          have kpB : Kp c H H12 := (kpA.trans kp11).trans kp12
          have dcc : d ≠ c := dc
          have edB : H12 d = some (.dK (lvV fs)) := kp12 _ _ dc (kp11 _ _ dc (sA _ _ ed5))
          have enaB : H12 na' = some (.lst (ns.map V.str)) := kp12 _ _ nac' (kp11 _ _ nac' (sA _ _ ena5))
          have ekdB : H12 kd = some (.dK (kdV (ksOf fs ns))) := kp12 _ _ kdc (kp11 _ _ kdc ekd)
          have htsB : TsAt K H12 c l ts := hts.kp kp12 lc
          obtain ⟨xs1, el1, gx1⟩ := htsB
          obtain ⟨xs2, el2, gx2⟩ := hus
          have tabB : LamX.Tabs T H12 := kpB.tabs hc hT
          have gx1' : DpAll K (dl [] H12) xs1 (ts.map tm) := dps_same (dl_mono fun a ha => (by cases ha)) gx1
          have gx2' : DpAll K (dl [] H12) xs2 (us.map tm) := dps_same (dl_mono fun a ha => (by cases ha)) gx2
          -- the formulas
          refine ⟨fun σ' H' => ∃ x1 x2, σ' = [some (.ref c), some (.ref d), some (.int ((many : Nat) : Int)), some (.ref na'), y4, some (.ref q2), some (.ref kd), some (.ref l), some (.ref l2), some (.ref x1), some (.ref x2), none, none, none, none, none, none, none, none] ∧ Kp c H H' ∧ Ctx K C iT T fs ns ts us d na' kd l l2 x1 x2 H', ?_, ?_⟩
          · refine ⟨.ref l, rfl, l, xs1, rfl, .inl ⟨.inl (.inl el1), fun tt ntt => ?_⟩⟩
            have s13 : Same H12 (upd H12 tt (.tup xs1)) := up_same ntt
            have ett : upd H12 tt (.tup xs1) tt = some (.tup xs1) := upd_same
            generalize upd H12 tt (.tup xs1) = H13 at s13 ett ⊢
            refine fun x1 dx1 nx1 ndx1 hne1 => ⟨x1, dx1, .ref tt, .non, ts, H13, rfl, rfl, nx1, ndx1, hne1, .tup (.inl (.inl (dl_at ett (by simp) rfl))) (dps_same (dl_same s13) gx1'), drawn_ok cfg dts (by omega), drawn_few cfg dts, .inl rfl, fun H14 ts' pm1 s14 fm1 => ⟨rfl, ?_⟩⟩
            have s124 : Same H12 H14 := s13.trans s14
            refine ⟨.ref l2, rfl, l2, xs2, rfl, .inl ⟨.inl (.inl (s124 _ _ el2)), fun tt2 ntt2 => ?_⟩⟩
            have s15 : Same H14 (upd H14 tt2 (.tup xs2)) := up_same ntt2
            have ett2 : upd H14 tt2 (.tup xs2) tt2 = some (.tup xs2) := upd_same
            generalize upd H14 tt2 (.tup xs2) = H15 at s15 ett2 ⊢
            have ynot : ∀ t ∈ us, cY ∉ t := fun t ht hy => absurd ((names_cU cfg).subset ((dus.tm t ht).1.subset hy)) (by decide +kernel)
            refine ⟨rfl, rfl, fun x2 dx2 nx2 ndx2 hne2 => ⟨x2, dx2, .ref tt2, .str cY, us, H15, rfl, rfl, nx2, ndx2, hne2, .tup (.inl (.inl (dl_at ett2 (by simp) rfl))) (dps_same (dl_same (s124.trans s15)) gx2'), drawn_ok cfg dus (by omega), drawn_few cfg dus, .inr ⟨cY, rfl, ok_all cY (by simp), ynot⟩, fun H16 us' pm2 s16 fm2 => ⟨rfl, .ref x1, .ref x2, rfl, ?_⟩⟩⟩
            have s1216 : Same H12 H16 := s124.trans (s15.trans s16)
            refine ⟨x1, x2, rfl, kpB.trans (Kp.of s1216), ?_⟩
            have c12 : Dp K (dl [] H12) (.ref l) (.list (ts.map tm)) := .lst (.inl (.inl (dl_at el1 (by simp) rfl))) gx1'
            have c12' : Dp K (dl [] H12) (.ref l2) (.list (us.map tm)) := .lst (.inl (.inl (dl_at el2 (by simp) rfl))) gx2'
            exact ⟨dp_same (dl_same s1216) c12, dp_same (dl_same s1216) c12', s1216 _ _ ekdB, s1216 _ _ edB, dp_same (dl_same s1216) (.lst (.inl (.inl (dl_at enaB (by simp) rfl))) (dps_strs K _ _)), ⟨ts', pm1, fm1.same (dl_same (s15.trans s16))⟩, ⟨us', pm2, fm2⟩, tabB.ext s1216⟩
          · rintro σ' H0 ⟨x1, x2, rfl, kp0, ctx⟩
            have drn := dts
            have hne0 := Ne.nil H0
            obtain ⟨ts', pm1, fm1⟩ := ctx.f1
            have kd1 : ∀ t ∈ ts, HasKd (ksOf fs ns) t ∧ t.length ≤ 3 := fun t ht => ⟨fun y hy => (ks_of cfg).has y ((dts.tm t ht).1.subset hy), (dts.tm t ht).2⟩
            have kd2 : ∀ t ∈ us, HasKd (ksOf fs ns) t ∧ t.length ≤ 3 := fun t ht => ⟨fun y hy => (ks_of cfg).has y ((dus.tm t ht).1.subset hy), (dus.tm t ht).2⟩
            have sm1 : SmTs (ksOf fs ns) ts' := drawn_sm cfg (dts.perm pm1) (by rw [pm1.length_eq]; omega)
            have sm1p : ∀ {vs : List (List Str)}, vs.Perm ts → SmTs (ksOf fs ns) vs := fun pm => drawn_sm cfg (dts.perm pm) (by rw [pm.length_eq]; omega)
            have sm2p : ∀ {vs : List (List Str)}, vs.Perm us → SmTs (ksOf fs ns) vs := fun pm => drawn_sm cfg (dus.perm pm) (by rw [pm.length_eq]; omega)
            have smt : SmTs (ksOf fs ns) ts := drawn_sm cfg dts (by omega)
            have smu : SmTs (ksOf fs ns) us := drawn_sm cfg dus (by omega)
            have shok : ∀ {vs : List (List Str)} {sh : List Pr}, SmTs (ksOf fs ns) vs → IsSh (ksOf fs ns) vs sh → SeqAt.shaped (.list (sh.map prD)) = true := fun sm is => shaped_list (fun q hq => lay_pr (sh_ok sm is q hq)) (fun q => by have := depth_pr q; omega)
            have eqsh : ∀ sh : List Pr, PyData.eqv (.list (sh.map prD)) (.list (sh.map prD)) = true := fun sh => (eqv_list eqv_pr sh sh).2 rfl
            refine ⟨.ref x1, rfl, .ref kd, rfl, [], .ref x1, .ref kd, ts', ksOf fs ns, rfl, Ne.nil _, ⟨fm1, sm1⟩, ⟨kd, rfl, ctx.kds⟩, ks_ok cfg, ctx.tab, fun H1 p sh1 ex1 hT1 is1 dp1 => ?_⟩
            have is1 : IsSh (ksOf fs ns) ts sh1 := is1.perm pm1
            have ctx1 := ctx.ext ex1 hT1
            obtain ⟨pa, pxs, epa, hpa, gpa⟩ := dp_tup dp1
            cases epa
            refine ⟨p, pxs, rfl, .inr (same_tup (dl_le _ _) hpa), fun l1 nl1 => ?_⟩
            have ctx2 := ctx1.same (up_same (o := .lst pxs) nl1)
            have el1' : upd H1 l1 (.lst pxs) l1 = some (.lst pxs) := upd_same
            have gpa2 : DpAll K (dl [] (upd H1 l1 (.lst pxs))) pxs (sh1.map prD) := dps_same (dl_up nl1) gpa
            have e02 : LamX.ExtN H0 (upd H1 l1 (.lst pxs)) := ex1.trans (LamX.ExtN.of (up_same nl1))
            generalize upd H1 l1 (.lst pxs) = H2 at ctx2 el1' gpa2 e02 ⊢
            refine ⟨.ref l, rfl, .ref kd, rfl, [], .ref l, .ref kd, ts, ksOf fs ns, rfl, Ne.nil _, ctx2.one, ⟨kd, rfl, ctx2.kds⟩, kd1, by omega, fun H3 l3 xs3 sh3 s3 nl3 el3 is3 g3 => ?_⟩
            have e13 : sh3 = sh1 := is3.one is1
            subst e13
            refine ⟨.list (sh3.map prD), .list (sh3.map prD), .lst (.inl (.inl (s3 _ _ el1'))) (dps_same ((dl_le _ _).trans s3) gpa2), .lst (.inl (.inl el3)) (dps_le g3), shok smt is1, shok smt is1, ?_⟩
            rw [eqsh]
            refine ⟨_, rfl, ?_⟩
            have ctx3 := ctx2.same s3
            obtain ⟨us', pm2, fm2⟩ := ctx3.f2
            refine ⟨.ref x2, rfl, .ref kd, rfl, [], .ref x2, .ref kd, us', ksOf fs ns, rfl, Ne.nil _, ⟨fm2, sm2p pm2⟩, ⟨kd, rfl, ctx3.kds⟩, ks_ok cfg, ctx3.tab, fun H4 p4 sh4 ex4 hT4 is4 dp4 => ?_⟩
            have is4 : IsSh (ksOf fs ns) us sh4 := is4.perm pm2
            have ctx4 := ctx3.ext ex4 hT4
            obtain ⟨pb, pys, epb, hpb, gpb⟩ := dp_tup dp4
            cases epb
            refine ⟨p4, pys, rfl, .inr (same_tup (dl_le _ _) hpb), fun l5 nl5 => ?_⟩
            have ctx5 := ctx4.same (up_same (o := .lst pys) nl5)
            have el5' : upd H4 l5 (.lst pys) l5 = some (.lst pys) := upd_same
            have gpb2 : DpAll K (dl [] (upd H4 l5 (.lst pys))) pys (sh4.map prD) := dps_same (dl_up nl5) gpb
            have e05 : LamX.ExtN H0 (upd H4 l5 (.lst pys)) := ((e02.trans (LamX.ExtN.of s3)).trans ex4).trans (LamX.ExtN.of (up_same nl5))
            generalize upd H4 l5 (.lst pys) = H5 at ctx5 el5' gpb2 e05 ⊢
            refine ⟨.ref l2, rfl, .ref kd, rfl, [], .ref l2, .ref kd, us, ksOf fs ns, rfl, Ne.nil _, ctx5.two, ⟨kd, rfl, ctx5.kds⟩, kd2, us7, fun H6 l6 xs6 sh6 s6' nl6 el6 is6 g6 => ?_⟩
            have e46 : sh6 = sh4 := is6.one is4
            subst e46
            refine ⟨.list (sh6.map prD), .list (sh6.map prD), .lst (.inl (.inl (s6' _ _ el5'))) (dps_same ((dl_le _ _).trans s6') gpb2), .lst (.inl (.inl el6)) (dps_le g6), shok smu is4, shok smu is4, ?_⟩
            rw [eqsh]
            refine ⟨_, rfl, ?_⟩
            have ctx6 := ctx5.same s6'
            have e06 : LamX.ExtN H0 H6 := e05.trans (LamX.ExtN.of s6')
            -- the rows
            refine ⟨.ref d, rfl, .ref na', rfl, [], d, .ref na', fs, ns, rfl, Ne.nil _, ctx6.lev, ctx6.num, cfg, fun lr rxs H7 s7' nlr elr rds => ?_⟩
            have ctx7 := ctx6.same s7'
            -- the columns
            refine ⟨.ref l, rfl, .ref kd, rfl, .ref d, rfl, .ref lr, rfl, [], .ref l, .ref kd, d, lr, ts, ksOf fs ns, fs, ns, rxs, rfl, Ne.nil _, ctx7.one, ⟨kd, rfl, ctx7.kds⟩, ctx7.lev, elr, rds, cfg, ks_of cfg, dts, by omega, fun lh L H8 s8' nlh dL memL Lfew => ?_⟩
            have ctx8 := ctx7.same s8'
            refine ⟨.ref l2, rfl, .ref kd, rfl, .ref d, rfl, .ref lr, rfl, [], .ref l2, .ref kd, d, lr, us, ksOf fs ns, fs, ns, rxs, rfl, Ne.nil _, ctx8.two, ⟨kd, rfl, ctx8.kds⟩, ctx8.lev, s8' _ _ elr, rds.same s8', cfg, ks_of cfg, dus, us7, fun lt Mm H9 s9' nlt dM memM mml => ?_⟩
            have ctx9 := ctx8.same s9'
            refine ⟨.ref lh, .ref lt, rfl, ?_⟩
            have rows24 : (KtL.full (allOf fs ns)).length ≤ 24 ∧ 1 ≤ (KtL.full (allOf fs ns)).length := cfg_of cfg_rows1 cfg
            have rokL : ∀ r ∈ L, r.length = (KtL.full (allOf fs ns)).length ∧ Wd 1 r := fun r hr => Kt.cols_ok cfg dts r ((memL r).1 hr)
            have rokM : ∀ r ∈ Mm, r.length = (KtL.full (allOf fs ns)).length ∧ Wd 1 r := fun r hr => Kt.cols_ok cfg dus r ((memM r).1 hr)
            -- the bases
            refine ⟨.ref lh, rfl, [], .ref lh, L, (KtL.full (allOf fs ns)).length, rfl, Ne.nil _, dp_same (dl_same s9') dL, rokL, rows24.2, rows24.1, fun lb T1 H10 s10' nlb dT1 bok1 base1 => ?_⟩
            refine ⟨.ref lt, rfl, [], .ref lt, Mm, (KtL.full (allOf fs ns)).length, rfl, Ne.nil _, dp_same (dl_same s10') dM, rokM, rows24.2, rows24.1, fun lb2 T2 H11 s11' nlb2 dT2 bok2 base2 => ?_⟩
            refine ⟨by show 2 ≤ sizeLine; decide, fun tp ntp => ⟨tp, [.ref lb, .ref lb2], rfl, .inl (.inl upd_same), rfl, .ref lb, [.ref lb2], rfl, .ref lb2, [], rfl, rfl, ?_⟩⟩
            have s12' := up_same (o := .tup [.ref lb, .ref lb2]) ntp
            generalize upd H11 tp (.tup [.ref lb, .ref lb2]) = H12' at s12' ⊢
            have e012 : LamX.ExtN H0 H12' := e06.trans (LamX.ExtN.of ((((((s7'.trans s8').trans s9').trans s10').trans s11').trans s12')))
            have ctx12 := ctx9.same ((s10'.trans s11').trans s12')
            have dT1' : Dp K (dl [] H12') (.ref lb) (.list (T1.map bsD)) := dp_same (dl_same (s11'.trans s12')) dT1
            have dT2' : Dp K (dl [] H12') (.ref lb2) (.list (T2.map bsD)) := dp_same (dl_same s12') dT2
            have dM' : Dp K (dl [] H12') (.ref lt) (.list (Mm.map colD)) := dp_same (dl_same ((s10'.trans s11').trans s12')) dM
            -- one space
            have law : (T1.length = T2.length ∧ ∀ v ∈ Mm, inSpan T1 v = true) ↔ sh3 = sh6 := by
              have z := KtL.test_iff (t := tbOf fs ns) (ok := ⟨cfg_of cfg_nd1 cfg, fun y hy => (cfg_of cfg_lv1 cfg y hy).1⟩) (ts := ts) (us := us) (fun t ht => (dts.tm t ht).1) (fun t ht => (dus.tm t ht).1) memL memM base1 base2
              have e1 : (tv T1).length = T1.length := by
                unfold tv
                rw [List.length_map]
              have e2 : (tv T2).length = T2.length := by
                unfold tv
                rw [List.length_map]
              rw [e1, e2] at z
              refine Iff.trans ?_ (z.trans (sh_iff cfg dts dus is1 is4))
              constructor
              · rintro ⟨h1, h2⟩
                exact ⟨h1, fun v hv => inSpan_iff.1 (h2 v hv)⟩
              · rintro ⟨h1, h2⟩
                exact ⟨h1, fun v hv => inSpan_iff.2 (h2 v hv)⟩
            refine ⟨fun σ' H' => ∃ b : Bool, (b = true ↔ sh3 = sh6) ∧ σ' = [some (.ref c), some (.ref d), some (.int ((many : Nat) : Int)), some (.ref na'), y4, some (.ref q2), some (.ref kd), some (.ref l), some (.ref l2), some (.ref x1), some (.ref x2), some (.ref lr), some (.ref lh), some (.ref lt), some (.ref lb), some (.ref lb2), some (.bl b), none, none] ∧ LamX.ExtN H0 H' ∧ Ctx K C iT T fs ns ts us d na' kd l l2 x1 x2 H', ?_, ?_⟩
            · obtain ⟨_, zs1, ez1, hz1, gz1⟩ := dp_list dT1'
              cases ez1
              obtain ⟨_, zs2, ez2, hz2, gz2⟩ := dp_list dT2'
              cases ez2
              have zl1 : zs1.length = T1.length := by
                have := dps_len gz1
                rw [List.length_map] at this
                exact this
              have zl2 : zs2.length = T2.length := by
                have := dps_len gz2
                rw [List.length_map] at this
                exact this
              refine ⟨.ref lb, rfl, lb, zs1, rfl, .inl ((dl_le _ _).seq hz1), .ref lb2, rfl, lb2, zs2, rfl, .inl ((dl_le _ _).seq hz2), rfl, _, rfl, ite2 (fun ze => ?_) fun ze => ?_⟩
              · have elen : T1.length = T2.length := by
                  have z1 := V.int.inj (of_decide_eq_true ze)
                  omega
                obtain ⟨_, mxs, emx, hmx, gmx⟩ := dp_list dM'
                cases emx
                have hm0 : SqL K H12' lt mxs := (dl_le _ _).seq hmx
                have ml : mxs.length = Mm.length := by
                  have := dps_len gmx
                  rw [List.length_map] at this
                  exact this
                refine ⟨.ref lt, rfl, lt, rfl, ⟨mxs, hm0⟩, fun D nD => ?_⟩
                refine lc_list (xs := mxs) (PvC [] K H12' D fun j => ((Mm.take j).filter fun v => !inSpan T1 v).map fun _ => PyData.int 1) (pv0 nD rfl) (fun j H13 _ p => p.seq hm0) (fun j v H13 ej p => ?_) fun H13 p => ?_
                · obtain ⟨row, er, drow⟩ := dps_map_at gmx ej
                  obtain ⟨rl, wd⟩ := rokM row (List.mem_of_getElem? er)
                  refine ⟨rfl, v, rfl, .ref lb, rfl, [], v, .ref lb, row, T1, rfl, Ne.nil _, dp_same (dl_same p.1) drow, dp_same (dl_same p.1) dT1', by rw [rl]; exact bok1, wd, by omega, by omega, fun l7 r H14 s14 nl7 el7 rl7 rwd lf => ⟨l7, rfl, ⟨_, .inl (.inl el7)⟩, fun D2 nD2 => ?_⟩⟩
                  refine lc_list (xs := r.map V.int) (PvC [] K H14 D2 fun q => ((r.take q).filter fun y => !decide (y = 0)).map fun _ => PyData.int 1) (pv0 nD2 rfl) (fun q H15 _ p => p.seq (.inl (.inl el7))) (fun q v2 H15 eq p2 => ?_) fun H15 p2 => ?_
                  · obtain ⟨y, ey, rfl⟩ : ∃ y, r[q]? = some y ∧ v2 = .int y := by
                      rw [List.getElem?_map] at eq
                      obtain ⟨y, e1, e2⟩ := Option.map_eq_some_iff.1 eq
                      exact ⟨y, e1, e2.symm⟩
                    refine ⟨rfl, .int y, rfl, rfl, _, rfl, ite2 (fun e => ?_) fun e => ?_⟩
                    · have hne : ¬ y = 0 := fun h => by
                        rw [h] at e
                        revert e
                        show (!decide (V.int 0 = V.int 0)) = true → False
                        rw [decide_eq_true rfl]
                        exact fun h => by cases h
                      refine p2.put nD2 (Same.refl _) (.int 1) (take_filter_yes (f := fun _ => PyData.int 1) ey (by rw [decide_eq_false hne]; rfl)) ?_
                      rw [List.length_map]
                      refine Nat.lt_of_le_of_lt (List.length_filter_le _ _) (small1000 ?_)
                      rw [List.length_take]
                      omega
                    · have heq : y = 0 := by
                        by_cases h : y = 0
                        · exact h
                        · exact absurd (by show (!decide (V.int y = V.int 0)) = true; rw [decide_eq_false (fun h' => h (V.int.inj h'))]; rfl) e
                      exact p2.skip (Same.refl _) (take_filter_no (f := fun _ => PyData.int 1) ey (by rw [decide_eq_true heq]; rfl))
                  · obtain ⟨s15, acc, eD2, gD2⟩ := p2
                    rw [List.length_map] at gD2
                    have gD2 : DpAll K (dl [D2] H15) acc (((r.take r.length).filter fun y => !decide (y = 0)).map fun _ => PyData.int 1) := gD2
                    rw [List.take_length] at gD2
                    have gD2' : DpAll K (dl [D2] H15) acc (((r.filter fun y => !decide (y = 0)).map fun _ => (1 : Int)).map PyData.int) := by
                      rw [List.map_map]
                      exact gD2
                    have hone : ((r.filter fun y => !decide (y = 0)).map fun _ => (1 : Int)) = [] ↔ inSpan T1 row = true := by
                      rw [inSpan_iff, List.map_eq_nil_iff, List.filter_eq_nil_iff]
                      constructor
                      · intro h
                        refine lf.none fun i => ?_
                        by_cases hi : i < r.length
                        · have e : r[i]? = some r[i] := List.getElem?_eq_getElem hi
                          rw [vec_at e]
                          have := h r[i] (List.getElem_mem hi)
                          simpa using this
                        · exact vec_out (by omega)
                      · intro h y hy
                        have z := lf.all base1 h
                        obtain ⟨i, hi⟩ := List.getElem?_of_mem hy
                        have := z i
                        rw [vec_at hi] at this
                        simp [this]
                    generalize ((r.filter fun y => !decide (y = 0)).map fun _ => (1 : Int)) = ones at gD2' hone
                    refine ⟨Nat.zero_le _, fun e2 ne2 => ?_⟩
                    have s16 := up_same (o := .lst []) ne2
                    have ee2 : upd H15 e2 (.lst []) e2 = some (.lst []) := upd_same
                    generalize upd H15 e2 (.lst []) = H16 at s16 ee2 ⊢
                    have s1316 : Same H13 H16 := (s14.trans s15).trans s16
                    refine ⟨.list (ones.map PyData.int), .list (([] : List Int).map PyData.int), .lst (.inl (.inl (s16 _ _ eD2))) (dps_same ((dl_le _ _).trans s16) gD2'), .lst (.inl (.inl ee2)) .nil, shaped_list (fun a _ => rfl) dep1, shaped_list (fun a ha => (by cases ha)) dep1, _, rfl, ?_⟩
                    have espan : PyData.eqv (.list (ones.map PyData.int)) (.list (([] : List Int).map PyData.int)) = inSpan T1 row := by
                      rw [Bool.eq_iff_iff]
                      exact (eqv_list eqv_int ones []).trans hone
                    rw [espan]
                    refine ite2 (fun z => ?_) fun z => ?_
                    · refine p.put nD s1316 (.int 1) (take_filter_yes (f := fun _ => PyData.int 1) er z) ?_
                      rw [List.length_map]
                      refine Nat.lt_of_le_of_lt (List.length_filter_le _ _) (small1000 ?_)
                      rw [List.length_take]
                      omega
                    · exact p.skip s1316 (take_filter_no (f := fun _ => PyData.int 1) er (Bool.eq_false_iff.2 z))
                · obtain ⟨s13, acc, eD, gD⟩ := p
                  rw [ml] at gD
                  have gD : DpAll K (dl [D] H13) acc (((Mm.take Mm.length).filter fun v => !inSpan T1 v).map fun _ => PyData.int 1) := gD
                  rw [List.take_length] at gD
                  have gD' : DpAll K (dl [D] H13) acc (((Mm.filter fun v => !inSpan T1 v).map fun _ => (1 : Int)).map PyData.int) := by
                    rw [List.map_map]
                    exact gD
                  have hone : ((Mm.filter fun v => !inSpan T1 v).map fun _ => (1 : Int)) = [] ↔ ∀ v ∈ Mm, inSpan T1 v = true := by
                    rw [List.map_eq_nil_iff, List.filter_eq_nil_iff]
                    refine forall_congr' fun v => forall_congr' fun _ => ?_
                    cases inSpan T1 v <;> simp
                  generalize ((Mm.filter fun v => !inSpan T1 v).map fun _ => (1 : Int)) = ones at gD' hone
                  refine ⟨Nat.zero_le _, fun e2 ne2 => ?_⟩
                  have s16 := up_same (o := .lst []) ne2
                  have ee2 : upd H13 e2 (.lst []) e2 = some (.lst []) := upd_same
                  generalize upd H13 e2 (.lst []) = H16 at s16 ee2 ⊢
                  have s1216 : Same H12' H16 := s13.trans s16
                  refine ⟨.list (ones.map PyData.int), .list (([] : List Int).map PyData.int), .lst (.inl (.inl (s16 _ _ eD))) (dps_same ((dl_le _ _).trans s16) gD'), .lst (.inl (.inl ee2)) .nil, shaped_list (fun a _ => rfl) dep1, shaped_list (fun a ha => (by cases ha)) dep1, ?_⟩
                  refine ⟨_, ?_, rfl, e012.trans (LamX.ExtN.of s1216), ctx12.same s1216⟩
                  rw [← law]
                  constructor
                  · intro h
                    exact ⟨elen, hone.1 ((eqv_list eqv_int ones []).1 h)⟩
                  · intro h
                    exact (eqv_list eqv_int ones []).2 (hone.2 h.2)
              · refine ⟨false, ⟨fun h => (by cases h), fun h => ?_⟩, rfl, e012, ctx12⟩
                have z1 := (law.2 h).1
                exact absurd (decide_eq_true (by rw [zl1, zl2, z1])) ze
            · rintro σ' H13 ⟨b, hb, rfl, e13, ctx13⟩
              have eb : ∀ (sa sb : List Pr), sa = sh3 → sb = sh6 → decide (sa = sb) = b := fun sa sb h1 h2 => by
                subst h1
                subst h2
                rw [Bool.eq_iff_iff, decide_eq_true_eq]
                exact hb.symm
              have eb' : ∀ (sa sb : List Pr), sa = sh6 → sb = sh3 → decide (sa = sb) = b := fun sa sb h1 h2 => by
                subst h1
                subst h2
                rw [Bool.eq_iff_iff, decide_eq_true_eq]
                exact ⟨fun h => hb.2 h.symm, fun h => (hb.1 h).symm⟩
              obtain ⟨ta1, pa1, fa1⟩ := ctx13.f1
              obtain ⟨ta2, pa2, fa2⟩ := ctx13.f2
              refine ⟨.ref x1, rfl, .ref x2, rfl, .ref kd, rfl, [], .ref x1, .ref x2, .ref kd, ta1, ta2, ksOf fs ns, rfl, Ne.nil _, ⟨fa1, sm1p pa1⟩, ⟨fa2, sm2p pa2⟩, ⟨kd, rfl, ctx13.kds⟩, ks_ok cfg, ctx13.tab, fun H14 sa sb ex14 hT14 ia ib => ?_⟩
              rw [eb sa sb ((ia.perm pa1).one is1) ((ib.perm pa2).one is4)]
              refine ⟨.bl b, rfl, rfl, _, rfl, ite2 (fun z => absurd z (by simp)) fun _ => ?_⟩
              have ctx14 := ctx13.ext ex14 hT14
              obtain ⟨tb1, pb1, fb1⟩ := ctx14.f1
              obtain ⟨tb2, pb2, fb2⟩ := ctx14.f2
              refine ⟨.ref x2, rfl, .ref x1, rfl, .ref kd, rfl, [], .ref x2, .ref x1, .ref kd, tb2, tb1, ksOf fs ns, rfl, Ne.nil _, ⟨fb2, sm2p pb2⟩, ⟨fb1, sm1p pb1⟩, ⟨kd, rfl, ctx14.kds⟩, ks_ok cfg, ctx14.tab, fun H15 sa sb ex15 hT15 ia ib => ?_⟩
              rw [eb' sa sb ((ia.perm pb2).one is4) ((ib.perm pb1).one is1)]
              refine ⟨.bl b, rfl, rfl, _, rfl, ite2 (fun z => absurd z (by simp)) fun _ => ?_⟩
              have ctx15 := ctx14.ext ex15 hT15
              refine ⟨.bl b, rfl, .ref l, rfl, .ref kd, rfl, [], .ref l, .ref kd, ts, ksOf fs ns, rfl, Ne.nil _, ctx15.one, ⟨kd, rfl, ctx15.kds⟩, kd1, by omega, fun H16 l8 xs8 sh8 s16 nl8 el8 is8 g8 => ?_⟩
              have e8 : sh8 = sh3 := is8.one is1
              subst e8
              have ctx16 := ctx15.same s16
              refine ⟨.ref l2, rfl, .ref kd, rfl, [], .ref l2, .ref kd, us, ksOf fs ns, rfl, Ne.nil _, ctx16.two, ⟨kd, rfl, ctx16.kds⟩, kd2, us7, fun H17 l9 xs9 sh9 s17 nl9 el9 is9 g9 => ?_⟩
              have e9 : sh9 = sh6 := is9.one is4
              subst e9
              have ctx17 := ctx16.same s17
              refine ⟨.list (sh8.map prD), .list (sh9.map prD), .lst (.inl (.inl (s17 _ _ el8))) (dps_same ((dl_le _ _).trans s17) g8), .lst (.inl (.inl el9)) (dps_le g9), shok smt is1, shok smu is4, rfl, ?_⟩
              have ee : PyData.eqv (.list (sh8.map prD)) (.list (sh9.map prD)) = b := by
                rw [Bool.eq_iff_iff]
                exact (eqv_list eqv_pr sh8 sh9).trans hb.symm
              rw [ee]
              refine ⟨_, rfl, ite2 (fun _ => ?_) fun z => absurd (decide_eq_true rfl) z⟩
              obtain ⟨tc1, pc1, fc1⟩ := ctx17.f1
              refine ⟨.ref x1, rfl, .ref x1, rfl, .ref kd, rfl, [], .ref x1, .ref x1, .ref kd, tc1, tc1, ksOf fs ns, rfl, Ne.nil _, ⟨fc1, sm1p pc1⟩, ⟨fc1, sm1p pc1⟩, ⟨kd, rfl, ctx17.kds⟩, ks_ok cfg, ctx17.tab, fun H18 sa sb ex18 hT18 ia ib => ?_⟩
              rw [decide_eq_true (ia.one ib)]
              exact q H18 H0 kp0 (((((e13.trans ex14).trans ex15).trans (LamX.ExtN.of s16)).trans (LamX.ExtN.of s17)).trans ex18) hT18
end
end Kt
/-! the law -/
namespace Kt
open PySem PySem.Spec PyProof.Rows L2
theorem scLaw : FnScope ["_law_script", "_law_at", "_law_kinds", "_law_cross", "_law_bare", "_law_told"] ["_law_script"] (defScope (topS 51)) := ⟨rfl, rfl, rfl, by decide +kernel, rfl, by decide +kernel, by decide +kernel⟩
def cA : Str := "a"
def cB : Str := "b"
def cX : Str := "x"
/-- the kinds of the law's own formulas -/
def ks3 : List (Str × Str) := [(cA, cF), (cB, cF), (cX, cN)]
def rawSh (ks : List (Str × Str)) (ts : List (List Str)) : List Pr := ts.flatMap fun t => (partsOf (facsK ks t)).map fun p => (numsK ks t, p)
theorem rawSh_mem {ks : List (Str × Str)} {ts : List (List Str)} (q : Pr) : InSh ks ts q ↔ q ∈ rawSh ks ts := by
  unfold InSh rawSh
  rw [List.mem_flatMap]
  refine exists_congr fun t => and_congr_right fun _ => ?_
  rw [List.mem_map]
  constructor
  · rintro ⟨h1, h2⟩
    exact ⟨q.2, (parts_mem _ _).2 h2, by rw [← h1]⟩
  · rintro ⟨p, hp, rfl⟩
    exact ⟨rfl, (parts_mem _ _).1 hp⟩
theorem isSh_of {ks : List (Str × Str)} {ts : List (List Str)} {l : List Pr} (nd : l.Nodup) (h1 : ∀ q ∈ l, q ∈ rawSh ks ts) (h2 : ∀ q ∈ rawSh ks ts, q ∈ l) : IsSh ks ts (shadow l) := ⟨l, nd, fun q => (⟨h1 q, h2 q⟩ : _ ↔ _).trans (rawSh_mem q).symm, rfl⟩
def tsA : List (List Str) := [[], [cA], [cB], [cA, cB]]
def tsB : List (List Str) := [[cA, cB]]
def tsC : List (List Str) := [[cA]]
def tsD : List (List Str) := [[], [cA]]
def tsE : List (List Str) := [[cX]]
def tsF : List (List Str) := [[], [cX]]
def tsG : List (List Str) := [[cA, cX]]
def lAB : List Pr := [([], []), ([], [cA]), ([], [cB]), ([], [cA, cB])]
def lCD : List Pr := [([], []), ([], [cA])]
def lE : List Pr := [([cX], [])]
def lF : List Pr := [([], []), ([cX], [])]
def lG : List Pr := [([cX], []), ([cX], [cA])]
theorem shA : IsSh ks3 tsA (shadow lAB) := isSh_of (by decide +kernel) (by decide +kernel) (by decide +kernel)
theorem shB : IsSh ks3 tsB (shadow lAB) := isSh_of (by decide +kernel) (by decide +kernel) (by decide +kernel)
theorem shC : IsSh ks3 tsC (shadow lCD) := isSh_of (by decide +kernel) (by decide +kernel) (by decide +kernel)
theorem shDD : IsSh ks3 tsD (shadow lCD) := isSh_of (by decide +kernel) (by decide +kernel) (by decide +kernel)
theorem shE : IsSh ks3 tsE (shadow lE) := isSh_of (by decide +kernel) (by decide +kernel) (by decide +kernel)
theorem shF : IsSh ks3 tsF (shadow lF) := isSh_of (by decide +kernel) (by decide +kernel) (by decide +kernel)
theorem shG : IsSh ks3 tsG (shadow lG) := isSh_of (by decide +kernel) (by decide +kernel) (by decide +kernel)
theorem shEF : shadow lE ≠ shadow lF := fun h => by
  have : ([] , []) ∈ shadow lE := by
    rw [h]
    exact srt_mem.2 (by decide +kernel)
  exact absurd (srt_mem.1 this) (by decide +kernel)
theorem shG_eq : shadow lG = lG := srt_of_sorted inj_tr (List.Perm.refl _) (by decide +kernel)
theorem ks3_ok : OkKd ks3 := ⟨fun p hp => by
  have h : ∀ p ∈ ks3, p.1 ∈ cU ++ [zz] ++ [cY] := by decide +kernel
  exact ok_all _ (h p hp), by decide +kernel, by decide +kernel⟩
theorem small_ok {ts : List (List Str)} (h1 : ∀ t ∈ ts, ∀ x ∈ t, x ∈ cU) (h2 : ∀ t ∈ ts, t.Pairwise ltS) (h3 : ∀ t ∈ ts, t.length ≤ 3) (nd : ts.Nodup) (l : ts.length ≤ 100) : OkTs ts :=
  ⟨fun t ht => ⟨fun x hx => ok_all x (List.mem_append_left _ (List.mem_append_left _ (h1 t ht x hx))), h2 t ht, by have := h3 t ht; omega⟩, nd, l⟩
theorem small_few {ts : List (List Str)} (h1 : ∀ t ∈ ts, ∀ x ∈ t, x ∈ cU) : FewN ts := fun zs nd h => by
  have z := nodup_len (m := cU) nd fun y hy => by
    obtain ⟨t, ht, hy⟩ := h y hy
    exact h1 t ht y hy
  exact Nat.le_trans z (by decide +kernel)
theorem small_sm {ts us : List (List Str)} (p : us.Perm ts) (ok : OkTs ts) (h3 : ∀ t ∈ ts, t.length ≤ 3) (hk : ∀ t ∈ ts, ∀ y ∈ t, (ks3.lookup y).isSome = true) : SmTs ks3 us :=
  ⟨fun t ht => ⟨hk t (p.mem_iff.1 ht), h3 t (p.mem_iff.1 ht)⟩, fun t ht => (ok.tm t (p.mem_iff.1 ht)).nm, by rw [p.length_eq]; exact ok.len⟩
/-- the law's own terms are terms -/
def OwnT (ts : List (List Str)) : Prop := OkTs ts ∧ FewN ts ∧ ∀ us, us.Perm ts → SmTs ks3 us
theorem own_of {ts : List (List Str)} (h1 : ∀ t ∈ ts, ∀ x ∈ t, x ∈ cU) (h2 : ∀ t ∈ ts, t.Pairwise fun a b => a.cps.toList < b.cps.toList) (h3 : ∀ t ∈ ts, t.length ≤ 3) (nd : ts.Nodup) (l : ts.length ≤ 100) (hk : ∀ t ∈ ts, ∀ y ∈ t, (ks3.lookup y).isSome = true) : OwnT ts :=
  ⟨small_ok h1 h2 h3 nd l, small_few h1, fun us p => small_sm p (small_ok h1 h2 h3 nd l) h3 hk⟩
theorem ownA : OwnT tsA := own_of (by decide +kernel) (by decide +kernel) (by decide +kernel) (by decide +kernel) (by decide +kernel) (by decide +kernel)
theorem ownB : OwnT tsB := own_of (by decide +kernel) (by decide +kernel) (by decide +kernel) (by decide +kernel) (by decide +kernel) (by decide +kernel)
theorem ownC : OwnT tsC := own_of (by decide +kernel) (by decide +kernel) (by decide +kernel) (by decide +kernel) (by decide +kernel) (by decide +kernel)
theorem ownD : OwnT tsD := own_of (by decide +kernel) (by decide +kernel) (by decide +kernel) (by decide +kernel) (by decide +kernel) (by decide +kernel)
theorem ownE : OwnT tsE := own_of (by decide +kernel) (by decide +kernel) (by decide +kernel) (by decide +kernel) (by decide +kernel) (by decide +kernel)
theorem ownF : OwnT tsF := own_of (by decide +kernel) (by decide +kernel) (by decide +kernel) (by decide +kernel) (by decide +kernel) (by decide +kernel)
theorem ownG : OwnT tsG := own_of (by decide +kernel) (by decide +kernel) (by decide +kernel) (by decide +kernel) (by decide +kernel) (by decide +kernel)
section
variable {P : Program} {w : World} {K : PySem.W.Frag} {mg : Str → Option Value} {base : Heap} {C : Addr} {iT iR : Nat} {T : List (Addr × Str)}
theorem one_tm {H : Hp} {e tt : Addr} {t : List Str} (ne : H e = none) (ntt : (upd H e (.tup (t.map V.str))) tt = none) :
    Same H (upd (upd H e (.tup (t.map V.str))) tt (.tup [.ref e])) ∧ Dp K (dl [] (upd (upd H e (.tup (t.map V.str))) tt (.tup [.ref e]))) (.ref tt) (tmsD [t]) :=
  ⟨(up_same ne).trans (up_same ntt), .tup (.inl (.inl (dl_at upd_same (by simp) rfl))) (.cons (dp_tm_of (.inl (.inl (dl_at (up_same ntt _ _ upd_same) (by simp) rfl)))) .nil)⟩
theorem two_tm {H : Hp} {e e2 tt : Addr} {t t2 : List Str} (ne : H e = none) (ne2 : (upd H e (.tup (t.map V.str))) e2 = none) (ntt : (upd (upd H e (.tup (t.map V.str))) e2 (.tup (t2.map V.str))) tt = none) :
    Same H (upd (upd (upd H e (.tup (t.map V.str))) e2 (.tup (t2.map V.str))) tt (.tup [.ref e, .ref e2])) ∧ Dp K (dl [] (upd (upd (upd H e (.tup (t.map V.str))) e2 (.tup (t2.map V.str))) tt (.tup [.ref e, .ref e2]))) (.ref tt) (tmsD [t, t2]) :=
  ⟨((up_same ne).trans (up_same ne2)).trans (up_same ntt), .tup (.inl (.inl (dl_at upd_same (by simp) rfl))) (.cons (dp_tm_of (.inl (.inl (dl_at (up_same ntt _ _ (up_same ne2 _ _ upd_same)) (by simp) rfl)))) (.cons (dp_tm_of (.inl (.inl (dl_at (up_same ntt _ _ upd_same) (by simp) rfl)))) .nil))⟩
theorem four_tm {H : Hp} {e e2 e3 e4 tt : Addr} {t t2 t3 t4 : List Str} (ne : H e = none) (ne2 : (upd H e (.tup (t.map V.str))) e2 = none) (ne3 : (upd (upd H e (.tup (t.map V.str))) e2 (.tup (t2.map V.str))) e3 = none)
    (ne4 : (upd (upd (upd H e (.tup (t.map V.str))) e2 (.tup (t2.map V.str))) e3 (.tup (t3.map V.str))) e4 = none) (ntt : (upd (upd (upd (upd H e (.tup (t.map V.str))) e2 (.tup (t2.map V.str))) e3 (.tup (t3.map V.str))) e4 (.tup (t4.map V.str))) tt = none) :
    Same H (upd (upd (upd (upd (upd H e (.tup (t.map V.str))) e2 (.tup (t2.map V.str))) e3 (.tup (t3.map V.str))) e4 (.tup (t4.map V.str))) tt (.tup [.ref e, .ref e2, .ref e3, .ref e4])) ∧
    Dp K (dl [] (upd (upd (upd (upd (upd H e (.tup (t.map V.str))) e2 (.tup (t2.map V.str))) e3 (.tup (t3.map V.str))) e4 (.tup (t4.map V.str))) tt (.tup [.ref e, .ref e2, .ref e3, .ref e4]))) (.ref tt) (tmsD [t, t2, t3, t4]) :=
  ⟨((((up_same ne).trans (up_same ne2)).trans (up_same ne3)).trans (up_same ne4)).trans (up_same ntt), .tup (.inl (.inl (dl_at upd_same (by simp) rfl)))
    (.cons (dp_tm_of (.inl (.inl (dl_at (up_same ntt _ _ (up_same ne4 _ _ (up_same ne3 _ _ (up_same ne2 _ _ upd_same)))) (by simp) rfl))))
    (.cons (dp_tm_of (.inl (.inl (dl_at (up_same ntt _ _ (up_same ne4 _ _ (up_same ne3 _ _ upd_same))) (by simp) rfl))))
    (.cons (dp_tm_of (.inl (.inl (dl_at (up_same ntt _ _ (up_same ne4 _ _ upd_same)) (by simp) rfl))))
    (.cons (dp_tm_of (.inl (.inl (dl_at (up_same ntt _ _ upd_same) (by simp) rfl)))) .nil))))⟩
theorem make_own {H1 : Hp} {tt : Addr} {ts : List (List Str)} {R : VK} {Ex : XK} (own : OwnT ts) (d : Dp K (dl [] H1) (.ref tt) (tmsD ts)) (r : ∀ x H2 us, us.Perm ts → Same H1 H2 → FmAt K C iT (dl [] H2) (.ref x) us → R (.ref x) H2) :
    ∀ x dx, H1 x = none → H1 dx = none → dx ≠ x → spInit K C iT [.ref x, .ref tt, .non] (upd (upd H1 dx (.own x)) x (.ins C dx [])) (fun v H2 => v = .non ∧ R (.ref x) H2) Ex := fun x dx nx ndx hne =>
  ⟨x, dx, .ref tt, .non, ts, H1, rfl, rfl, nx, ndx, hne, d, own.1, own.2.1, .inl rfl, fun H' ts' pm s fm => ⟨rfl, r x H' ts' pm s fm⟩⟩
def spLaw (K : PySem.W.Frag) (T : List (Addr × Str)) : Sp := fun vs H Q _ => ∃ (a : Addr) (ns : List Int), vs = [.ref a] ∧ SqL K H a (ns.map V.int) ∧ ns.length ≤ 1000 ∧ LamX.Tabs T H ∧ ∀ H', Q (.bl true) H'
theorem ok_law {f fI : Addr} {fd fdI : FuncData} {k : Nat} (F : Fun K "law" "law" (topS 51) f fd) (M : Mg K mg)
    (gp : Gv P w K mg base k "_law_pot" ["_law_script", "_law_at"] (spPot K)) (gr : Gv P w K mg base k "_law_right" ["_law_pot_here"] (spRight T))
    (gs : Gv P w K mg base k "shadow_of" ["formula", "kinds"] (spShad K C iT T)) (ga : Gv P w K mg base k "is_alike" ["one", "other", "kinds"] (spAlike K C iT T))
    (mk : Mk K C fI) (gC : mg "Formula" = some (.ref C)) (gi : FnOk P w K mg base CX0 k fI fdI ["self", "terms", "response"] (spInit K C iT))
    (bi : ∃ ds, Vals [V.non] ds ∧ Binds K fdI ["self", "terms", "response"] ds) :
    FnOk P w K mg base CX0 (k + 2) f fd ["_law_script"] (spLaw K T) := by
  refine F.ok scLaw (fun vs H Q E h => ?_) (fun cdv A outer s H vs Q E hr' h => ?_)
  · obtain ⟨a, ns, rfl, _⟩ := h
    rfl
  · have hr := hr'.mono (Nat.le_succ k)
    obtain ⟨a, ns, rfl, ha, hn, hT, q⟩ := h
    obtain ⟨fP, fdP, GP, kP', bP, gP⟩ := gp.ex
    obtain ⟨fR, fdR, GR, kR, bR, gR⟩ := gr.ex
    obtain ⟨fS, fdS, GS, kS, bS, gS⟩ := gs.ex
    obtain ⟨fA, fdA, GA, kA, bA, gA⟩ := ga.ex
    obtain ⟨ds, vds, bI⟩ := bi
    refine ⟨_, C8.pss_cut (ps_for PassesOwn.never rfl (pi_range1 (by rfl) M.range (pa_cons (pe_callB (call_max2 rfl) (by rfl) M.max bt_max (pa_cons pe_int (pa_cons (pe_callB (call_min2 rfl) (by rfl) M.min bt_min (pa_cons pe_int (pa_cons (pe_callB call_len_seq (by rfl) M.len bt_len (pa_cons (pv 0) pa_nil)) pa_nil))) pa_nil))) pa_nil)) (pg_name (i := 1) scLaw.nd rfl (.inl rfl))
        (pss_one (ps_if (pt_not (pt_val (pe_call GR hr (by rfl) gR kR bR .nil pass0 (pa_cons (pe_call GP hr (by rfl) gP kP' bP .nil pass0 (pa_cons (pv 0) (pa_cons (pv 1) pa_nil))) pa_nil)))) pss_never pss_nil)))
      (pss_cons (ps_set (i := 2) scLaw.nd rfl (.inl rfl) (pe_disp (pps_cons pe_str pe_str (pps_cons pe_str pe_str (pps_cons pe_str pe_str pps_nil))) rfl rfl (by simp) (by decide)))
      (pss_cons (ps_par (i := 3) (j := 4) rfl scLaw.nd rfl rfl (by decide) rfl rfl
          (pa_cons (pe_make mk gi hr' (by rfl) gC bI vds pass0 (pa_cons (pe_tup (pa_cons (pe_tup pa_nil) (pa_cons (pe_tup (pa_cons pe_str pa_nil)) (pa_cons (pe_tup (pa_cons pe_str pa_nil)) (pa_cons (pe_tup (pa_cons pe_str (pa_cons pe_str pa_nil))) pa_nil))))) pa_nil))
          (pa_cons (pe_make mk gi hr' (by rfl) gC bI vds pass0 (pa_cons (pe_tup (pa_cons (pe_tup (pa_cons pe_str (pa_cons pe_str pa_nil))) pa_nil)) pa_nil)) pa_nil)) rfl)
      (pss_cons (ps_set (i := 5) scLaw.nd rfl (.inl rfl) (pe_lst (pa_cons (pe_call GA hr (by rfl) gA kA bA .nil pass0 (pa_cons (pv 3) (pa_cons (pv 4) (pa_cons (pv 2) pa_nil))))
          (pa_cons (pe_call GA hr (by rfl) gA kA bA .nil pass0 (pa_cons (pe_make mk gi hr' (by rfl) gC bI vds pass0 (pa_cons (pe_tup (pa_cons (pe_tup (pa_cons pe_str pa_nil)) pa_nil)) pa_nil))
            (pa_cons (pe_make mk gi hr' (by rfl) gC bI vds pass0 (pa_cons (pe_tup (pa_cons (pe_tup pa_nil) (pa_cons (pe_tup (pa_cons pe_str pa_nil)) pa_nil))) pa_nil)) (pa_cons (pv 2) pa_nil)))) pa_nil))))
      (pss_cons (ps_set (i := 5) scLaw.nd rfl (.inl rfl) (pe_op op_cat (pv 5) (pe_lst (pa_cons (pe_call GA hr (by rfl) gA kA bA .nil pass0 (pa_cons (pe_make mk gi hr' (by rfl) gC bI vds pass0 (pa_cons (pe_tup (pa_cons (pe_tup (pa_cons pe_str pa_nil)) pa_nil)) pa_nil))
            (pa_cons (pe_make mk gi hr' (by rfl) gC bI vds pass0 (pa_cons (pe_tup (pa_cons (pe_tup pa_nil) (pa_cons (pe_tup (pa_cons pe_str pa_nil)) pa_nil))) pa_nil)) (pa_cons (pv 2) pa_nil))))
          (pa_cons (pe_call GS hr (by rfl) gS kS bS .nil pass0 (pa_cons (pe_make mk gi hr' (by rfl) gC bI vds pass0 (pa_cons (pe_tup (pa_cons (pe_tup (pa_cons pe_str (pa_cons pe_str pa_nil))) pa_nil)) pa_nil)) (pa_cons (pv 2) pa_nil))) pa_nil)))))
      (pss_one (ps_ret (pe_cmpR (op_eqD hr.units) (pv 5) (pe_lst (pa_cons pe_bl (pa_cons pe_bl (pa_cons pe_bl (pa_cons (pe_tup (pa_cons (pe_tup (pa_cons (pe_tup (pa_cons pe_str pa_nil)) (pa_cons (pe_tup pa_nil) pa_nil))) (pa_cons (pe_tup (pa_cons (pe_tup (pa_cons pe_str pa_nil)) (pa_cons (pe_tup (pa_cons pe_str pa_nil)) pa_nil))) pa_nil))) pa_nil))))) (nomark _)))))))), ?_⟩
    refine ⟨fun σ' H' => ∃ y1, σ' = [some (.ref a), y1, none, none, none, none] ∧ LamX.Tabs T H', ?_, ?_⟩
    · refine ⟨.ref a, rfl, a, ns.map V.int, rfl, .inl ha, 2, _, rfl, 1, _, rfl, _, rfl, ?_⟩
      generalize hN : (if (if ((ns.map V.int).length : Int) < 2 then ((ns.map V.int).length : Int) else 2) > 1 then (if ((ns.map V.int).length : Int) < 2 then ((ns.map V.int).length : Int) else 2) else 1) = N
      have N2 : 0 ≤ N ∧ N ≤ 2 := by
        rw [← hN]
        repeat' split
        all_goals omega
      refine ⟨by omega, by omega, ?_⟩
      refine for_range (lo := 0) (n := N.toNat) (fun i σ H2 => ∃ y1, σ = [some (.ref a), y1, none, none, none, none] ∧ LamX.ExtN H H2 ∧ LamX.Tabs T H2) ⟨none, rfl, LamX.ExtN.refl _, hT⟩ (fun i σ H2 hi p => ?_) fun σ H2 p => ?_
      · obtain ⟨y1, rfl, ex, hT2⟩ := p
        have ha2 : SqL K H2 a (ns.map V.int) := by
          rcases ha with (h | ⟨o, h⟩) | h
          · exact .inl (.inl (ex _ _ h (fun ps z => by cases z)))
          · exact .inl (.inr ⟨o, ex _ _ h (fun ps z => by cases z)⟩)
          · exact .inr h
        refine ⟨.ref a, rfl, .int (0 + (i : Int)), rfl, a, ns, 0 + (i : Int), rfl, ha2, hn, by omega, by omega, fun c H3 s3 nc hp3 => ?_⟩
        refine ⟨c, rfl, hp3, hT2.ext s3, fun H' H4 kp e hT' => ?_⟩
        refine ⟨true, rfl, some (.int (0 + (i : Int))), rfl, fun b o hb ht => ?_, hT'⟩
        have h2 := ex b o hb ht
        exact e b o (kp b o (ne_of_none h2 nc) (s3 b o h2)) ht
      · obtain ⟨y1, rfl, _, hT2⟩ := p
        exact ⟨y1, rfl, hT2⟩
    · rintro σ' H1 ⟨y1, rfl, hT1⟩
      refine fun kd nkd => ⟨upd_same, [(.inr cA, .str cF), (.inr cB, .str cF), (.inr cX, .str cN)], rfl, by decide, ?_⟩
      rw [merge_new _ [] (by decide +kernel), List.nil_append]
      have s2 : Same H1 (upd (upd H1 kd (.dK [])) kd (.dK [(.inr cA, .str cF), (.inr cB, .str cF), (.inr cX, .str cN)])) := fun b o e => by
        rw [upd_ne (ne_of_none e nkd), upd_ne (ne_of_none e nkd)]
        exact e
      have ekd : (upd (upd H1 kd (.dK [])) kd (.dK [(.inr cA, .str cF), (.inr cB, .str cF), (.inr cX, .str cN)])) kd = some (.dK (kdV ks3)) := upd_same
      have hT2 := hT1.ext s2
      generalize upd (upd H1 kd (.dK [])) kd (.dK [(.inr cA, .str cF), (.inr cB, .str cF), (.inr cX, .str cN)]) = H2 at s2 ekd hT2 ⊢
      refine ⟨by show 0 ≤ sizeLine; decide, fun e0 n0 => ⟨by show 1 ≤ sizeLine; decide, fun e1 n1 => ⟨by show 1 ≤ sizeLine; decide, fun e2 n2 => ⟨by show 2 ≤ sizeLine; decide, fun e3 n3 => ⟨by show 4 ≤ sizeLine; decide, fun tt ntt => ?_⟩⟩⟩⟩⟩
      refine fun x1 dx1 nx1 ndx1 hne1 => ⟨x1, dx1, .ref tt, .non, tsA, _, rfl, rfl, nx1, ndx1, hne1, (four_tm (t := []) (t2 := [cA]) (t3 := [cB]) (t4 := [cA, cB]) n0 n1 n2 n3 ntt).2, ownA.1, ownA.2.1, .inl rfl, fun G1 us1 pm1 sg1 fm1 => ⟨rfl, ?_⟩⟩
      have sG1 : Same H2 G1 := (four_tm (K := K) (t := []) (t2 := [cA]) (t3 := [cB]) (t4 := [cA, cB]) n0 n1 n2 n3 ntt).1.trans sg1
      refine ⟨by show 2 ≤ sizeLine; decide, fun e4 n4 => ⟨by show 1 ≤ sizeLine; decide, fun tt2 ntt2 => ?_⟩⟩
      refine fun x2 dx2 nx2 ndx2 hne2 => ⟨x2, dx2, .ref tt2, .non, tsB, _, rfl, rfl, nx2, ndx2, hne2, (one_tm (t := [cA, cB]) n4 ntt2).2, ownB.1, ownB.2.1, .inl rfl, fun G2 us2 pm2 sg2 fm2 => ⟨rfl, ?_⟩⟩
      have sG2 : Same G1 G2 := (one_tm (K := K) (t := [cA, cB]) n4 ntt2).1.trans sg2
      refine ⟨.ref x1, .ref x2, rfl, ?_⟩
      have ekd2 : G2 kd = some (.dK (kdV ks3)) := (sG1.trans sG2) _ _ ekd
      have hTG2 := hT2.ext (sG1.trans sG2)
      refine ⟨.ref x1, rfl, .ref x2, rfl, .ref kd, rfl, [], .ref x1, .ref x2, .ref kd, us1, us2, ks3, rfl, Ne.nil _, ⟨fm1.same (dl_same sG2), ownA.2.2 _ pm1⟩, ⟨fm2, ownB.2.2 _ pm2⟩, ⟨kd, rfl, ekd2⟩, ks3_ok, hTG2, fun G3 sa sb ex3 hT3 ia ib => ?_⟩
      rw [decide_eq_true (((ia.perm pm1).one shA).trans ((ib.perm pm2).one shB).symm)]
      have ekd3 : G3 kd = some (.dK (kdV ks3)) := ex3 _ _ ekd2 (fun ps z => by cases z)
      -- Formula((('a',),)), Formula(((), ('a',)))
      refine ⟨by show 1 ≤ sizeLine; decide, fun e5 n5 => ⟨by show 1 ≤ sizeLine; decide, fun t5 nt5 => ?_⟩⟩
      refine fun x3 dx3 nx3 ndx3 hne3 => ⟨x3, dx3, .ref t5, .non, tsC, _, rfl, rfl, nx3, ndx3, hne3, (one_tm (t := [cA]) n5 nt5).2, ownC.1, ownC.2.1, .inl rfl, fun G4 us3 pm3 sg3 fm3 => ⟨rfl, ?_⟩⟩
      have sG4 : Same G3 G4 := (one_tm (K := K) (t := [cA]) n5 nt5).1.trans sg3
      refine ⟨by show 0 ≤ sizeLine; decide, fun e6 n6 => ⟨by show 1 ≤ sizeLine; decide, fun e7 n7 => ⟨by show 2 ≤ sizeLine; decide, fun t6 nt6 => ?_⟩⟩⟩
      refine fun x4 dx4 nx4 ndx4 hne4 => ⟨x4, dx4, .ref t6, .non, tsD, _, rfl, rfl, nx4, ndx4, hne4, (two_tm (t := []) (t2 := [cA]) n6 n7 nt6).2, ownD.1, ownD.2.1, .inl rfl, fun G5 us4 pm4 sg4 fm4 => ⟨rfl, ?_⟩⟩
      have sG5 : Same G4 G5 := (two_tm (K := K) (t := []) (t2 := [cA]) n6 n7 nt6).1.trans sg4
      have ekd5 : G5 kd = some (.dK (kdV ks3)) := (sG4.trans sG5) _ _ ekd3
      refine ⟨.ref kd, rfl, [], .ref x3, .ref x4, .ref kd, us3, us4, ks3, rfl, Ne.nil _, ⟨fm3.same (dl_same sG5), ownC.2.2 _ pm3⟩, ⟨fm4, ownD.2.2 _ pm4⟩, ⟨kd, rfl, ekd5⟩, ks3_ok, hT3.ext (sG4.trans sG5), fun G6 sa2 sb2 ex6 hT6 ia2 ib2 => ?_⟩
      rw [decide_eq_true (((ia2.perm pm3).one shC).trans ((ib2.perm pm4).one shDD).symm)]
      have ekd6 : G6 kd = some (.dK (kdV ks3)) := ex6 _ _ ekd5 (fun ps z => by cases z)
      refine ⟨by show 2 ≤ sizeLine; decide, fun tl ntl => ?_⟩
      have sG7 := up_same (o := .lst [.bl true, .bl true]) ntl
      have etl : upd G6 tl (.lst [.bl true, .bl true]) tl = some (.lst [.bl true, .bl true]) := upd_same
      generalize upd G6 tl (.lst [.bl true, .bl true]) = G7 at sG7 etl ⊢
      have ekd7 := sG7 _ _ ekd6
      have hT7 := hT6.ext sG7
      -- Formula((('x',),)), Formula(((), ('x',)))
      refine ⟨.ref tl, rfl, ?_⟩
      refine ⟨by show 1 ≤ sizeLine; decide, fun e8 n8 => ⟨by show 1 ≤ sizeLine; decide, fun t8 nt8 => ?_⟩⟩
      refine fun x5 dx5 nx5 ndx5 hne5 => ⟨x5, dx5, .ref t8, .non, tsE, _, rfl, rfl, nx5, ndx5, hne5, (one_tm (t := [cX]) n8 nt8).2, ownE.1, ownE.2.1, .inl rfl, fun G8 us5 pm5 sg5 fm5 => ⟨rfl, ?_⟩⟩
      have sG8 : Same G7 G8 := (one_tm (K := K) (t := [cX]) n8 nt8).1.trans sg5
      refine ⟨by show 0 ≤ sizeLine; decide, fun e9 n9 => ⟨by show 1 ≤ sizeLine; decide, fun e10 n10 => ⟨by show 2 ≤ sizeLine; decide, fun t9 nt9 => ?_⟩⟩⟩
      refine fun x6 dx6 nx6 ndx6 hne6 => ⟨x6, dx6, .ref t9, .non, tsF, _, rfl, rfl, nx6, ndx6, hne6, (two_tm (t := []) (t2 := [cX]) n9 n10 nt9).2, ownF.1, ownF.2.1, .inl rfl, fun G9 us6 pm6 sg6 fm6 => ⟨rfl, ?_⟩⟩
      have sG9 : Same G8 G9 := (two_tm (K := K) (t := []) (t2 := [cX]) n9 n10 nt9).1.trans sg6
      have ekd9 : G9 kd = some (.dK (kdV ks3)) := (sG8.trans sG9) _ _ ekd7
      refine ⟨.ref kd, rfl, [], .ref x5, .ref x6, .ref kd, us5, us6, ks3, rfl, Ne.nil _, ⟨fm5.same (dl_same sG9), ownE.2.2 _ pm5⟩, ⟨fm6, ownF.2.2 _ pm6⟩, ⟨kd, rfl, ekd9⟩, ks3_ok, hT7.ext (sG8.trans sG9), fun G10 sa3 sb3 ex10 hT10 ia3 ib3 => ?_⟩
      rw [decide_eq_false (fun h => shEF ((((ia3.perm pm5).one shE).symm.trans h).trans ((ib3.perm pm6).one shF)))]
      have ekd10 : G10 kd = some (.dK (kdV ks3)) := ex10 _ _ ekd9 (fun ps z => by cases z)
      have etl10 : G10 tl = some (.lst [.bl true, .bl true]) := ex10 _ _ ((sG8.trans sG9) _ _ etl) (fun ps z => by cases z)
      -- shadow_of(Formula((('a', 'x'),)))
      refine ⟨by show 2 ≤ sizeLine; decide, fun e11 n11 => ⟨by show 1 ≤ sizeLine; decide, fun t10 nt10 => ?_⟩⟩
      refine fun x7 dx7 nx7 ndx7 hne7 => ⟨x7, dx7, .ref t10, .non, tsG, _, rfl, rfl, nx7, ndx7, hne7, (one_tm (t := [cA, cX]) n11 nt10).2, ownG.1, ownG.2.1, .inl rfl, fun G11 us7 pm7 sg7 fm7 => ⟨rfl, ?_⟩⟩
      have sG11 : Same G10 G11 := (one_tm (K := K) (t := [cA, cX]) n11 nt10).1.trans sg7
      refine ⟨.ref kd, rfl, [], .ref x7, .ref kd, us7, ks3, rfl, Ne.nil _, ⟨fm7, ownG.2.2 _ pm7⟩, ⟨kd, rfl, sG11 _ _ ekd10⟩, ks3_ok, hT10.ext sG11, fun G12 p sh ex12 hT12 is dp => ?_⟩
      have esh : sh = lG := ((is.perm pm7).one shG).trans shG_eq
      subst esh
      have etl12 : G12 tl = some (.lst [.bl true, .bl true]) := ex12 _ _ (sG11 _ _ etl10) (fun ps z => by cases z)
      refine ⟨by show 2 ≤ sizeLine; decide, fun ql nql => ?_⟩
      refine ⟨tl, ql, [.bl true, .bl true], [.bl false, .ref p], rfl, rfl, up_same nql _ _ etl12, upd_same, by show 4 ≤ sizeLine; decide, fun ol nol => ?_⟩
      have eol : (upd (upd G12 ql (.lst [.bl false, .ref p])) ol (.lst [.bl true, .bl true, .bl false, .ref p])) ol = some (.lst [.bl true, .bl true, .bl false, .ref p]) := upd_same
      have dol : Dp K (upd (upd G12 ql (.lst [.bl false, .ref p])) ol (.lst [.bl true, .bl true, .bl false, .ref p])) (.ref ol) (.list [.bool true, .bool true, .bool false, shD lG]) :=
        .lst (.inl (.inl eol)) (.cons (.bl true) (.cons (.bl true) (.cons (.bl false) (.cons (dp_same ((up_same nql).trans (up_same nol)) (dp_le dp)) .nil))))
      refine ⟨.ref ol, rfl, by show 1 ≤ sizeLine; decide, fun a1 m1 => ⟨by show 0 ≤ sizeLine; decide, fun a2 m2 => ⟨by show 2 ≤ sizeLine; decide, fun a3 m3 => ⟨by show 1 ≤ sizeLine; decide, fun a4 m4 => ⟨by show 1 ≤ sizeLine; decide, fun a5 m5 => ⟨by show 2 ≤ sizeLine; decide, fun a6 m6 => ⟨by show 2 ≤ sizeLine; decide, fun a7 m7 => ⟨by show 4 ≤ sizeLine; decide, fun a8 m8 => ?_⟩⟩⟩⟩⟩⟩⟩⟩
      refine ⟨.list [.bool true, .bool true, .bool false, shD lG], .list [.bool true, .bool true, .bool false, shD lG], dp_same ((((((((up_same m1).trans (up_same m2)).trans (up_same m3)).trans (up_same m4)).trans (up_same m5)).trans (up_same m6)).trans (up_same m7)).trans (up_same m8)) dol, ?_, by decide +kernel, by decide +kernel, ?_⟩
      · refine .lst (.inl (.inl upd_same)) (.cons (.bl true) (.cons (.bl true) (.cons (.bl false) (.cons ?_ .nil))))
        refine .tup (.inl (.inl (up_same m8 _ _ upd_same))) (.cons ?_ (.cons ?_ .nil))
        · refine .tup (.inl (.inl (up_same m8 _ _ (up_same m7 _ _ (up_same m6 _ _ (up_same m5 _ _ (up_same m4 _ _ upd_same))))))) (.cons ?_ (.cons ?_ .nil))
          · exact dp_tm_of (t := [cX]) (.inl (.inl (up_same m8 _ _ (up_same m7 _ _ (up_same m6 _ _ (up_same m5 _ _ (up_same m4 _ _ (up_same m3 _ _ (up_same m2 _ _ upd_same)))))))))
          · exact dp_tm_of (t := []) (.inl (.inl (up_same m8 _ _ (up_same m7 _ _ (up_same m6 _ _ (up_same m5 _ _ (up_same m4 _ _ (up_same m3 _ _ upd_same))))))))
        · refine .tup (.inl (.inl (up_same m8 _ _ (up_same m7 _ _ upd_same)))) (.cons ?_ (.cons ?_ .nil))
          · exact dp_tm_of (t := [cX]) (.inl (.inl (up_same m8 _ _ (up_same m7 _ _ (up_same m6 _ _ (up_same m5 _ _ upd_same))))))
          · exact dp_tm_of (t := [cA]) (.inl (.inl (up_same m8 _ _ (up_same m7 _ _ (up_same m6 _ _ upd_same)))))
      · rw [show PyData.eqv (.list [.bool true, .bool true, .bool false, shD lG]) (.list [.bool true, .bool true, .bool false, shD lG]) = true from by decide +kernel]
        exact q _
end
end Kt
/-! the program's top: where the defs stand -/
namespace Kt
open PySem PySem.Spec PyProof.Rows L2
/-- a def of the module stands there as the text says -/
def Df (K : PySem.W.Frag) (x : Str) (st : Stmt) : Prop := ∃ (f : Addr) (oc : Value) (od : Option Addr) (kV dc pm : Value) (an : Option Addr) (cd ct : Value) (sl : Array (Option Value)),
  PySem.W.nsIn K mainGlobals x = some (some (.ref f)) ∧ K.lookup f = some ⟨oc, od, .func (PySem.W.fnOf x x (defArgs st) (defBody st) (defScope st) .none kV dc pm an cd ct), sl⟩ ∧ PySem.W.codeIn K cd x = true ∧ PySem.W.keepIn K (.ref f) = true
structure Dn (K : PySem.W.Frag) (mg : Str → Option Value) (x : Str) (st : Stmt) (ps : List Str) (f : Addr) (fd : FuncData) : Prop where
  fn : Fun K x x st f fd
  kp : PySem.W.keepIn K (.ref f) = true
  bd : Binds K fd ps []
  at_ : mg x = some (.ref f)
theorem dn_of {K : PySem.W.Frag} {h : Heap} {mg : Str → Option Value} {x : Str} {st : Stmt} (X : K.In h) (G : h.Ns mainGlobals mg) (d : Df K x st) (ps : List Str)
    (hb : ∀ (kV doc pm : Value) (an : Option Addr) (cdv ct : Value) (us : List Value), us.length = ps.length → bindArgs (PySem.W.fnOf x x (defArgs st) (defBody st) (defScope st) .none kV doc pm an cdv ct) ⟨us, []⟩ = pure (ps.zip us)) : ∃ f fd, Dn K mg x st ps f fd := by
  obtain ⟨f, oc, od, kV, dc, pm, an, cd, ct, sl, a, l, c, k⟩ := d
  have F := fun_mk (st := st) l c k
  exact ⟨f, _, F, k, F.binds (ps := ps) hb, PySem.W.mg_of X G a⟩
theorem dn_is_run {K : PySem.W.Frag} {h : Heap} {mg : Str → Option Value} (X : K.In h) (G : h.Ns mainGlobals mg) (d : Df K "is_run" (topS 11)) : ∃ f fd, Dn K mg "is_run" (topS 11) ["value"] f fd :=
  dn_of X G d _ fun _ _ _ _ _ _ us hl => match us, hl with | [_], _ => rfl
theorem dn_is_name {K : PySem.W.Frag} {h : Heap} {mg : Str → Option Value} (X : K.In h) (G : h.Ns mainGlobals mg) (d : Df K "is_name" (topS 12)) : ∃ f fd, Dn K mg "is_name" (topS 12) ["value"] f fd :=
  dn_of X G d _ fun _ _ _ _ _ _ us hl => match us, hl with | [_], _ => rfl
theorem dn_is_row_of_names {K : PySem.W.Frag} {h : Heap} {mg : Str → Option Value} (X : K.In h) (G : h.Ns mainGlobals mg) (d : Df K "is_row_of_names" (topS 16)) : ∃ f fd, Dn K mg "is_row_of_names" (topS 16) ["value"] f fd :=
  dn_of X G d _ fun _ _ _ _ _ _ us hl => match us, hl with | [_], _ => rfl
theorem dn_is_term {K : PySem.W.Frag} {h : Heap} {mg : Str → Option Value} (X : K.In h) (G : h.Ns mainGlobals mg) (d : Df K "is_term" (topS 17)) : ∃ f fd, Dn K mg "is_term" (topS 17) ["value"] f fd :=
  dn_of X G d _ fun _ _ _ _ _ _ us hl => match us, hl with | [_], _ => rfl
theorem dn_are_terms {K : PySem.W.Frag} {h : Heap} {mg : Str → Option Value} (X : K.In h) (G : h.Ns mainGlobals mg) (d : Df K "are_terms" (topS 18)) : ∃ f fd, Dn K mg "are_terms" (topS 18) ["value"] f fd :=
  dn_of X G d _ fun _ _ _ _ _ _ us hl => match us, hl with | [_], _ => rfl
theorem dn_names_of {K : PySem.W.Frag} {h : Heap} {mg : Str → Option Value} (X : K.In h) (G : h.Ns mainGlobals mg) (d : Df K "names_of" (topS 19)) : ∃ f fd, Dn K mg "names_of" (topS 19) ["terms"] f fd :=
  dn_of X G d _ fun _ _ _ _ _ _ us hl => match us, hl with | [_], _ => rfl
theorem dn_require_formula {K : PySem.W.Frag} {h : Heap} {mg : Str → Option Value} (X : K.In h) (G : h.Ns mainGlobals mg) (d : Df K "require_formula" (topS 22)) : ∃ f fd, Dn K mg "require_formula" (topS 22) ["value"] f fd :=
  dn_of X G d _ fun _ _ _ _ _ _ us hl => match us, hl with | [_], _ => rfl
theorem dn_are_kinds {K : PySem.W.Frag} {h : Heap} {mg : Str → Option Value} (X : K.In h) (G : h.Ns mainGlobals mg) (d : Df K "are_kinds" (topS 26)) : ∃ f fd, Dn K mg "are_kinds" (topS 26) ["value"] f fd :=
  dn_of X G d _ fun _ _ _ _ _ _ us hl => match us, hl with | [_], _ => rfl
theorem dn_require_kinds {K : PySem.W.Frag} {h : Heap} {mg : Str → Option Value} (X : K.In h) (G : h.Ns mainGlobals mg) (d : Df K "require_kinds" (topS 27)) : ∃ f fd, Dn K mg "require_kinds" (topS 27) ["formulas", "kinds"] f fd :=
  dn_of X G d _ fun _ _ _ _ _ _ us hl => match us, hl with | [_, _], _ => rfl
theorem dn_pair_of {K : PySem.W.Frag} {h : Heap} {mg : Str → Option Value} (X : K.In h) (G : h.Ns mainGlobals mg) (d : Df K "pair_of" (topS 28)) : ∃ f fd, Dn K mg "pair_of" (topS 28) ["term", "kinds"] f fd :=
  dn_of X G d _ fun _ _ _ _ _ _ us hl => match us, hl with | [_, _], _ => rfl
theorem dn_parts_of {K : PySem.W.Frag} {h : Heap} {mg : Str → Option Value} (X : K.In h) (G : h.Ns mainGlobals mg) (d : Df K "parts_of" (topS 29)) : ∃ f fd, Dn K mg "parts_of" (topS 29) ["names"] f fd :=
  dn_of X G d _ fun _ _ _ _ _ _ us hl => match us, hl with | [_], _ => rfl
theorem dn_in_order {K : PySem.W.Frag} {h : Heap} {mg : Str → Option Value} (X : K.In h) (G : h.Ns mainGlobals mg) (d : Df K "in_order" (topS 30)) : ∃ f fd, Dn K mg "in_order" (topS 30) ["pairs"] f fd :=
  dn_of X G d _ fun _ _ _ _ _ _ us hl => match us, hl with | [_], _ => rfl
theorem dn_pairs_in {K : PySem.W.Frag} {h : Heap} {mg : Str → Option Value} (X : K.In h) (G : h.Ns mainGlobals mg) (d : Df K "pairs_in" (topS 31)) : ∃ f fd, Dn K mg "pairs_in" (topS 31) ["terms", "kinds"] f fd :=
  dn_of X G d _ fun _ _ _ _ _ _ us hl => match us, hl with | [_, _], _ => rfl
theorem dn_shadow_of {K : PySem.W.Frag} {h : Heap} {mg : Str → Option Value} (X : K.In h) (G : h.Ns mainGlobals mg) (d : Df K "shadow_of" (topS 32)) : ∃ f fd, Dn K mg "shadow_of" (topS 32) ["formula", "kinds"] f fd :=
  dn_of X G d _ fun _ _ _ _ _ _ us hl => match us, hl with | [_, _], _ => rfl
theorem dn_is_alike {K : PySem.W.Frag} {h : Heap} {mg : Str → Option Value} (X : K.In h) (G : h.Ns mainGlobals mg) (d : Df K "is_alike" (topS 33)) : ∃ f fd, Dn K mg "is_alike" (topS 33) ["one", "other", "kinds"] f fd :=
  dn_of X G d _ fun _ _ _ _ _ _ us hl => match us, hl with | [_, _, _], _ => rfl
theorem dn_law_subsets {K : PySem.W.Frag} {h : Heap} {mg : Str → Option Value} (X : K.In h) (G : h.Ns mainGlobals mg) (d : Df K "_law_subsets" (topS 39)) : ∃ f fd, Dn K mg "_law_subsets" (topS 39) ["_law_names"] f fd :=
  dn_of X G d _ fun _ _ _ _ _ _ us hl => match us, hl with | [_], _ => rfl
theorem dn_law_pair {K : PySem.W.Frag} {h : Heap} {mg : Str → Option Value} (X : K.In h) (G : h.Ns mainGlobals mg) (d : Df K "_law_pair" (topS 40)) : ∃ f fd, Dn K mg "_law_pair" (topS 40) ["_law_term", "_law_kinds"] f fd :=
  dn_of X G d _ fun _ _ _ _ _ _ us hl => match us, hl with | [_, _], _ => rfl
theorem dn_law_shadow {K : PySem.W.Frag} {h : Heap} {mg : Str → Option Value} (X : K.In h) (G : h.Ns mainGlobals mg) (d : Df K "_law_shadow" (topS 41)) : ∃ f fd, Dn K mg "_law_shadow" (topS 41) ["_law_terms_here", "_law_kinds"] f fd :=
  dn_of X G d _ fun _ _ _ _ _ _ us hl => match us, hl with | [_, _], _ => rfl
theorem dn_law_dip {K : PySem.W.Frag} {h : Heap} {mg : Str → Option Value} (X : K.In h) (G : h.Ns mainGlobals mg) (d : Df K "_law_dip" (topS 36)) : ∃ f fd, Dn K mg "_law_dip" (topS 36) ["_law_pot_here", "_law_total"] f fd :=
  dn_of X G d _ fun _ _ _ _ _ _ us hl => match us, hl with | [_, _], _ => rfl
theorem dn_law_pick {K : PySem.W.Frag} {h : Heap} {mg : Str → Option Value} (X : K.In h) (G : h.Ns mainGlobals mg) (d : Df K "_law_pick" (topS 37)) : ∃ f fd, Dn K mg "_law_pick" (topS 37) ["_law_pot_here", "_law_items"] f fd :=
  dn_of X G d _ fun _ _ _ _ _ _ us hl => match us, hl with | [_, _], _ => rfl
theorem dn_law_shaken {K : PySem.W.Frag} {h : Heap} {mg : Str → Option Value} (X : K.In h) (G : h.Ns mainGlobals mg) (d : Df K "_law_shaken" (topS 38)) : ∃ f fd, Dn K mg "_law_shaken" (topS 38) ["_law_pot_here", "_law_items"] f fd :=
  dn_of X G d _ fun _ _ _ _ _ _ us hl => match us, hl with | [_, _], _ => rfl
theorem dn_law_pot {K : PySem.W.Frag} {h : Heap} {mg : Str → Option Value} (X : K.In h) (G : h.Ns mainGlobals mg) (d : Df K "_law_pot" (topS 35)) : ∃ f fd, Dn K mg "_law_pot" (topS 35) ["_law_script", "_law_at"] f fd :=
  dn_of X G d _ fun _ _ _ _ _ _ us hl => match us, hl with | [_, _], _ => rfl
theorem dn_law_terms {K : PySem.W.Frag} {h : Heap} {mg : Str → Option Value} (X : K.In h) (G : h.Ns mainGlobals mg) (d : Df K "_law_terms" (topS 48)) : ∃ f fd, Dn K mg "_law_terms" (topS 48) ["_law_pot_here", "_law_names"] f fd :=
  dn_of X G d _ fun _ _ _ _ _ _ us hl => match us, hl with | [_, _], _ => rfl
theorem dn_law_other {K : PySem.W.Frag} {h : Heap} {mg : Str → Option Value} (X : K.In h) (G : h.Ns mainGlobals mg) (d : Df K "_law_other" (topS 49)) : ∃ f fd, Dn K mg "_law_other" (topS 49) ["_law_pot_here", "_law_terms_here", "_law_names", "_law_kinds"] f fd :=
  dn_of X G d _ fun _ _ _ _ _ _ us hl => match us, hl with | [_, _, _, _], _ => rfl
theorem dn_law_divisor {K : PySem.W.Frag} {h : Heap} {mg : Str → Option Value} (X : K.In h) (G : h.Ns mainGlobals mg) (d : Df K "_law_divisor" (topS 42)) : ∃ f fd, Dn K mg "_law_divisor" (topS 42) ["_law_one", "_law_other_here"] f fd :=
  dn_of X G d _ fun _ _ _ _ _ _ us hl => match us, hl with | [_, _], _ => rfl
theorem dn_law_less {K : PySem.W.Frag} {h : Heap} {mg : Str → Option Value} (X : K.In h) (G : h.Ns mainGlobals mg) (d : Df K "_law_less" (topS 43)) : ∃ f fd, Dn K mg "_law_less" (topS 43) ["_law_row", "_law_base_here"] f fd :=
  dn_of X G d _ fun _ _ _ _ _ _ us hl => match us, hl with | [_, _], _ => rfl
theorem dn_law_base {K : PySem.W.Frag} {h : Heap} {mg : Str → Option Value} (X : K.In h) (G : h.Ns mainGlobals mg) (d : Df K "_law_base" (topS 44)) : ∃ f fd, Dn K mg "_law_base" (topS 44) ["_law_rows_here"] f fd :=
  dn_of X G d _ fun _ _ _ _ _ _ us hl => match us, hl with | [_], _ => rfl
theorem dn_law_longer {K : PySem.W.Frag} {h : Heap} {mg : Str → Option Value} (X : K.In h) (G : h.Ns mainGlobals mg) (d : Df K "_law_longer" (topS 45)) : ∃ f fd, Dn K mg "_law_longer" (topS 45) ["_law_rows_here", "_law_name", "_law_many"] f fd :=
  dn_of X G d _ fun _ _ _ _ _ _ us hl => match us, hl with | [_, _, _], _ => rfl
theorem dn_law_rows {K : PySem.W.Frag} {h : Heap} {mg : Str → Option Value} (X : K.In h) (G : h.Ns mainGlobals mg) (d : Df K "_law_rows" (topS 46)) : ∃ f fd, Dn K mg "_law_rows" (topS 46) ["_law_levels", "_law_numbers"] f fd :=
  dn_of X G d _ fun _ _ _ _ _ _ us hl => match us, hl with | [_, _], _ => rfl
theorem dn_law_columns {K : PySem.W.Frag} {h : Heap} {mg : Str → Option Value} (X : K.In h) (G : h.Ns mainGlobals mg) (d : Df K "_law_columns" (topS 47)) : ∃ f fd, Dn K mg "_law_columns" (topS 47) ["_law_terms_here", "_law_kinds", "_law_levels", "_law_rows_here"] f fd :=
  dn_of X G d _ fun _ _ _ _ _ _ us hl => match us, hl with | [_, _, _, _], _ => rfl
theorem dn_law_right {K : PySem.W.Frag} {h : Heap} {mg : Str → Option Value} (X : K.In h) (G : h.Ns mainGlobals mg) (d : Df K "_law_right" (topS 50)) : ∃ f fd, Dn K mg "_law_right" (topS 50) ["_law_pot_here"] f fd :=
  dn_of X G d _ fun _ _ _ _ _ _ us hl => match us, hl with | [_], _ => rfl
theorem dn_law {K : PySem.W.Frag} {h : Heap} {mg : Str → Option Value} (X : K.In h) (G : h.Ns mainGlobals mg) (d : Df K "law" (topS 51)) : ∃ f fd, Dn K mg "law" (topS 51) ["_law_script"] f fd :=
  dn_of X G d _ fun _ _ _ _ _ _ us hl => match us, hl with | [_], _ => rfl
end Kt
namespace Kt
open PySem PySem.Spec PyProof.Rows L2
section
variable {P : Program} {w : World} {K : PySem.W.Frag} {mg : Str → Option Value} {base h : Heap}
/-- a def at every level from d on -/
def Lv (P : Program) (w : World) (K : PySem.W.Frag) (mg : Str → Option Value) (base : Heap) (d : Nat) (x : Str) (ps : List Str) (sp : Sp) : Prop := ∃ f fd, (∀ n, d ≤ n → FnOk P w K mg base CX0 n f fd ps sp) ∧ PySem.W.keepIn K (.ref f) = true ∧ Binds K fd ps [] ∧ mg x = some (.ref f)
theorem Lv.gv {d : Nat} {x : Str} {ps : List Str} {sp : Sp} (l : Lv P w K mg base d x ps sp) (k : Nat) (hk : d ≤ k) : Gv P w K mg base k x ps sp := by
  obtain ⟨f, fd, h1, h2, h3, h4⟩ := l
  exact ⟨f, fd, h1 k hk, h2, h3, h4⟩
theorem up1 {d n : Nat} (h : d + 1 ≤ n) : ∃ j, n = j + 1 ∧ d ≤ j := ⟨n - 1, by omega, by omega⟩
theorem lv_dip (X : K.In h) (G : h.Ns mainGlobals mg) (M : Mg K mg) (d : Df K "_law_dip" (topS 36)) : Lv P w K mg base 1 "_law_dip" ["_law_pot_here", "_law_total"] spDip := by
  obtain ⟨f, fd, D⟩ := dn_law_dip X G d
  refine ⟨f, fd, fun n hn => ?_, D.kp, D.bd, D.at_⟩
  obtain ⟨j, rfl, _⟩ := up1 (d := 0) hn
  exact ok_dip D.fn M
theorem lv_pot (X : K.In h) (G : h.Ns mainGlobals mg) (M : Mg K mg) (d : Df K "_law_pot" (topS 35)) : Lv P w K mg base 1 "_law_pot" ["_law_script", "_law_at"] (spPot K) := by
  obtain ⟨f, fd, D⟩ := dn_law_pot X G d
  refine ⟨f, fd, fun n hn => ?_, D.kp, D.bd, D.at_⟩
  obtain ⟨j, rfl, _⟩ := up1 (d := 0) hn
  exact ok_pot D.fn M
theorem lv_pick (X : K.In h) (G : h.Ns mainGlobals mg) (M : Mg K mg) (d : Df K "_law_pick" (topS 37)) (l1 : Lv P w K mg base 1 "_law_dip" ["_law_pot_here", "_law_total"] spDip) : Lv P w K mg base 2 "_law_pick" ["_law_pot_here", "_law_items"] (spPick K) := by
  obtain ⟨f, fd, D⟩ := dn_law_pick X G d
  obtain ⟨f1, fd1, a1, b1, c1, e1⟩ := l1
  refine ⟨f, fd, fun n hn => ?_, D.kp, D.bd, D.at_⟩
  obtain ⟨j, rfl, hj⟩ := up1 (d := 1) hn
  exact ok_pick D.fn M (a1 j hj) b1 c1 e1
theorem lv_shaken (X : K.In h) (G : h.Ns mainGlobals mg) (M : Mg K mg) (d : Df K "_law_shaken" (topS 38)) (l0 : Lv P w K mg base 1 "_law_dip" ["_law_pot_here", "_law_total"] spDip) : Lv P w K mg base 2 "_law_shaken" ["_law_pot_here", "_law_items"] (spShake K) := by
  obtain ⟨f, fd, D⟩ := dn_law_shaken X G d
  obtain ⟨f0, fd0, a0, b0, c0, e0⟩ := l0
  refine ⟨f, fd, fun n hn => ?_, D.kp, D.bd, D.at_⟩
  obtain ⟨j, rfl, hj⟩ := up1 (d := 1) hn
  exact ok_shake D.fn M  (a0 j (by omega)) b0 c0 e0
theorem lv_subsets (X : K.In h) (G : h.Ns mainGlobals mg) (M : Mg K mg) (d : Df K "_law_subsets" (topS 39)) : Lv P w K mg base 1 "_law_subsets" ["_law_names"] (spSub K) := by
  obtain ⟨f, fd, D⟩ := dn_law_subsets X G d
  refine ⟨f, fd, fun n hn => ?_, D.kp, D.bd, D.at_⟩
  obtain ⟨j, rfl, hj⟩ := up1 (d := 0) hn
  exact ok_sub D.fn M  
theorem lv_pair (X : K.In h) (G : h.Ns mainGlobals mg) (M : Mg K mg) (d : Df K "_law_pair" (topS 40)) : Lv P w K mg base 1 "_law_pair" ["_law_term", "_law_kinds"] (spPair K) := by
  obtain ⟨f, fd, D⟩ := dn_law_pair X G d
  refine ⟨f, fd, fun n hn => ?_, D.kp, D.bd, D.at_⟩
  obtain ⟨j, rfl, hj⟩ := up1 (d := 0) hn
  exact ok_lpair D.fn M  
theorem lv_shadow (X : K.In h) (G : h.Ns mainGlobals mg) (M : Mg K mg) (d : Df K "_law_shadow" (topS 41)) (l0 : Lv P w K mg base 1 "_law_pair" ["_law_term", "_law_kinds"] (spPair K)) (l1 : Lv P w K mg base 1 "_law_subsets" ["_law_names"] (spSub K)) : Lv P w K mg base 2 "_law_shadow" ["_law_terms_here", "_law_kinds"] (spLSh K) := by
  obtain ⟨f, fd, D⟩ := dn_law_shadow X G d
  obtain ⟨f0, fd0, a0, b0, c0, e0⟩ := l0
  obtain ⟨f1, fd1, a1, b1, c1, e1⟩ := l1
  refine ⟨f, fd, fun n hn => ?_, D.kp, D.bd, D.at_⟩
  obtain ⟨j, rfl, hj⟩ := up1 (d := 1) hn
  exact ok_lsh D.fn M  (a0 j (by omega)) b0 c0 e0 (a1 j (by omega)) b1 c1 e1
theorem lv_divisor (X : K.In h) (G : h.Ns mainGlobals mg) (M : Mg K mg) (d : Df K "_law_divisor" (topS 42)) : Lv P w K mg base 1 "_law_divisor" ["_law_one", "_law_other_here"] (spDiv) := by
  obtain ⟨f, fd, D⟩ := dn_law_divisor X G d
  refine ⟨f, fd, fun n hn => ?_, D.kp, D.bd, D.at_⟩
  obtain ⟨j, rfl, hj⟩ := up1 (d := 0) hn
  exact ok_div D.fn M  
theorem lv_less (X : K.In h) (G : h.Ns mainGlobals mg) (M : Mg K mg) (hS : base.NoSeer) (hT : P.given.tree = none) (d : Df K "_law_less" (topS 43)) (l0 : Lv P w K mg base 1 "_law_divisor" ["_law_one", "_law_other_here"] (spDiv)) : Lv P w K mg base 36 "_law_less" ["_law_row", "_law_base_here"] (spLess K) := by
  obtain ⟨f, fd, D⟩ := dn_law_less X G d
  obtain ⟨f0, fd0, a0, b0, c0, e0⟩ := l0
  refine ⟨f, fd, fun n hn => ?_, D.kp, D.bd, D.at_⟩
  obtain ⟨j, rfl, hj⟩ := up1 (d := 35) hn
  exact ok_less D.fn M hS hT (by omega) (a0 j (by omega)) b0 c0 e0
theorem lv_base (X : K.In h) (G : h.Ns mainGlobals mg) (M : Mg K mg) (d : Df K "_law_base" (topS 44)) (l0 : Lv P w K mg base 36 "_law_less" ["_law_row", "_law_base_here"] (spLess K)) : Lv P w K mg base 37 "_law_base" ["_law_rows_here"] (spBase K) := by
  obtain ⟨f, fd, D⟩ := dn_law_base X G d
  obtain ⟨f0, fd0, a0, b0, c0, e0⟩ := l0
  refine ⟨f, fd, fun n hn => ?_, D.kp, D.bd, D.at_⟩
  obtain ⟨j, rfl, hj⟩ := up1 (d := 36) hn
  exact ok_base D.fn M  (a0 j (by omega)) b0 c0 e0
theorem lv_longer (X : K.In h) (G : h.Ns mainGlobals mg) (M : Mg K mg) (d : Df K "_law_longer" (topS 45)) : Lv P w K mg base 1 "_law_longer" ["_law_rows_here", "_law_name", "_law_many"] (spLonger K) := by
  obtain ⟨f, fd, D⟩ := dn_law_longer X G d
  refine ⟨f, fd, fun n hn => ?_, D.kp, D.bd, D.at_⟩
  obtain ⟨j, rfl, hj⟩ := up1 (d := 0) hn
  exact ok_longer D.fn M  
theorem lv_rows (X : K.In h) (G : h.Ns mainGlobals mg) (M : Mg K mg) (d : Df K "_law_rows" (topS 46)) (l0 : Lv P w K mg base 1 "_law_longer" ["_law_rows_here", "_law_name", "_law_many"] (spLonger K)) : Lv P w K mg base 2 "_law_rows" ["_law_levels", "_law_numbers"] (spRows K) := by
  obtain ⟨f, fd, D⟩ := dn_law_rows X G d
  obtain ⟨f0, fd0, a0, b0, c0, e0⟩ := l0
  refine ⟨f, fd, fun n hn => ?_, D.kp, D.bd, D.at_⟩
  obtain ⟨j, rfl, hj⟩ := up1 (d := 1) hn
  exact ok_rows D.fn M  (a0 j (by omega)) b0 c0 e0
theorem lv_columns (X : K.In h) (G : h.Ns mainGlobals mg) (M : Mg K mg) (d : Df K "_law_columns" (topS 47)) (l0 : Lv P w K mg base 1 "_law_pair" ["_law_term", "_law_kinds"] (spPair K)) (l1 : Lv P w K mg base 1 "_law_longer" ["_law_rows_here", "_law_name", "_law_many"] (spLonger K)) : Lv P w K mg base 2 "_law_columns" ["_law_terms_here", "_law_kinds", "_law_levels", "_law_rows_here"] (spCols K) := by
  obtain ⟨f, fd, D⟩ := dn_law_columns X G d
  obtain ⟨f0, fd0, a0, b0, c0, e0⟩ := l0
  obtain ⟨f1, fd1, a1, b1, c1, e1⟩ := l1
  refine ⟨f, fd, fun n hn => ?_, D.kp, D.bd, D.at_⟩
  obtain ⟨j, rfl, hj⟩ := up1 (d := 1) hn
  exact ok_cols D.fn M  (a0 j (by omega)) b0 c0 e0 (a1 j (by omega)) b1 c1 e1
theorem lv_terms (X : K.In h) (G : h.Ns mainGlobals mg) (M : Mg K mg) (d : Df K "_law_terms" (topS 48)) (l0 : Lv P w K mg base 1 "_law_dip" ["_law_pot_here", "_law_total"] spDip) (l1 : Lv P w K mg base 2 "_law_shaken" ["_law_pot_here", "_law_items"] (spShake K)) : Lv P w K mg base 3 "_law_terms" ["_law_pot_here", "_law_names"] (spLTerms K) := by
  obtain ⟨f, fd, D⟩ := dn_law_terms X G d
  obtain ⟨f0, fd0, a0, b0, c0, e0⟩ := l0
  obtain ⟨f1, fd1, a1, b1, c1, e1⟩ := l1
  refine ⟨f, fd, fun n hn => ?_, D.kp, D.bd, D.at_⟩
  obtain ⟨j, rfl, hj⟩ := up1 (d := 2) hn
  exact ok_lterms D.fn M  (a0 j (by omega)) b0 c0 e0 (a1 j (by omega)) b1 c1 e1
theorem lv_other (X : K.In h) (G : h.Ns mainGlobals mg) (M : Mg K mg) (d : Df K "_law_other" (topS 49)) (l0 : Lv P w K mg base 1 "_law_dip" ["_law_pot_here", "_law_total"] spDip) (l1 : Lv P w K mg base 2 "_law_shaken" ["_law_pot_here", "_law_items"] (spShake K)) (l2 : Lv P w K mg base 3 "_law_terms" ["_law_pot_here", "_law_names"] (spLTerms K)) (l3 : Lv P w K mg base 2 "_law_pick" ["_law_pot_here", "_law_items"] (spPick K)) (l4 : Lv P w K mg base 2 "_law_shadow" ["_law_terms_here", "_law_kinds"] (spLSh K)) : Lv P w K mg base 4 "_law_other" ["_law_pot_here", "_law_terms_here", "_law_names", "_law_kinds"] (spOther K) := by
  obtain ⟨f, fd, D⟩ := dn_law_other X G d
  obtain ⟨f0, fd0, a0, b0, c0, e0⟩ := l0
  obtain ⟨f1, fd1, a1, b1, c1, e1⟩ := l1
  obtain ⟨f2, fd2, a2, b2, c2, e2⟩ := l2
  obtain ⟨f3, fd3, a3, b3, c3, e3⟩ := l3
  obtain ⟨f4, fd4, a4, b4, c4, e4⟩ := l4
  refine ⟨f, fd, fun n hn => ?_, D.kp, D.bd, D.at_⟩
  obtain ⟨j, rfl, hj⟩ := up1 (d := 3) hn
  exact ok_other D.fn M  (a0 j (by omega)) b0 c0 e0 (a1 j (by omega)) b1 c1 e1 (a2 j (by omega)) b2 c2 e2 (a3 j (by omega)) b3 c3 e3 (a4 j (by omega)) b4 c4 e4
theorem lv_name (X : K.In h) (G : h.Ns mainGlobals mg) (M : Mg K mg) (dR : Df K "is_run" (topS 11)) (d : Df K "is_name" (topS 12)) : Lv P w K mg base 2 "is_name" ["value"] spName := by
  obtain ⟨fR, fdR, R⟩ := dn_is_run X G dR
  obtain ⟨f, fd, D⟩ := dn_is_name X G d
  refine ⟨f, fd, fun n hn => ?_, D.kp, D.bd, D.at_⟩
  obtain ⟨j, rfl⟩ : ∃ j, n = j + 2 := ⟨n - 2, by omega⟩
  exact ok_name D.fn M R.fn R.bd R.at_
theorem lv_row (X : K.In h) (G : h.Ns mainGlobals mg) (M : Mg K mg) (d : Df K "is_row_of_names" (topS 16)) (l0 : Lv P w K mg base 2 "is_name" ["value"] spName) : Lv P w K mg base 3 "is_row_of_names" ["value"] (spRow K) := by
  obtain ⟨f, fd, D⟩ := dn_is_row_of_names X G d
  obtain ⟨f0, fd0, a0, b0, c0, e0⟩ := l0
  refine ⟨f, fd, fun n hn => ?_, D.kp, D.bd, D.at_⟩
  obtain ⟨j, rfl, hj⟩ := up1 (d := 2) hn
  exact ok_row D.fn M (a0 j hj) b0 c0 e0
theorem lv_term (X : K.In h) (G : h.Ns mainGlobals mg) (M : Mg K mg) (d : Df K "is_term" (topS 17)) (l0 : Lv P w K mg base 3 "is_row_of_names" ["value"] (spRow K)) : Lv P w K mg base 4 "is_term" ["value"] (spRow K) := by
  obtain ⟨f, fd, D⟩ := dn_is_term X G d
  obtain ⟨f0, fd0, a0, b0, c0, e0⟩ := l0
  refine ⟨f, fd, fun n hn => ?_, D.kp, D.bd, D.at_⟩
  obtain ⟨j, rfl, hj⟩ := up1 (d := 3) hn
  exact ok_term D.fn M (a0 j hj) b0 c0 e0
theorem lv_are_terms (X : K.In h) (G : h.Ns mainGlobals mg) (M : Mg K mg) (d : Df K "are_terms" (topS 18)) (l0 : Lv P w K mg base 4 "is_term" ["value"] (spRow K)) : Lv P w K mg base 5 "are_terms" ["value"] (spTms K) := by
  obtain ⟨f, fd, D⟩ := dn_are_terms X G d
  obtain ⟨f0, fd0, a0, b0, c0, e0⟩ := l0
  refine ⟨f, fd, fun n hn => ?_, D.kp, D.bd, D.at_⟩
  obtain ⟨j, rfl, hj⟩ := up1 (d := 4) hn
  exact ok_terms D.fn M (a0 j hj) b0 c0 e0
theorem lv_names_of (X : K.In h) (G : h.Ns mainGlobals mg) (M : Mg K mg) (d : Df K "names_of" (topS 19)) : Lv P w K mg base 1 "names_of" ["terms"] (spNames K) := by
  obtain ⟨f, fd, D⟩ := dn_names_of X G d
  refine ⟨f, fd, fun n hn => ?_, D.kp, D.bd, D.at_⟩
  obtain ⟨j, rfl, hj⟩ := up1 (d := 0) hn
  exact ok_names D.fn M
theorem lv_kinds (X : K.In h) (G : h.Ns mainGlobals mg) (M : Mg K mg) (d : Df K "are_kinds" (topS 26)) (l0 : Lv P w K mg base 2 "is_name" ["value"] spName) : Lv P w K mg base 3 "are_kinds" ["value"] spKinds := by
  obtain ⟨f, fd, D⟩ := dn_are_kinds X G d
  obtain ⟨f0, fd0, a0, b0, c0, e0⟩ := l0
  refine ⟨f, fd, fun n hn => ?_, D.kp, D.bd, D.at_⟩
  obtain ⟨j, rfl, hj⟩ := up1 (d := 2) hn
  exact ok_kinds D.fn M (a0 j hj) b0 c0 e0
theorem lv_pair_of (X : K.In h) (G : h.Ns mainGlobals mg) (M : Mg K mg) (d : Df K "pair_of" (topS 28)) : Lv P w K mg base 1 "pair_of" ["term", "kinds"] (spPair K) := by
  obtain ⟨f, fd, D⟩ := dn_pair_of X G d
  refine ⟨f, fd, fun n hn => ?_, D.kp, D.bd, D.at_⟩
  obtain ⟨j, rfl, hj⟩ := up1 (d := 0) hn
  exact ok_pair D.fn M
theorem lv_parts_of (X : K.In h) (G : h.Ns mainGlobals mg) (M : Mg K mg) (d : Df K "parts_of" (topS 29)) : Lv P w K mg base 1 "parts_of" ["names"] (spParts K) := by
  obtain ⟨f, fd, D⟩ := dn_parts_of X G d
  refine ⟨f, fd, fun n hn => ?_, D.kp, D.bd, D.at_⟩
  obtain ⟨j, rfl, hj⟩ := up1 (d := 0) hn
  exact ok_parts D.fn M
theorem lv_pairs_in {T : List (Addr × Str)} (X : K.In h) (G : h.Ns mainGlobals mg) (M : Mg K mg) (d : Df K "pairs_in" (topS 31)) (l0 : Lv P w K mg base 1 "pair_of" ["term", "kinds"] (spPair K)) (l1 : Lv P w K mg base 1 "parts_of" ["names"] (spParts K)) (l2 : Lv P w K mg base 1 "in_order" ["pairs"] (spIn K T)) :
    Lv P w K mg base 2 "pairs_in" ["terms", "kinds"] (spPairs K T) := by
  obtain ⟨f, fd, D⟩ := dn_pairs_in X G d
  obtain ⟨f0, fd0, a0, b0, c0, e0⟩ := l0
  obtain ⟨f1, fd1, a1, b1, c1, e1⟩ := l1
  obtain ⟨f2, fd2, a2, b2, c2, e2⟩ := l2
  refine ⟨f, fd, fun n hn => ?_, D.kp, D.bd, D.at_⟩
  obtain ⟨j, rfl, hj⟩ := up1 (d := 1) hn
  exact ok_pairs D.fn M (a0 j hj) b0 c0 e0 (a1 j hj) b1 c1 e1 (a2 j hj) b2 c2 e2
theorem lv_require_formula {C : Addr} {iT iR : Nat} (X : K.In h) (G : h.Ns mainGlobals mg) (M : Mg K mg) (c : FmC K C iT iR) (gC : mg "Formula" = some (.ref C)) (hk : PySem.W.kitOne K (.ref C) (.ref C) = some true) (d : Df K "require_formula" (topS 22)) : Lv P w K mg base 1 "require_formula" ["value"] (spReqF K C iT) := by
  obtain ⟨f, fd, D⟩ := dn_require_formula X G d
  refine ⟨f, fd, fun n hn => ?_, D.kp, D.bd, D.at_⟩
  obtain ⟨j, rfl, hj⟩ := up1 (d := 0) hn
  exact ok_reqF D.fn M c gC hk
theorem lv_require_kinds {C pG fG : Addr} {fdG : FuncData} {iT iR : Nat} (X : K.In h) (G : h.Ns mainGlobals mg) (M : Mg K mg) (c : FmC K C iT iR) (d : Df K "require_kinds" (topS 27)) (l0 : Lv P w K mg base 1 "require_formula" ["value"] (spReqF K C iT)) (l1 : Lv P w K mg base 3 "are_kinds" ["value"] spKinds)
    (GG : ∀ n, 2 ≤ n → FnOk P w K mg base CX0 n fG fdG ["self"] (spGetN K C iT)) (bG : Binds K fdG ["self"] []) (pc : PropC K C "names" pG fG) : Lv P w K mg base 5 "require_kinds" ["formulas", "kinds"] (spReqK K C iT) := by
  obtain ⟨f, fd, D⟩ := dn_require_kinds X G d
  obtain ⟨f0, fd0, a0, b0, c0, e0⟩ := l0
  obtain ⟨f1, fd1, a1, b1, c1, e1⟩ := l1
  refine ⟨f, fd, fun n hn => ?_, D.kp, D.bd, D.at_⟩
  obtain ⟨j, rfl⟩ : ∃ j, n = j + 2 := ⟨n - 2, by omega⟩
  exact ok_reqK D.fn M c (a0 j (by omega)) b0 c0 e0 (a1 j (by omega)) b1 c1 e1 (GG j (by omega)) bG pc
theorem lv_shadow_of {C pG fG : Addr} {fdG : FuncData} {iT iR : Nat} {T : List (Addr × Str)} (X : K.In h) (G : h.Ns mainGlobals mg) (M : Mg K mg) (c : FmC K C iT iR) (d : Df K "shadow_of" (topS 32)) (l0 : Lv P w K mg base 5 "require_kinds" ["formulas", "kinds"] (spReqK K C iT)) (l1 : Lv P w K mg base 2 "pairs_in" ["terms", "kinds"] (spPairs K T))
    (GG : ∀ n, 1 ≤ n → FnOk P w K mg base CX0 n fG fdG ["self"] (spGetT K C iT)) (bG : Binds K fdG ["self"] []) (pc : PropC K C "terms" pG fG) : Lv P w K mg base 7 "shadow_of" ["formula", "kinds"] (spShad K C iT T) := by
  obtain ⟨f, fd, D⟩ := dn_shadow_of X G d
  obtain ⟨f0, fd0, a0, b0, c0, e0⟩ := l0
  obtain ⟨f1, fd1, a1, b1, c1, e1⟩ := l1
  refine ⟨f, fd, fun n hn => ?_, D.kp, D.bd, D.at_⟩
  obtain ⟨j, rfl⟩ : ∃ j, n = j + 2 := ⟨n - 2, by omega⟩
  exact ok_shad D.fn M c (a0 j (by omega)) b0 c0 e0 (a1 j (by omega)) b1 c1 e1 (GG j (by omega)) bG pc
theorem lv_is_alike {C pG fG : Addr} {fdG : FuncData} {iT iR : Nat} {T : List (Addr × Str)} (X : K.In h) (G : h.Ns mainGlobals mg) (M : Mg K mg) (c : FmC K C iT iR) (d : Df K "is_alike" (topS 33)) (l0 : Lv P w K mg base 5 "require_kinds" ["formulas", "kinds"] (spReqK K C iT)) (l1 : Lv P w K mg base 2 "pairs_in" ["terms", "kinds"] (spPairs K T))
    (GG : ∀ n, 1 ≤ n → FnOk P w K mg base CX0 n fG fdG ["self"] (spGetT K C iT)) (bG : Binds K fdG ["self"] []) (pc : PropC K C "terms" pG fG) : Lv P w K mg base 7 "is_alike" ["one", "other", "kinds"] (spAlike K C iT T) := by
  obtain ⟨f, fd, D⟩ := dn_is_alike X G d
  obtain ⟨f0, fd0, a0, b0, c0, e0⟩ := l0
  obtain ⟨f1, fd1, a1, b1, c1, e1⟩ := l1
  refine ⟨f, fd, fun n hn => ?_, D.kp, D.bd, D.at_⟩
  obtain ⟨j, rfl⟩ : ∃ j, n = j + 2 := ⟨n - 2, by omega⟩
  exact ok_alike D.fn M c (a0 j (by omega)) b0 c0 e0 (a1 j (by omega)) b1 c1 e1 (GG j (by omega)) bG pc
/-- in_order, with its code object -/
def DfC (K : PySem.W.Frag) (cT : Addr) : Prop := ∃ (f : Addr) (oc : Value) (od : Option Addr) (kV dc pm : Value) (an : Option Addr) (ct : Value) (sl : Array (Option Value)),
  PySem.W.nsIn K mainGlobals "in_order" = some (some (.ref f)) ∧ K.lookup f = some ⟨oc, od, .func (PySem.W.fnOf "in_order" "in_order" (defArgs (topS 30)) (defBody (topS 30)) (defScope (topS 30)) .none kV dc pm an (.ref cT) ct), sl⟩ ∧ PySem.W.codeIn K (.ref cT) "in_order" = true ∧ PySem.W.keepIn K (.ref f) = true
theorem lv_in_order {cT PT : Addr} (X : K.In h) (G : h.Ns mainGlobals mg) (M : Mg K mg) (TB : LamX.TabB base mg cT PT) (d : DfC K cT) : Lv P w K mg base 1 "in_order" ["pairs"] (spIn K [(PT, "in_order.<locals>.<lambda>")]) := by
  obtain ⟨f, oc, od, kV, dc, pm, an, ct, sl, a, l, c, k⟩ := d
  have F := fun_mk (st := topS 30) l c k
  refine ⟨f, _, fun n hn => ?_, k, F.binds (ps := ["pairs"]) fun _ _ _ _ _ _ us hl => match us, hl with | [_], _ => rfl, PySem.W.mg_of X G a⟩
  obtain ⟨j, rfl, hj⟩ := up1 (d := 0) hn
  refine ok_in F M TB (fun oc' dV' kV' doc' pm' an' cdv' ct' osl' od' e _ => ?_) (by simp) (fun p hp _ => by rw [List.mem_singleton.1 hp])
  have e2 := congrArg (fun z : FuncData => z.code) e
  exact e2.symm
end
end Kt
/-! the class's facts, the last levels, the end -/
namespace Kt
open PySem PySem.Spec PyProof.Rows L2
section
variable {P : Program} {w : World} {K : PySem.W.Frag} {mg : Str → Option Value} {base h : Heap}
/-- the class, where it stands -/
structure Fm (K : PySem.W.Frag) (mg : Str → Option Value) (C fI fT fN pT pN : Addr) (fdI fdT fdN : FuncData) (iT iR : Nat) : Prop where
  c : FmC K C iT iR
  gC : mg "Formula" = some (.ref C)
  kit : PySem.W.kitOne K (.ref C) (.ref C) = some true
  init : FunD K "__init__" "Formula.__init__" (defArgs (fmS 1)) (defBody (fmS 1)) (defScope (fmS 1)) [] [("response", .non)] fI fdI
  mkC : Mk K C fI
  fT_ : Fun K "terms" "Formula.terms" (fmS 2) fT fdT
  fN_ : Fun K "names" "Formula.names" (fmS 4) fN fdN
  bT : Binds K fdT ["self"] []
  bN : Binds K fdN ["self"] []
  pT : PropC K C "terms" pT fT
  pN : PropC K C "names" pN fN
theorem init_b1 {fI : Addr} {fdI : FuncData} (F : FunD K "__init__" "Formula.__init__" (defArgs (fmS 1)) (defBody (fmS 1)) (defScope (fmS 1)) [] [("response", .non)] fI fdI) : ∃ ds, Vals [V.non] ds ∧ Binds K fdI ["self", "terms", "response"] ds :=
  F.binds0 (ps := ["self", "terms", "response"]) 2 (by simp) rfl fun D doc pm an cdv ct us ks h1 h2 => match us, h1, ks, h2 with | [_, _], _, [_], _ => ⟨_, _, _, _, _, _, rfl, rfl, rfl⟩
theorem init_b2 {fI : Addr} {fdI : FuncData} (F : FunD K "__init__" "Formula.__init__" (defArgs (fmS 1)) (defBody (fmS 1)) (defScope (fmS 1)) [] [("response", .non)] fI fdI) : KBn K fdI ["self", "terms", "response"] 2 ["response"] (fun us ws => us ++ ws) (fun vs zs => vs ++ zs) := by
  have hb := F.kbinds0 (ps := ["self", "terms", "response"]) 2 ["response"] [] (fun us _ ws => us ++ ws) (by simp) (fun q hq => by cases hq) (fun r1 _ r3 => r1.append r3) fun D doc pm an cdv ct us mv ws h1 h2 h3 => match us, h1, mv, h2, ws, h3 with | [_, _], _, [], _, [_], _ => rfl
  exact hb.elim fun _ z => z
/-- the defs, where they stand -/
structure Defs (K : PySem.W.Frag) (cT : Addr) : Prop where
  d11 : Df K "is_run" (topS 11)
  d12 : Df K "is_name" (topS 12)
  d16 : Df K "is_row_of_names" (topS 16)
  d17 : Df K "is_term" (topS 17)
  d18 : Df K "are_terms" (topS 18)
  d19 : Df K "names_of" (topS 19)
  d22 : Df K "require_formula" (topS 22)
  d26 : Df K "are_kinds" (topS 26)
  d27 : Df K "require_kinds" (topS 27)
  d28 : Df K "pair_of" (topS 28)
  d29 : Df K "parts_of" (topS 29)
  d31 : Df K "pairs_in" (topS 31)
  d32 : Df K "shadow_of" (topS 32)
  d33 : Df K "is_alike" (topS 33)
  d35 : Df K "_law_pot" (topS 35)
  d36 : Df K "_law_dip" (topS 36)
  d37 : Df K "_law_pick" (topS 37)
  d38 : Df K "_law_shaken" (topS 38)
  d39 : Df K "_law_subsets" (topS 39)
  d40 : Df K "_law_pair" (topS 40)
  d41 : Df K "_law_shadow" (topS 41)
  d42 : Df K "_law_divisor" (topS 42)
  d43 : Df K "_law_less" (topS 43)
  d44 : Df K "_law_base" (topS 44)
  d45 : Df K "_law_longer" (topS 45)
  d46 : Df K "_law_rows" (topS 46)
  d47 : Df K "_law_columns" (topS 47)
  d48 : Df K "_law_terms" (topS 48)
  d49 : Df K "_law_other" (topS 49)
  d50 : Df K "_law_right" (topS 50)
  d51 : Df K "law" (topS 51)
  d30 : DfC K cT
/-- the names that the top leaves alone, and its constants -/
structure Cons (K : PySem.W.Frag) : Prop where
  len : PySem.W.nsIn K mainGlobals "len" = some none
  tuple : PySem.W.nsIn K mainGlobals "tuple" = some none
  list : PySem.W.nsIn K mainGlobals "list" = some none
  set : PySem.W.nsIn K mainGlobals "set" = some none
  dict : PySem.W.nsIn K mainGlobals "dict" = some none
  zip : PySem.W.nsIn K mainGlobals "zip" = some none
  enumerate : PySem.W.nsIn K mainGlobals "enumerate" = some none
  range : PySem.W.nsIn K mainGlobals "range" = some none
  max : PySem.W.nsIn K mainGlobals "max" = some none
  min : PySem.W.nsIn K mainGlobals "min" = some none
  abs : PySem.W.nsIn K mainGlobals "abs" = some none
  int : PySem.W.nsIn K mainGlobals "int" = some none
  str : PySem.W.nsIn K mainGlobals "str" = some none
  isi : PySem.W.nsIn K mainGlobals "isinstance" = some none
  all : PySem.W.nsIn K mainGlobals "all" = some none
  sorted : PySem.W.nsIn K mainGlobals "sorted" = some none
  lets : ∃ t, PySem.W.nsIn K mainGlobals "LETTERS" = some (some (.str cLet t))
  digs : ∃ t, PySem.W.nsIn K mainGlobals "DIGITS" = some (some (.str cDig t))
  most : ∃ t, PySem.W.nsIn K mainGlobals "MOST_NAME" = some (some (.int 8 t))
  mnames : ∃ t, PySem.W.nsIn K mainGlobals "MAX_NAMES" = some (some (.int 9 t))
  mterms : ∃ t, PySem.W.nsIn K mainGlobals "MAX_TERMS" = some (some (.int 200 t))
  factor : ∃ t, PySem.W.nsIn K mainGlobals "FACTOR" = some (some (.str "factor" t))
  number : ∃ t, PySem.W.nsIn K mainGlobals "NUMBER" = some (some (.str "number" t))
  res : ∃ (a : Addr) (n : Nat) (t0 t1 t2 t3 t4 t5 t6 t7 : Tok) (sl : Array (Option Value)), PySem.W.nsIn K mainGlobals "RESERVED" = some (some (.ref a)) ∧ K.lookup a = some ⟨.type "tuple", none, .seq #[.str "else" t0, .str "fun" t1, .str "if" t2, .str "in" t3, .str "stop" t4, .str "text" t5, .str "try" t6, .str "with" t7] n, sl⟩
theorem df_mk {x : Str} {st : Stmt} {f : Addr} {oc : Value} {od : Option Addr} {kV dc pm : Value} {an : Option Addr} {cd ct : Value} {sl : Array (Option Value)} (a : PySem.W.nsIn K mainGlobals x = some (some (.ref f))) (l : K.lookup f = some ⟨oc, od, .func (PySem.W.fnOf x x (defArgs st) (defBody st) (defScope st) .none kV dc pm an cd ct), sl⟩) (c : PySem.W.codeIn K cd x = true) (k : PySem.W.keepIn K (.ref f) = true) : Df K x st := ⟨f, oc, od, kV, dc, pm, an, cd, ct, sl, a, l, c, k⟩
theorem dfc_mk {cT : Addr} {f : Addr} {oc : Value} {od : Option Addr} {kV dc pm : Value} {an : Option Addr} {ct : Value} {sl : Array (Option Value)} (a : PySem.W.nsIn K mainGlobals "in_order" = some (some (.ref f))) (l : K.lookup f = some ⟨oc, od, .func (PySem.W.fnOf "in_order" "in_order" (defArgs (topS 30)) (defBody (topS 30)) (defScope (topS 30)) .none kV dc pm an (.ref cT) ct), sl⟩) (c : PySem.W.codeIn K (.ref cT) "in_order" = true) (k : PySem.W.keepIn K (.ref f) = true) : DfC K cT := ⟨f, oc, od, kV, dc, pm, an, ct, sl, a, l, c, k⟩
theorem cons_mk {a : Addr} {n : Nat} {t0 t1 t2 t3 t4 t5 t6 t7 u_lets u_digs u_most u_mnames u_mterms u_factor u_number : Tok} {sl : Array (Option Value)} (h_len : PySem.W.nsIn K mainGlobals "len" = some none) (h_tuple : PySem.W.nsIn K mainGlobals "tuple" = some none) (h_list : PySem.W.nsIn K mainGlobals "list" = some none) (h_set : PySem.W.nsIn K mainGlobals "set" = some none) (h_dict : PySem.W.nsIn K mainGlobals "dict" = some none) (h_zip : PySem.W.nsIn K mainGlobals "zip" = some none) (h_enumerate : PySem.W.nsIn K mainGlobals "enumerate" = some none) (h_range : PySem.W.nsIn K mainGlobals "range" = some none) (h_max : PySem.W.nsIn K mainGlobals "max" = some none) (h_min : PySem.W.nsIn K mainGlobals "min" = some none) (h_abs : PySem.W.nsIn K mainGlobals "abs" = some none) (h_int : PySem.W.nsIn K mainGlobals "int" = some none) (h_str : PySem.W.nsIn K mainGlobals "str" = some none) (h_isi : PySem.W.nsIn K mainGlobals "isinstance" = some none) (h_all : PySem.W.nsIn K mainGlobals "all" = some none) (h_sorted : PySem.W.nsIn K mainGlobals "sorted" = some none) (h_lets : PySem.W.nsIn K mainGlobals "LETTERS" = some (some (.str cLet u_lets))) (h_digs : PySem.W.nsIn K mainGlobals "DIGITS" = some (some (.str cDig u_digs))) (h_most : PySem.W.nsIn K mainGlobals "MOST_NAME" = some (some (.int 8 u_most))) (h_mnames : PySem.W.nsIn K mainGlobals "MAX_NAMES" = some (some (.int 9 u_mnames))) (h_mterms : PySem.W.nsIn K mainGlobals "MAX_TERMS" = some (some (.int 200 u_mterms))) (h_factor : PySem.W.nsIn K mainGlobals "FACTOR" = some (some (.str "factor" u_factor))) (h_number : PySem.W.nsIn K mainGlobals "NUMBER" = some (some (.str "number" u_number))) (ra : PySem.W.nsIn K mainGlobals "RESERVED" = some (some (.ref a))) (rl : K.lookup a = some ⟨.type "tuple", none, .seq #[.str "else" t0, .str "fun" t1, .str "if" t2, .str "in" t3, .str "stop" t4, .str "text" t5, .str "try" t6, .str "with" t7] n, sl⟩) : Cons K :=
  ⟨h_len, h_tuple, h_list, h_set, h_dict, h_zip, h_enumerate, h_range, h_max, h_min, h_abs, h_int, h_str, h_isi, h_all, h_sorted, ⟨_, h_lets⟩, ⟨_, h_digs⟩, ⟨_, h_most⟩, ⟨_, h_mnames⟩, ⟨_, h_mterms⟩, ⟨_, h_factor⟩, ⟨_, h_number⟩, ⟨_, _, _, _, _, _, _, _, _, _, _, ra, rl⟩⟩
theorem mg_cons (c : Cons K) (X : K.In h) (G : h.Ns mainGlobals mg) : Mg K mg := by
  obtain ⟨a, n, t0, t1, t2, t3, t4, t5, t6, t7, sl, r1, r2⟩ := c.res
  obtain ⟨t_lets, e_lets⟩ := c.lets
  obtain ⟨t_digs, e_digs⟩ := c.digs
  obtain ⟨t_most, e_most⟩ := c.most
  obtain ⟨t_mnames, e_mnames⟩ := c.mnames
  obtain ⟨t_mterms, e_mterms⟩ := c.mterms
  obtain ⟨t_factor, e_factor⟩ := c.factor
  obtain ⟨t_number, e_number⟩ := c.number
  refine ⟨PySem.W.mg_none_of X G c.len, PySem.W.mg_none_of X G c.tuple, PySem.W.mg_none_of X G c.list, PySem.W.mg_none_of X G c.set, PySem.W.mg_none_of X G c.dict, PySem.W.mg_none_of X G c.zip, PySem.W.mg_none_of X G c.enumerate, PySem.W.mg_none_of X G c.range, PySem.W.mg_none_of X G c.max, PySem.W.mg_none_of X G c.min, PySem.W.mg_none_of X G c.abs, PySem.W.mg_none_of X G c.int, PySem.W.mg_none_of X G c.str, PySem.W.mg_none_of X G c.isi, PySem.W.mg_none_of X G c.all, PySem.W.mg_none_of X G c.sorted, ⟨t_lets, PySem.W.mg_of X G e_lets⟩, ⟨t_digs, PySem.W.mg_of X G e_digs⟩, ⟨t_most, PySem.W.mg_of X G e_most⟩, ⟨t_mnames, PySem.W.mg_of X G e_mnames⟩, ⟨t_mterms, PySem.W.mg_of X G e_mterms⟩, ⟨t_factor, PySem.W.mg_of X G e_factor⟩, ⟨t_number, PySem.W.mg_of X G e_number⟩, a, PySem.W.mg_of X G r1, fun H => .inr ⟨_, _, _, r2, rfl, rfl, by rw [sizeLine_eq]; exact (by decide : 8 ≤ 16777216), ?_⟩⟩
  exact (.cons ⟨_, rfl⟩ (.cons ⟨_, rfl⟩ (.cons ⟨_, rfl⟩ (.cons ⟨_, rfl⟩ (.cons ⟨_, rfl⟩ (.cons ⟨_, rfl⟩ (.cons ⟨_, rfl⟩ (.cons ⟨_, rfl⟩ .nil))))))))
/-- the class's facts from what stands written -/
theorem fm_mk {C fI fT fN pT pN sT sR DK : Addr} {iT iR : Nat} (X : K.In h) (G : h.Ns mainGlobals mg) {odI anI odT anT odN anN : Option Addr} {slI slT slN : Array (Option Value)} {ocI dcI pmI cdI ctI ocT kVT dcT pmT cdT ctT ocN kVN dcN pmN cdN ctN : Value} {rT rN : List Value}
    (gC : PySem.W.nsIn K mainGlobals "Formula" = some (some (.ref C))) (pg : PySem.W.plainGet K C Str.empty = true) (ic : PySem.W.isClsIn K C = true) (po : PySem.W.plainOver K C = true) (sa : PySem.W.findIn K (.ref C) "__setattr__" = some (some (.builtin "object.__setattr__")))
    (ca : PySem.W.findIn K (.ref C) "__class__" = some (some (.builtin "object.__class__"))) (cn : PySem.W.specialIn K (.builtin "object.__class__") "__get__" = some (some (.builtin "getset_descriptor.__get__"))) (ct : PySem.W.takesIn K (.builtin "object.__class__") = some true) (cm : PySem.W.mroIn K C (.type "object") = some true)
    (t1 : PySem.W.findIn K (.ref C) "own_terms" = some (some (.ref sT))) (t2 : PySem.W.specialIn K (.ref sT) "__get__" = some (some (.builtin "member_descriptor.__get__"))) (t3 : PySem.W.takesIn K (.ref sT) = some true) (t4 : PySem.W.typeIn K (.ref sT) = some (.type "member_descriptor")) (t5 : PySem.W.slotIn K sT C = some iT) (t6 : iT < 1000)
    (r1 : PySem.W.findIn K (.ref C) "own_response" = some (some (.ref sR))) (r2 : PySem.W.specialIn K (.ref sR) "__get__" = some (some (.builtin "member_descriptor.__get__"))) (r3 : PySem.W.takesIn K (.ref sR) = some true) (r4 : PySem.W.typeIn K (.ref sR) = some (.type "member_descriptor")) (r5 : PySem.W.slotIn K sR C = some iR) (r6 : iR < 1000) (ne : iT ≠ iR)
    (m1 : PySem.W.makesIn K C = true) (m2 : PySem.W.findIn K (.ref C) "__init__" = some (some (.ref fI))) (m3 : PySem.W.isFn K (.ref fI) = true) (m4 : PySem.W.keepIn K (.ref C) = true)
    (i1 : K.lookup fI = some ⟨ocI, odI, .func (PySem.W.fnOf "__init__" "Formula.__init__" (defArgs (fmS 1)) (defBody (fmS 1)) (defScope (fmS 1)) .none (.ref DK) dcI pmI anI cdI ctI), slI⟩) (i2 : PySem.W.codeIn K cdI "Formula.__init__" = true) (i3 : PySem.W.nsIn K DK "response" = some (some .none)) (i4 : PySem.W.keepIn K (.ref fI) = true)
    (p1 : PySem.W.findIn K (.ref C) "terms" = some (some (.ref pT))) (p2 : PySem.W.specialIn K (.ref pT) "__get__" = some (some (.builtin "property.__get__"))) (p3 : PySem.W.takesIn K (.ref pT) = some true) (p4 : PySem.W.recIn K pT "property" = some (.ref fT :: rT))
    (p5 : K.lookup fT = some ⟨ocT, odT, .func (PySem.W.fnOf "terms" "Formula.terms" (defArgs (fmS 2)) (defBody (fmS 2)) (defScope (fmS 2)) .none kVT dcT pmT anT cdT ctT), slT⟩) (p6 : PySem.W.codeIn K cdT "Formula.terms" = true) (p7 : PySem.W.keepIn K (.ref fT) = true)
    (n1 : PySem.W.findIn K (.ref C) "names" = some (some (.ref pN))) (n2 : PySem.W.specialIn K (.ref pN) "__get__" = some (some (.builtin "property.__get__"))) (n3 : PySem.W.takesIn K (.ref pN) = some true) (n4 : PySem.W.recIn K pN "property" = some (.ref fN :: rN))
    (n5 : K.lookup fN = some ⟨ocN, odN, .func (PySem.W.fnOf "names" "Formula.names" (defArgs (fmS 4)) (defBody (fmS 4)) (defScope (fmS 4)) .none kVN dcN pmN anN cdN ctN), slN⟩) (n6 : PySem.W.codeIn K cdN "Formula.names" = true) (n7 : PySem.W.keepIn K (.ref fN) = true) :
    ∃ fdI fdT fdN, Fm K mg C fI fT fN pT pN fdI fdT fdN iT iR := by
  have FT := fun_mk (st := fmS 2) p5 p6 p7
  have FN := fun_mk (st := fmS 4) n5 n6 n7
  refine ⟨_, _, _, ⟨⟨⟨pg, ic, po, sa⟩, ⟨ca, cn, ct, cm⟩, ⟨_, t1, t2, t3, t4, t5, t6⟩, ⟨_, r1, r2, r3, r4, r5, r6⟩, ne⟩, PySem.W.mg_of X G gC, ?_, ⟨⟨_, _, _, _, _, _, _, _, _, _, rfl, i1, i2, .inl ⟨rfl, rfl⟩, .inr ⟨_, rfl, fun q hq => ?_⟩⟩, i4⟩, ⟨m1, m2, m3, m4⟩, FT, FN, ?_, ?_, ⟨p1, p2, p3, _, p4⟩, ⟨n1, n2, n3, _, n4⟩⟩⟩
  · unfold PySem.W.kitOne
    exact if_pos (beq_self_eq_true _)
  · rw [List.mem_singleton.1 hq]
    exact ⟨.none, i3, rfl⟩
  · exact FT.binds (ps := ["self"]) fun _ _ _ _ _ _ us hl => match us, hl with | [_], _ => rfl
  · exact FN.binds (ps := ["self"]) fun _ _ _ _ _ _ us hl => match us, hl with | [_], _ => rfl
/-- the law's own def keeps its promise -/
theorem law_all {C fI fT fN pT pN cT PT fa : Addr} {fdI fdT fdN fd : FuncData} {iT iR : Nat} (X : K.In h) (G : h.Ns mainGlobals mg) (M : Mg K mg) (D : Defs K cT) (B : Fm K mg C fI fT fN pT pN fdI fdT fdN iT iR) (TB : LamX.TabB base mg cT PT) (hS : base.NoSeer) (hT : P.given.tree = none)
    (F : Fun K "law" "law" (topS 51) fa fd) : FnOk P w K mg base CX0 41 fa fd ["_law_script"] (spLaw K [(PT, "in_order.<locals>.<lambda>")]) := by
  have dip := lv_dip (P := P) (w := w) (base := base) X G M D.d36
  have pot := lv_pot (P := P) (w := w) (base := base) X G M D.d35
  have pick := lv_pick X G M D.d37 dip
  have shk := lv_shaken X G M D.d38 dip
  have sub := lv_subsets (P := P) (w := w) (base := base) X G M D.d39
  have pr := lv_pair (P := P) (w := w) (base := base) X G M D.d40
  have lsh := lv_shadow X G M D.d41 pr sub
  have dv := lv_divisor (P := P) (w := w) (base := base) X G M D.d42
  have less := lv_less X G M hS hT D.d43 dv
  have bse := lv_base X G M D.d44 less
  have lon := lv_longer (P := P) (w := w) (base := base) X G M D.d45
  have rows := lv_rows X G M D.d46 lon
  have cols := lv_columns X G M D.d47 pr lon
  have trm := lv_terms X G M D.d48 dip shk
  have oth := lv_other X G M D.d49 dip shk trm pick lsh
  have nm := lv_name (P := P) (w := w) (base := base) X G M D.d11 D.d12
  have row := lv_row X G M D.d16 nm
  have ter := lv_term X G M D.d17 row
  have are := lv_are_terms X G M D.d18 ter
  have nof := lv_names_of (P := P) (w := w) (base := base) X G M D.d19
  have knd := lv_kinds X G M D.d26 nm
  have pof := lv_pair_of (P := P) (w := w) (base := base) X G M D.d28
  have part := lv_parts_of (P := P) (w := w) (base := base) X G M D.d29
  have ord := lv_in_order (P := P) (w := w) X G M TB D.d30
  have pin := lv_pairs_in X G M D.d31 pof part ord
  have rqf := lv_require_formula (P := P) (w := w) (base := base) X G M B.c B.gC B.kit D.d22
  have gT : ∀ n, 1 ≤ n → FnOk P w K mg base CX0 n fT fdT ["self"] (spGetT K C iT) := fun n hn => by
    obtain ⟨j, rfl, _⟩ := up1 (d := 0) hn
    exact ok_getT B.fT_ B.c
  have gN : ∀ n, 2 ≤ n → FnOk P w K mg base CX0 n fN fdN ["self"] (spGetN K C iT) := fun n hn => by
    obtain ⟨j, rfl, hj⟩ := up1 (d := 1) hn
    obtain ⟨f0, fd0, a0, b0, c0, e0⟩ := nof
    exact ok_getN B.fN_ B.c (a0 j hj) b0 c0 e0
  have rqk := lv_require_kinds X G M B.c D.d27 rqf knd gN B.bN B.pN
  have sha := lv_shadow_of X G M B.c D.d32 rqk pin gT B.bT B.pT
  have ali := lv_is_alike X G M B.c D.d33 rqk pin gT B.bT B.pT
  have ini : ∀ n, 6 ≤ n → FnOk P w K mg base CX0 n fI fdI ["self", "terms", "response"] (spInit K C iT) := fun n hn => by
    obtain ⟨j, rfl, hj⟩ := up1 (d := 5) hn
    obtain ⟨f0, fd0, a0, b0, c0, e0⟩ := are
    obtain ⟨f1, fd1, a1, b1, c1, e1⟩ := nm
    obtain ⟨f2, fd2, a2, b2, c2, e2⟩ := nof
    exact ok_init B.init M B.c (a0 j (by omega)) b0 c0 e0 (a1 j (by omega)) b1 c1 e1 (a2 j (by omega)) b2 c2 e2
  obtain ⟨fr, fdr, R⟩ := dn_law_right X G D.d50
  have rgt := ok_right (k := 37) R.fn M (Nat.le_refl _) (dip.gv 37 (by omega)) (trm.gv 37 (by omega)) (oth.gv 37 (by omega)) (sha.gv 37 (by omega)) (lsh.gv 37 (by omega)) (rows.gv 37 (by omega)) (cols.gv 37 (by omega)) (bse.gv 37 (by omega)) (less.gv 37 (by omega)) (ali.gv 37 (by omega)) B.mkC B.gC (ini 37 (by omega)) (init_b1 B.init) (init_b2 B.init)
  exact ok_law (k := 39) F M (pot.gv 39 (by omega)) ⟨fr, fdr, rgt, R.kp, R.bd, R.at_⟩ (sha.gv 39 (by omega)) (ali.gv 39 (by omega)) B.mkC B.gC (ini 39 (by omega)) (init_b1 B.init)
/-- a def of a smaller part, told of a greater one; that no file is asked for follows late -/
theorem late {K K' : PySem.W.Frag} {CX : CXT} {k : Nat} {f : Addr} {fd : FuncData} {ps : List Str} {sp : Sp} (le : ∀ a o, K.lookup a = some o → K'.lookup a = some o) (len : ∀ vs H Q E, sp vs H Q E → vs.length = ps.length)
    (hN : ∀ mb : Str → Option Value, base.Ns builtinsNs mb → (∀ x : Str, x ≠ "__name__" → mb x = bootBuiltins x) → base.NoSeer) (F : base.NoSeer → FnOk P w K mg base CX k f fd ps sp) : FnOk P w K' mg base CX k f fd ps sp := by
  refine ⟨len, fun A outer s H args us vs Q E hr e => ?_⟩
  obtain ⟨mb, b1, b2⟩ := e.mod.blt
  exact (F (hN mb b1 b2)).run A outer s H args us vs Q E hr ⟨e.frames, ⟨fun a o z => e.mod.kin a o (le a o z), e.mod.glob, e.mod.blt, e.mod.nolimit⟩, e.bs, e.bsz, e.funs, e.frf, e.hok, e.bare⟩
end
theorem ns_at {h base : Heap} {a : Addr} {o : Obj} {m : Str → Option Value} (x : h.Ns a m) (e1 : h.get? a = some o) (e2 : base.get? a = some o) : base.Ns a m := by
  obtain ⟨o', es, ep, z, r⟩ := x
  rw [e1] at z
  cases z
  exact ⟨o, es, ep, e2, r⟩
/-- the law at the heap that the top leaves -/
theorem law_at {l : PySem.W.OpenLaw} {w : World} {K : PySem.W.Frag} {h : Heap} {mg : Str → Option Value} {C fI fT fN pT pN cT PT fa : Addr} {iT iR : Nat} (X : K.In h) (N : h.NoSeer) (G : h.Ns mainGlobals mg) (hfa : mg "law" = some (.ref fa)) (ht : l.prog.given.tree = none)
    (hP : h.get? PT = some { cls := .none, data := .fields #[] }) (nP : K.lookup PT = none) (nP1 : PT ≠ sysModules) (nP2 : PT ≠ cStatics) (hc : PySem.W.CodeHd h cT PT) (c : Cons K) (D : Defs K cT) (B : ∃ fdI fdT fdN, Fm K mg C fI fT fN pT pN fdI fdT fdN iT iR) :
    ∃ K' : PySem.W.Frag, K'.In h ∧ LamX.LawAtS l w K' CX0 41 63 "_law_script" mg fa h := by
  obtain ⟨fdI, fdT, fdN, B⟩ := B
  obtain ⟨mm, nm, m1⟩ := N.mods
  obtain ⟨mc, nc, c1, c2⟩ := N.statics
  obtain ⟨oM, esM, epM, hM, dM, _⟩ := id nm
  obtain ⟨oS, esS, epS, hS, dS, _⟩ := id nc
  have le : ∀ a o, K.lookup a = some o → (K ++ [(sysModules, oM), (cStatics, oS)]).lookup a = some o := fun a o e => by
    rw [List.lookup_append, e]
    rfl
  have ge : ∀ a o, (K ++ [(sysModules, oM), (cStatics, oS)]).lookup a = some o → K.lookup a = some o ∨ (a = sysModules ∧ o = oM) ∨ (a = cStatics ∧ o = oS) := fun a o e => by
    rw [List.lookup_append] at e
    cases z : K.lookup a with
    | some o' =>
      rw [z] at e
      exact .inl e
    | none =>
      rw [z] at e
      have e' : List.lookup a [(sysModules, oM), (cStatics, oS)] = some o := e
      by_cases h1 : a = sysModules
      · rw [h1] at e'
        exact .inr (.inl ⟨h1, (Option.some.inj e').symm⟩)
      · by_cases h2 : a = cStatics
        · rw [h2] at e'
          exact .inr (.inr ⟨h2, (Option.some.inj e').symm⟩)
        · rw [List.lookup_cons, show (a == sysModules) = false from beq_eq_false_iff_ne.2 h1, List.lookup_cons, show (a == cStatics) = false from beq_eq_false_iff_ne.2 h2] at e'
          cases e'
  have KI : PySem.W.Frag.In (K ++ [(sysModules, oM), (cStatics, oS)]) h := fun a o e => by
    rcases ge a o e with z | ⟨rfl, rfl⟩ | ⟨rfl, rfl⟩
    · exact X a o z
    · exact hM
    · exact hS
  have has : ∀ a o, h.get? a = some o → (a, o) ∈ [(sysModules, oM), (cStatics, oS)] → (K ++ [(sysModules, oM), (cStatics, oS)]).lookup a = some o := fun a o e m => by
    have z : ∃ o', (K ++ [(sysModules, oM), (cStatics, oS)]).lookup a = some o' := by
      cases z : K.lookup a with
      | some o' => exact ⟨o', le a o' z⟩
      | none =>
        rw [List.lookup_append, z]
        rcases List.mem_cons.1 m with m | m
        · cases m
          exact ⟨oM, rfl⟩
        · cases List.mem_singleton.1 m
          exact ⟨oS, rfl⟩
    obtain ⟨o', z⟩ := z
    rw [z, ← KI a o' z, e]
  obtain ⟨f, oc, od, kV, dc, pm, an, cd, ctp, sl, a, lk, cdi, kp⟩ := D.d51
  have e := hfa.symm.trans (PySem.W.mg_of X G a)
  cases e
  have F := fun_mk (st := topS 51) lk cdi kp
  refine ⟨_, KI, _, [(cT, PT)], spLaw K [(PT, "in_order.<locals>.<lambda>")], fun p hp => ?_, fun p hp => ?_, fun p hp => ?_, fun s u => .of_eq (fd := PySem.W.fnOf "law" "law" (defArgs (topS 51)) (defBody (topS 51)) (defScope (topS 51)) .none kV dc pm an cd ctp) rfl, fun H a ns hl _ hH hq => ?_, fun base kb gb tb => ?_⟩
  · cases List.mem_singleton.1 hp
    exact hP
  · cases List.mem_singleton.1 hp
    cases z : (K ++ [(sysModules, oM), (cStatics, oS)]).lookup PT with
    | none => rfl
    | some o =>
      rcases ge PT o z with q | ⟨q, _⟩ | ⟨q, _⟩
      · rw [nP] at q
        cases q
      · exact absurd q nP1
      · exact absurd q nP2
  · cases List.mem_singleton.1 hp
    exact hc
  · refine ⟨a, ns, rfl, ?_, by omega, fun p hp => ?_, fun _ => rfl⟩
    · rcases hq with q | ⟨o, its, n, q, k1, k2, k3, k4⟩
      · exact .inl q
      · rcases ge a o q with z | ⟨_, rfl⟩ | ⟨_, rfl⟩
        · exact .inr ⟨o, its, n, z, k1, k2, k3, k4⟩
        · rw [dM] at k3
          cases k3
        · rw [dS] at k3
          cases k3
    · cases List.mem_singleton.1 hp
      exact LamX.TabS.nil (hH (cT, PT) (List.mem_singleton.2 rfl))
  · have TB : LamX.TabB base mg cT PT := tb (cT, PT) (List.mem_singleton.2 rfl)
    refine late le (fun vs H Q E z => ?_) (fun mb b1 b2 => ?_) fun NS => law_all X G (mg_cons c X G) D B TB NS ht F
    · obtain ⟨a, ns, rfl, _⟩ := z
      rfl
    · obtain ⟨bm, ob, q1, q2, q3, q4, q5, q6, q7, q8⟩ := TB.bm
      exact ⟨⟨mc, ns_at nc hS (kb _ _ (has _ _ hS (by simp))), c1, c2⟩, ⟨mm, ns_at nm hM (kb _ _ (has _ _ hM (by simp))), m1⟩, ⟨mb, b1, b2⟩, ⟨mg, bm, ob, gb, q1, q5, q6, q7⟩⟩
/-- the row from it: what is handed on knows that no file is asked for -/
theorem row_of {l : PySem.W.OpenLaw} {q : Program} {loose : List Str} {XP : (Str → Option Value) → Heap → Prop} {YP : World → Heap → Prop} {d : DefRec} (hn : l.most = some 63) (hdf : d.params.defaults = []) (hq : importsNone q = true)
    (F : ∀ (w : World) (mg : Str → Option Value) (fa : Addr) (h : Heap), YP w h → h.NoSeer → h.Ns mainGlobals mg → mg d.name = some (.ref fa) → ∃ K : PySem.W.Frag, K.In h ∧ LamX.LawAtS l w K CX0 41 63 "_law_script" mg fa h) :
    PySem.W.WalkO q loose XP YP l.row.toRowW d [] (fun f vs => PySem.call f vs) := by
  refine Att.attach_callB hn hdf ?_
  intro w _ s mg mb fa o pm cd doc a vs ns G Y h1 h2 h3 hmg hobj hi hlen hbits hg
  have T := G.T
  obtain ⟨K, X, fd, cs, sp, k1, k2, k3, k4, k5, k6⟩ := F w mg fa _ Y (T.seer hq) T.g hmg
  refine LamX.law_callTs (k := 41) X T.g T.b T.builtins T.nolimit hg k1 k2 k3 T.bmain hobj hi (Nat.le_trans hlen (by rw [sizeLine_eq]; decide)) ⟨rfl, by decide, by decide⟩ k6 k4 ?_ ?_
  · exact fun H z1 z2 => k5 H a ns hlen hbits z1 z2
  · exact fun H e s' z => z
end Kt
open PySem PySem.W PyProof.Rows L2
set_option maxRecDepth 100000 in
set_option maxHeartbeats 0 in
theorem PySem.Challenge.cw_worthstead_k24_whole_alike_formulas_span_holds : PySem.Challenge.rw_worthstead_k24_whole_alike_formulas_span.Holds := by
  w_on; o_law; k_head; (case hw => w_witness2)
  k_fill
  refine Kt.row_of (l := PySem.Challenge.rw_worthstead_k24_whole_alike_formulas_span) rfl rfl (by decide +kernel) ?F
  case F =>
    intro w mg fa h Y NS G hmg
    replace hmg : mg "law" = some (.ref fa) := hmg
    have KX := km_in_of Y
    have hTb := km_tabs_of Y
    clear Y
    refine' Kt.law_at (PT := 266) KX NS G hmg (by rfl) (hTb 266 (by decide)) (by kernel_rfl) (by decide) (by decide) ?kt_code ?kt_cons ?kt_defs ?kt_cls
    case kt_defs =>
      refine' Kt.Defs.mk ?d11 ?d12 ?d16 ?d17 ?d18 ?d19 ?d22 ?d26 ?d27 ?d28 ?d29 ?d31 ?d32 ?d33 ?d35 ?d36 ?d37 ?d38 ?d39 ?d40 ?d41 ?d42 ?d43 ?d44 ?d45 ?d46 ?d47 ?d48 ?d49 ?d50 ?d51 ?d30
      (case d11 => refine' Kt.df_mk ?xa11 ?xl11 ?xc11 ?xk11; (case xa11 => k_is); (case xl11 => k_is); (case xc11 => k_is); (case xk11 => k_is))
      (case d12 => refine' Kt.df_mk ?xa12 ?xl12 ?xc12 ?xk12; (case xa12 => k_is); (case xl12 => k_is); (case xc12 => k_is); (case xk12 => k_is))
      (case d16 => refine' Kt.df_mk ?xa16 ?xl16 ?xc16 ?xk16; (case xa16 => k_is); (case xl16 => k_is); (case xc16 => k_is); (case xk16 => k_is))
      (case d17 => refine' Kt.df_mk ?xa17 ?xl17 ?xc17 ?xk17; (case xa17 => k_is); (case xl17 => k_is); (case xc17 => k_is); (case xk17 => k_is))
      (case d18 => refine' Kt.df_mk ?xa18 ?xl18 ?xc18 ?xk18; (case xa18 => k_is); (case xl18 => k_is); (case xc18 => k_is); (case xk18 => k_is))
      (case d19 => refine' Kt.df_mk ?xa19 ?xl19 ?xc19 ?xk19; (case xa19 => k_is); (case xl19 => k_is); (case xc19 => k_is); (case xk19 => k_is))
      (case d22 => refine' Kt.df_mk ?xa22 ?xl22 ?xc22 ?xk22; (case xa22 => k_is); (case xl22 => k_is); (case xc22 => k_is); (case xk22 => k_is))
      (case d26 => refine' Kt.df_mk ?xa26 ?xl26 ?xc26 ?xk26; (case xa26 => k_is); (case xl26 => k_is); (case xc26 => k_is); (case xk26 => k_is))
      (case d27 => refine' Kt.df_mk ?xa27 ?xl27 ?xc27 ?xk27; (case xa27 => k_is); (case xl27 => k_is); (case xc27 => k_is); (case xk27 => k_is))
      (case d28 => refine' Kt.df_mk ?xa28 ?xl28 ?xc28 ?xk28; (case xa28 => k_is); (case xl28 => k_is); (case xc28 => k_is); (case xk28 => k_is))
      (case d29 => refine' Kt.df_mk ?xa29 ?xl29 ?xc29 ?xk29; (case xa29 => k_is); (case xl29 => k_is); (case xc29 => k_is); (case xk29 => k_is))
      (case d31 => refine' Kt.df_mk ?xa31 ?xl31 ?xc31 ?xk31; (case xa31 => k_is); (case xl31 => k_is); (case xc31 => k_is); (case xk31 => k_is))
      (case d32 => refine' Kt.df_mk ?xa32 ?xl32 ?xc32 ?xk32; (case xa32 => k_is); (case xl32 => k_is); (case xc32 => k_is); (case xk32 => k_is))
      (case d33 => refine' Kt.df_mk ?xa33 ?xl33 ?xc33 ?xk33; (case xa33 => k_is); (case xl33 => k_is); (case xc33 => k_is); (case xk33 => k_is))
      (case d35 => refine' Kt.df_mk ?xa35 ?xl35 ?xc35 ?xk35; (case xa35 => k_is); (case xl35 => k_is); (case xc35 => k_is); (case xk35 => k_is))
      (case d36 => refine' Kt.df_mk ?xa36 ?xl36 ?xc36 ?xk36; (case xa36 => k_is); (case xl36 => k_is); (case xc36 => k_is); (case xk36 => k_is))
      (case d37 => refine' Kt.df_mk ?xa37 ?xl37 ?xc37 ?xk37; (case xa37 => k_is); (case xl37 => k_is); (case xc37 => k_is); (case xk37 => k_is))
      (case d38 => refine' Kt.df_mk ?xa38 ?xl38 ?xc38 ?xk38; (case xa38 => k_is); (case xl38 => k_is); (case xc38 => k_is); (case xk38 => k_is))
      (case d39 => refine' Kt.df_mk ?xa39 ?xl39 ?xc39 ?xk39; (case xa39 => k_is); (case xl39 => k_is); (case xc39 => k_is); (case xk39 => k_is))
      (case d40 => refine' Kt.df_mk ?xa40 ?xl40 ?xc40 ?xk40; (case xa40 => k_is); (case xl40 => k_is); (case xc40 => k_is); (case xk40 => k_is))
      (case d41 => refine' Kt.df_mk ?xa41 ?xl41 ?xc41 ?xk41; (case xa41 => k_is); (case xl41 => k_is); (case xc41 => k_is); (case xk41 => k_is))
      (case d42 => refine' Kt.df_mk ?xa42 ?xl42 ?xc42 ?xk42; (case xa42 => k_is); (case xl42 => k_is); (case xc42 => k_is); (case xk42 => k_is))
      (case d43 => refine' Kt.df_mk ?xa43 ?xl43 ?xc43 ?xk43; (case xa43 => k_is); (case xl43 => k_is); (case xc43 => k_is); (case xk43 => k_is))
      (case d44 => refine' Kt.df_mk ?xa44 ?xl44 ?xc44 ?xk44; (case xa44 => k_is); (case xl44 => k_is); (case xc44 => k_is); (case xk44 => k_is))
      (case d45 => refine' Kt.df_mk ?xa45 ?xl45 ?xc45 ?xk45; (case xa45 => k_is); (case xl45 => k_is); (case xc45 => k_is); (case xk45 => k_is))
      (case d46 => refine' Kt.df_mk ?xa46 ?xl46 ?xc46 ?xk46; (case xa46 => k_is); (case xl46 => k_is); (case xc46 => k_is); (case xk46 => k_is))
      (case d47 => refine' Kt.df_mk ?xa47 ?xl47 ?xc47 ?xk47; (case xa47 => k_is); (case xl47 => k_is); (case xc47 => k_is); (case xk47 => k_is))
      (case d48 => refine' Kt.df_mk ?xa48 ?xl48 ?xc48 ?xk48; (case xa48 => k_is); (case xl48 => k_is); (case xc48 => k_is); (case xk48 => k_is))
      (case d49 => refine' Kt.df_mk ?xa49 ?xl49 ?xc49 ?xk49; (case xa49 => k_is); (case xl49 => k_is); (case xc49 => k_is); (case xk49 => k_is))
      (case d50 => refine' Kt.df_mk ?xa50 ?xl50 ?xc50 ?xk50; (case xa50 => k_is); (case xl50 => k_is); (case xc50 => k_is); (case xk50 => k_is))
      (case d51 => refine' Kt.df_mk ?xa51 ?xl51 ?xc51 ?xk51; (case xa51 => k_is); (case xl51 => k_is); (case xc51 => k_is); (case xk51 => k_is))
      (case d30 => refine' Kt.dfc_mk ?xa30 ?xl30 ?xc30 ?xk30; (case xa30 => k_is); (case xl30 => k_is); (case xc30 => k_is); (case xk30 => k_is))
    case kt_code => exact codeHd_of_K KX (by kernel_rfl)
    case kt_cons =>
      refine' Kt.cons_mk ?len ?tuple ?list ?set ?dict ?zip ?enumerate ?range ?max ?min ?abs ?int ?str ?isi ?all ?sorted ?lets ?digs ?most ?mnames ?mterms ?factor ?number ?ra ?rl
      (case len => k_is); (case tuple => k_is); (case list => k_is); (case set => k_is); (case dict => k_is); (case zip => k_is); (case enumerate => k_is); (case range => k_is); (case max => k_is); (case min => k_is); (case abs => k_is); (case int => k_is); (case str => k_is); (case isi => k_is); (case all => k_is); (case sorted => k_is); (case lets => k_is); (case digs => k_is); (case most => k_is); (case mnames => k_is); (case mterms => k_is); (case factor => k_is); (case number => k_is); (case ra => k_is); (case rl => k_is)
    case kt_cls =>
      refine' Kt.fm_mk KX G ?gC ?pg ?ic ?po ?sa ?ca ?cn ?ct ?cm ?t1 ?t2 ?t3 ?t4 ?t5 ?t6 ?r1 ?r2 ?r3 ?r4 ?r5 ?r6 ?ne ?m1 ?m2 ?m3 ?m4 ?i1 ?i2 ?i3 ?i4 ?p1 ?p2 ?p3 ?p4 ?p5 ?p6 ?p7 ?n1 ?n2 ?n3 ?n4 ?n5 ?n6 ?n7
      (case gC => k_is)
      (case pg => k_is)
      (case ic => k_is)
      (case po => k_is)
      (case sa => k_is)
      (case ca => k_is)
      (case cn => k_is)
      (case ct => k_is)
      (case cm => k_is)
      (case t1 => k_is)
      (case t2 => k_is)
      (case t3 => k_is)
      (case t4 => k_is)
      (case t5 => k_is)
      (case t6 => decide)
      (case r1 => k_is)
      (case r2 => k_is)
      (case r3 => k_is)
      (case r4 => k_is)
      (case r5 => k_is)
      (case r6 => decide)
      (case ne => decide)
      (case m1 => k_is)
      (case m2 => k_is)
      (case m3 => k_is)
      (case m4 => k_is)
      (case i1 => k_is)
      (case i2 => k_is)
      (case i3 => k_is)
      (case i4 => k_is)
      (case p1 => k_is)
      (case p2 => k_is)
      (case p3 => k_is)
      (case p4 => k_is)
      (case p5 => k_is)
      (case p6 => k_is)
      (case p7 => k_is)
      (case n1 => k_is)
      (case n2 => k_is)
      (case n3 => k_is)
      (case n4 => k_is)
      (case n5 => k_is)
      (case n6 => k_is)
      (case n7 => k_is)
