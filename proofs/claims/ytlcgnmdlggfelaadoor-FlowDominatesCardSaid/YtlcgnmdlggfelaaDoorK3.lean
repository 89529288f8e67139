/- Part 3 of the proof: an executor over a compiled form of the functions of this program, that it is right, and what it computes (see the last part). -/
import Derived.Test.YtlcgnmdlggfelaaDoorK2
set_option linter.all false
/- Pen, part B: lists of objects that stand for parts of an abstract heap; what changes them. -/
namespace Go.Den
variable {ρ ρ' : Rho} {ζ ζ' : Zeta} {A A' : Nat → Prop} {H H' : AH} {f f' : Nat → Nat}

def EL (A : Nat → Prop) (ρ : Rho) (ζ : Zeta) (H : AH) (f : Nat → Nat) (es : List (Value × PV × Nat)) (es' : List MapEntry) : Prop :=
  F2 (fun x y => x.1 = y.key ∧ x.2.2 = y.born) es es' ∧ WL A ρ ζ H f (es.map (·.2.1)) (es'.map (·.val))

def OP (A : Nat → Prop) (ρ : Rho) (ζ : Zeta) (H : AH) (f : Nat → Nat) (i : Nat) : LObj → Prop
  | .row t cs => (∃ k r cells f', ρ i = some (some k) ∧ Own H k r t cells ∧ A k ∧ A r ∧ WL A ρ ζ H f' cs cells ∧ ∀ x, (if x = r then 1 else 0) + f' x ≤ f x) ∨ (cs = [] ∧ ρ i = some none)
  | .map es c => ∃ k es' f', ρ i = some (some k) ∧ k < H.next ∧ H.get k = some (.map es' c) ∧ A k ∧ EL A ρ ζ H f' es es' ∧ ∀ x, (if x = k then 1 else 0) + f' x ≤ f x
  | .iter s pos => ∃ k, ρ i = some (some k) ∧ k < H.next ∧ H.get k = some (.iter s pos) ∧ A k ∧ 1 ≤ f k
  | .loop E ps as bd st pend => ∃ k e, ρ i = some (some k) ∧ k < H.next ∧ H.get k = some (.loop e ps as bd st pend) ∧ A k ∧ EnvP ρ ζ E e ∧ 1 ≤ f k
  | .nil => ρ i = some none
  | .dead => True

theorem noRow_map {es : List MapEntry} {c : Nat} : noRow (.map es c) := fun _ _ _ _ _ _ _ h => by cases h
theorem noRow_iter {s : ByteArray} {c : Nat} : noRow (.iter s c) := fun _ _ _ _ _ _ _ h => by cases h

theorem noRow_loop {e : Env} {ps : List Nat} {as bd : ICode} {st : Nat} {pend : Option Ex} : noRow (.loop e ps as bd st pend) := fun _ _ _ _ _ _ _ h => by cases h
theorem OP.kp {R : Nat → Prop} (hk : Kp H H' R) (hr : ρ.Le ρ') (hz : ζ.Le ζ') (hA : ∀ j, A j → A' j) {i : Nat} {o : LObj} (h : OP A ρ ζ H f i o) (hR : ∀ r, R r → f r = 0) : OP A' ρ' ζ' H' f i o := by
  cases o with
  | row t cs =>
    rcases h with ⟨k, r, cells, f', h1, h2, h3, h4, h5, h6⟩ | ⟨h1, h2⟩
    case inr => exact .inr ⟨h1, hr _ _ h2⟩
    refine .inl ⟨k, r, cells, f', hr _ _ h1, hk.own _ _ _ _ (fun hh => ?_) h2, hA _ h3, hA _ h4, h5.kp hk hr hz hA (fun x hx => ?_), h6⟩
    · have := hR _ hh; have := h6 r; simp at this; omega
    · have := hR _ hx; have := h6 x; omega
  | map es c =>
    obtain ⟨k, es', f', h1, h0, h2, h3, ⟨h4, h5⟩, h6⟩ := h
    refine ⟨k, es', f', hr _ _ h1, Nat.lt_of_lt_of_le h0 hk.next, hk.obj _ _ h0 (fun hh => ?_) h2 noRow_map, hA _ h3, ⟨h4, h5.kp hk hr hz hA (fun x hx => ?_)⟩, h6⟩
    · have := hR _ hh; have := h6 k; simp at this; omega
    · have := hR _ hx; have := h6 x; omega
  | iter s pos =>
    obtain ⟨k, h1, h0, h2, h3, h4⟩ := h
    refine ⟨k, hr _ _ h1, Nat.lt_of_lt_of_le h0 hk.next, hk.obj _ _ h0 (fun hh => ?_) h2 noRow_iter, hA _ h3, h4⟩
    have := hR _ hh; omega
  | loop E ps as bd st pend =>
    obtain ⟨k, e, h1, h0, h2, h3, h5, h4⟩ := h
    refine ⟨k, e, hr _ _ h1, Nat.lt_of_lt_of_le h0 hk.next, hk.obj _ _ h0 (fun hh => ?_) h2 noRow_loop, hA _ h3, h5.mono hr hz, h4⟩
    have := hR _ hh; omega
  | nil => exact hr _ _ h
  | dead => trivial

structure RHg (A : Nat → Prop) (ρ : Rho) (ζ : Zeta) (L : List LObj) (H : AH) (g : Nat → Nat → Nat) : Prop where
  objs : ∀ i o, L[i]? = some o → OP A ρ ζ H (g i) i o
  sum : ∀ r, sumN L.length (fun i => g i r) ≤ 1
  frz : ∀ k z, ζ k = some z → FrzRow H k z.r z ∧ sumN L.length (fun i => g i z.r) = 0
  bnd : ∀ r, H.next ≤ r → sumN L.length (fun i => g i r) = 0
  acc : ∀ j, H.next ≤ j → A j
  dom : ∀ i k, ρ i = some k → i < L.length
  wf : ∀ j o, H.get j = some o → j < H.next
def RH (A : Nat → Prop) (ρ : Rho) (ζ : Zeta) (L : List LObj) (H : AH) : Prop := ∃ g, RHg A ρ ζ L H g

/-! ### what is kept -/
theorem FrzRow.kept {k r k2 r2 : Nat} {t : TypeId} {cs : List Value} {z : Zr} (h : Own H k r t cs) (ho : Only H H' (fun j => j = r ∨ j = k)) (h2 : FrzRow H k2 r2 z) (hne : r ≠ r2) : FrzRow H' k2 r2 z := by
  obtain ⟨a, b, c, d⟩ := h.apart h2.rowAt hne
  exact h2.only ho (by rintro (x | x) <;> contradiction) (by rintro (x | x) <;> contradiction)
theorem Kp.of_own {k r : Nat} {t : TypeId} {cs : List Value} (h : Own H k r t cs) (ho : Only H H' (fun j => j = r ∨ j = k)) : Kp H H' (· = r) :=
  ⟨ho.next, fun _ _ _ _ hn h2 => h.keptOwn ho h2 (fun e => hn e.symm), fun _ _ _ hn h2 => FrzRow.kept h ho h2 (fun e => hn e.symm), fun _ _ hj _ hg hno => h.keptObj ho hj hg hno⟩
theorem Kp.push (H : AH) (o : AObj) : Kp H (H.push o) (fun _ => False) :=
  ⟨Nat.le_succ _, fun _ _ _ _ _ h => h.push o, fun _ _ _ _ h => h.only (Only.push H o (fun _ => False)) id id, fun j _ hj _ hg _ => by rw [AH.get_push, if_neg (by omega)]; exact hg⟩
theorem Kp.putObj {l : Nat} {o o' : AObj} (hg : H.get l = some o) (hn : noRow o) : Kp H (H.put l o') (· = l) := by
  refine ⟨Nat.le_refl _, fun _ _ _ _ _ h => h.putObj hg hn, fun k r z _ h => ?_, fun j _ _ hj hgj _ => by rw [AH.get_put, if_neg hj]; exact hgj⟩
  obtain ⟨a, b⟩ : l ≠ k ∧ l ≠ r := by
    obtain ⟨ro, thr, tip, a1⟩ := h.at_
    obtain ⟨c2, t2, ro2, ex2, thr2, tip2, a2, _⟩ := h.root
    refine ⟨?_, ?_⟩
    · rintro rfl; rw [a1] at hg; cases hg; exact hn _ _ _ _ _ _ _ rfl
    · rintro rfl; rw [a2] at hg; cases hg; exact hn _ _ _ _ _ _ _ rfl
  exact h.only (Only.put H l o') (fun e => a e.symm) (fun e => b e.symm)
theorem Kp.mono {R R' : Nat → Prop} (h : Kp H H' R) (hr : ∀ r, R r → R' r) : Kp H H' R' :=
  ⟨h.next, fun k r t cs hn => h.own k r t cs (fun x => hn (hr _ x)), fun k r z hn => h.frz k r z (fun x => hn (hr _ x)), fun j o hj hn => h.obj j o hj (fun x => hn (hr _ x))⟩
theorem Kp.refl (H : AH) (R : Nat → Prop) : Kp H H R := ⟨Nat.le_refl _, fun _ _ _ _ _ h => h, fun _ _ _ _ h => h, fun _ _ _ _ h _ => h⟩

/-! ### one object changes -/
theorem RHg.set {L : List LObj} {g : Nat → Nat → Nat} (h : RHg A ρ ζ L H g) {i0 r0 : Nat} {o' : LObj} (hi : i0 < L.length) (h1 : 1 ≤ g i0 r0) (hk : Kp H H' (· = r0)) (hn : H'.next = H.next)
    (hwf : ∀ j o, H'.get j = some o → j < H'.next) (ho : OP A ρ ζ H' (g i0) i0 o') : RHg A ρ ζ (L.set i0 o') H' g := by
  have hs : ∀ i, i < L.length → i ≠ i0 → g i r0 = 0 := fun i hi' hne => by
    have := sumN_le2 (g := fun i => g i r0) hi' hi hne; have := h.sum r0; omega
  refine ⟨fun i o hio => ?_, by simpa using h.sum, fun k z hz => ?_, by simpa [hn] using h.bnd, by simpa [hn] using h.acc, by simpa using h.dom, hwf⟩
  · rw [List.getElem?_set] at hio
    by_cases e : i0 = i
    · subst e; rw [if_pos rfl, if_pos hi] at hio; cases hio; exact ho
    · rw [if_neg e] at hio
      have hlt : i < L.length := (List.getElem?_eq_some_iff.1 hio).1
      exact (h.objs i o hio).kp hk (.refl _) (.refl _) (fun _ h => h) (fun r hr => by subst hr; exact hs i hlt (Ne.symm e))
  · obtain ⟨h2, h3⟩ := h.frz k z hz
    refine ⟨hk.frz _ _ _ (fun e => ?_) h2, by simpa using h3⟩
    subst e
    have := sumN_le (g := fun i => g i z.r) hi; omega

def Rho.add (ρ : Rho) (i : Nat) (k : Option Nat) : Rho := fun j => if j = i then some k else ρ j
theorem Rho.le_add {ρ : Rho} {i : Nat} {k : Option Nat} (h : ρ i = none) : ρ.Le (ρ.add i k) := fun j x hj => by
  unfold Rho.add
  by_cases e : j = i
  · subst e; rw [h] at hj; cases hj
  · rw [if_neg e]; exact hj
@[simp] theorem Rho.add_self {ρ : Rho} {i : Nat} {k : Option Nat} : ρ.add i k i = some k := by simp [Rho.add]
theorem RHg.fresh {L : List LObj} {g : Nat → Nat → Nat} (h : RHg A ρ ζ L H g) : ρ L.length = none := by
  cases hh : ρ L.length with
  | none => rfl
  | some k => exact absurd (h.dom _ _ hh) (Nat.lt_irrefl _)

/-- an object changes, and one comes behind the others; k: its place -/
theorem RHg.move {L : List LObj} {g : Nat → Nat → Nat} (h : RHg A ρ ζ L H g) {i0 : Nat} {k : Option Nat} {R : Nat → Prop} {o' o2 : LObj} {f1 f2 : Nat → Nat} (hi : i0 < L.length) (hk : Kp H H' R) (hR : ∀ r, R r → 1 ≤ g i0 r)
    (hwf : ∀ j o, H'.get j = some o → j < H'.next) (hf : ∀ x, x ≠ H.next → f1 x + f2 x ≤ g i0 x) (hf1 : H.next < H'.next → f1 H.next + f2 H.next ≤ 1) (hf2 : H'.next = H.next → f1 H.next + f2 H.next ≤ g i0 H.next)
    (ho : OP A (ρ.add L.length k) ζ H' f1 i0 o') (ho2 : OP A (ρ.add L.length k) ζ H' f2 L.length o2) : RH A (ρ.add L.length k) ζ (L.set i0 o' ++ [o2]) H' := by
  have hs : ∀ r, R r → ∀ i, i < L.length → i ≠ i0 → g i r = 0 := fun r hr i hi' hne => by
    have := sumN_le2 (g := fun i => g i r) hi' hi hne; have := h.sum r; have := hR r hr; omega
  have hnx : ∀ x, g i0 x ≤ sumN L.length (fun i => g i x) := fun x => sumN_le (g := fun i => g i x) hi
  -- the sums
  let g' : Nat → Nat → Nat := fun i => if i = L.length then f2 else if i = i0 then f1 else g i
  have hlen : (L.set i0 o' ++ [o2]).length = L.length + 1 := by simp
  have hsum : ∀ x, sumN (L.length + 1) (fun i => g' i x) + g i0 x = sumN L.length (fun i => g i x) + f1 x + f2 x := fun x => by
    have e1 : sumN L.length (fun i => g' i x) = sumN L.length (fun i => if i = i0 then f1 x else g i x) := sumN_congr fun i hi' => by
      show (if i = L.length then f2 else if i = i0 then f1 else g i) x = _
      rw [if_neg (by omega)]; split <;> rfl
    have e2 : g' L.length x = f2 x := by show (if L.length = L.length then f2 else _) x = _; rw [if_pos rfl]
    have e3 := sumN_upd (n := L.length) (i := i0) (g := fun i => g i x) (y := f1 x) hi
    simp only [sumN]
    rw [e1, e2]

    omega
  refine ⟨g', fun i o hio => ?_, fun r => ?_, fun k' z hz => ?_, fun r hr => ?_, fun j hj => h.acc j (Nat.le_trans hk.next hj), fun i x hix => ?_, hwf⟩
  · by_cases e : i = L.length
    · subst e
      rw [List.getElem?_append_right (by simp)] at hio
      simp at hio; subst hio
      show OP _ _ _ _ (if L.length = L.length then f2 else _) _ _
      rw [if_pos rfl]; exact ho2
    · have hlt : i < L.length := by have := (List.getElem?_eq_some_iff.1 hio).1; rw [hlen] at this; omega
      rw [List.getElem?_append_left (by simpa using hlt), List.getElem?_set] at hio
      show OP _ _ _ _ (if i = L.length then f2 else if i = i0 then f1 else g i) _ _
      rw [if_neg e]
      by_cases e0 : i0 = i
      · subst e0; rw [if_pos rfl, if_pos hi] at hio; cases hio; rw [if_pos rfl]; exact ho
      · rw [if_neg e0] at hio
        rw [if_neg (Ne.symm e0)]
        exact (h.objs i o hio).kp hk (Rho.le_add h.fresh) (.refl _) (fun _ h => h) (fun r hr => hs r hr i hlt (Ne.symm e0))
  · rw [hlen]
    have q1 := hsum r
    have q2 := h.sum r
    have q3 := hnx r
    by_cases e : r = H.next
    · subst e
      have q4 := h.bnd _ (Nat.le_refl H.next)
      rcases Nat.lt_or_ge H.next H'.next with hlt | hge
      · have := hf1 hlt; omega
      · have := hf2 (Nat.le_antisymm hge hk.next); omega
    · have := hf r e; omega
  · obtain ⟨h2, h3⟩ := h.frz k' z hz
    have q1 := hsum z.r
    have q3 := hnx z.r
    have hrn : z.r ≠ H.next := by have := h2.le; have := h2.lt; omega
    refine ⟨hk.frz _ _ _ (fun e => ?_) h2, ?_⟩
    · have := hR z.r e; omega
    · rw [hlen]; have := hf z.r hrn; omega
  · rw [hlen]
    have q1 := hsum r
    have q3 := hnx r
    have := hk.next
    have q4 := h.bnd r (by omega)
    by_cases e : r = H.next
    · subst e; have := hf2 (by omega); omega
    · have := hf r e; omega
  · rw [hlen]
    unfold Rho.add at hix
    by_cases e : i = L.length
    · omega
    · rw [if_neg e] at hix; have := h.dom _ _ hix; omega

/-- an object comes behind the others -/
theorem RHg.push {L : List LObj} {g : Nat → Nat → Nat} (h : RHg A ρ ζ L H g) {o : AObj} {o2 : LObj} (ho2 : OP A (ρ.add L.length (some H.next)) ζ (H.push o) (fun r => if r = H.next then 1 else 0) L.length o2) : RH A (ρ.add L.length (some H.next)) ζ (L ++ [o2]) (H.push o) := by
  have hk := Kp.push H o
  let f2 : Nat → Nat := fun r => if r = H.next then 1 else 0
  let g' : Nat → Nat → Nat := fun i => if i = L.length then f2 else g i
  have hlen : (L ++ [o2]).length = L.length + 1 := by simp
  have hsum : ∀ x, sumN (L.length + 1) (fun i => g' i x) = sumN L.length (fun i => g i x) + f2 x := fun x => by
    have e1 : sumN L.length (fun i => g' i x) = sumN L.length (fun i => g i x) := sumN_congr fun i hi' => by
      show (if i = L.length then f2 else g i) x = _
      rw [if_neg (by omega)]
    have e2 : g' L.length x = f2 x := by show (if L.length = L.length then f2 else _) x = _; rw [if_pos rfl]
    simp only [sumN]
    rw [e1, e2]
  refine ⟨g', fun i o hio => ?_, fun r => ?_, fun k' z hz => ?_, fun r hr => ?_, fun j hj => h.acc j (Nat.le_trans hk.next hj), fun i x hix => ?_, fun j ob hj => ?_⟩
  · by_cases e : i = L.length
    · subst e
      simp at hio; subst hio
      show OP _ _ _ _ (if L.length = L.length then f2 else _) _ _
      rw [if_pos rfl]; exact ho2
    · have hlt : i < L.length := by have := (List.getElem?_eq_some_iff.1 hio).1; rw [hlen] at this; omega
      rw [List.getElem?_append_left hlt] at hio
      show OP _ _ _ _ (if i = L.length then f2 else g i) _ _
      rw [if_neg e]
      exact (h.objs i o hio).kp hk (Rho.le_add h.fresh) (.refl _) (fun _ h => h) (fun r hr => hr.elim)
  · rw [hlen, hsum]
    have q2 := h.sum r
    by_cases e : r = H.next
    · subst e
      have q4 := h.bnd _ (Nat.le_refl H.next)
      simp [f2]; omega
    · simp [f2, e]; omega
  · obtain ⟨h2, h3⟩ := h.frz k' z hz
    have hrn : z.r ≠ H.next := by have := h2.le; have := h2.lt; omega
    refine ⟨hk.frz _ _ _ id h2, ?_⟩
    rw [hlen, hsum]; simp [f2, hrn]; exact h3
  · rw [hlen, hsum]
    have : H.next + 1 ≤ r := hr
    have q4 := h.bnd r (by omega)
    simp [f2, show r ≠ H.next by omega]; exact q4
  · rw [hlen]
    unfold Rho.add at hix
    by_cases e : i = L.length
    · omega
    · rw [if_neg e] at hix; have := h.dom _ _ hix; omega
  · rw [AH.get_push] at hj
    show j < H.next + 1
    split at hj
    · omega
    · have := h.wf _ _ hj; omega
/-- a list that is nil comes behind the others -/
theorem RHg.pushN {L : List LObj} {g : Nat → Nat → Nat} (h : RHg A ρ ζ L H g) {o2 : LObj} (ho2 : OP A (ρ.add L.length none) ζ H (fun _ => 0) L.length o2) : RH A (ρ.add L.length none) ζ (L ++ [o2]) H := by
  let g' : Nat → Nat → Nat := fun i => if i = L.length then (fun _ => 0) else g i
  have hlen : (L ++ [o2]).length = L.length + 1 := by simp
  have hsum : ∀ x, sumN (L.length + 1) (fun i => g' i x) = sumN L.length (fun i => g i x) := fun x => by
    have e1 : sumN L.length (fun i => g' i x) = sumN L.length (fun i => g i x) := sumN_congr fun i hi' => by
      show (if i = L.length then (fun _ => 0) else g i) x = _
      rw [if_neg (by omega)]
    have e2 : g' L.length x = 0 := by show (if L.length = L.length then (fun _ => 0) else _) x = _; rw [if_pos rfl]
    simp only [sumN]
    rw [e1, e2]; rfl
  refine ⟨g', fun i o hio => ?_, fun r => by rw [hlen, hsum]; exact h.sum r, fun k' z hz => by rw [hlen, hsum]; exact h.frz k' z hz, fun r hr => by rw [hlen, hsum]; exact h.bnd r hr, h.acc, fun i x hix => ?_, h.wf⟩
  · by_cases e : i = L.length
    · subst e
      simp at hio; subst hio
      show OP _ _ _ _ (if L.length = L.length then (fun _ => 0) else _) _ _
      rw [if_pos rfl]; exact ho2
    · have hlt : i < L.length := by have := (List.getElem?_eq_some_iff.1 hio).1; rw [hlen] at this; omega
      rw [List.getElem?_append_left hlt] at hio
      show OP _ _ _ _ (if i = L.length then (fun _ => 0) else g i) _ _
      rw [if_neg e]
      exact (h.objs i o hio).kp (Kp.refl H (fun _ => False)) (Rho.le_add h.fresh) (.refl _) (fun _ h => h) (fun r hr => hr.elim)
  · rw [hlen]
    unfold Rho.add at hix
    by_cases e : i = L.length
    · omega
    · rw [if_neg e] at hix; have := h.dom _ _ hix; omega
end Go.Den
/- Pen, part C: one operation on trees. -/
namespace Go.Den

def ofV : Value → Option PV
  | .agg a => if a.toList.all one = true then some (.agg (a.toList.map .v)) else none
  | .tuple a => if a.toList.all one = true then some (.tup (a.toList.map .v)) else none
  | .func (.func f) a c => if a.size = 0 ∧ c.size = 0 then some (.fn f [] []) else some (.v (.func (.func f) a c))
  | x => some (.v x)
abbrev PEnv := T PV
def pea (E : PEnv) : Arg → Option PV
  | .tmp t => E.get t
  | .val x => ofV x
def pei (E : PEnv) (a : Arg) : Option Value := match pea E a with | some (.v x) => some x | _ => none
def peas (E : PEnv) : List Arg → Option (List PV)
  | [] => some []
  | a :: as => match pea E a, peas E as with
    | some p, some ps => some (p :: ps)
    | _, _ => none
def peap (E : PEnv) : List (Nat × Nat × Arg) → Option (List (Nat × Nat × PV))
  | [] => some []
  | (o, n, a) :: as => match pea E a, peap E as with
    | some p, some ps => some ((o, n, p) :: ps)
    | _, _ => none
def peo (E : PEnv) : Option Arg → Option (Option Value)
  | none => some none
  | some a => match pei E a with | some x => some (some x) | none => none
def pcells : PV → List PV
  | .agg cs => cs
  | p => [p]
def pone : PV → Bool
  | .agg _ | .tup _ => false
  | _ => true
def psplice (cs : List PV) (o : Nat) (vs : List PV) : List PV := cs.take o ++ vs ++ cs.drop (o + vs.length)
def pfill (cs : List PV) : List (Nat × Nat × PV) → Option (List PV)
  | [] => some cs
  | (o, n, p) :: rest => if (pcells p).length = n ∧ o + n ≤ cs.length then pfill (psplice cs o (pcells p)) rest else none
def cut (cs : List PV) (o n : Nat) : List PV := (cs.drop o).take n
def allNl (l : List PV) : Prop := l.all nl = true
def allOne (l : List PV) : Prop := l.all pone = true
instance (l : List PV) : Decidable (allNl l) := inferInstanceAs (Decidable (_ = _))
instance (l : List PV) : Decidable (allOne l) := inferInstanceAs (Decidable (_ = _))
/-- a value that owns what it points to comes out of its cell: what is there instead, and the object -/
def unp : PV → Nat → Option (PV × LObj)
  | .ow t n cap xs, j => some (.slc j 0 n cap, .row t xs)
  | .bx t xs, j => some (.ptr j 0, .row t xs)
  | .ifc t p, j => match unp p j with | some (q, o) => some (.ifc t q, o) | none => none
  | _, _ => none
abbrev PRes := Option (PV × List LObj × Bool)
def prow (L : List LObj) (i : Nat) : Option (TypeId × List PV) := match L[i]? with | some (.row t cs) => some (t, cs) | _ => none
def pload (L : List LObj) (agg : Option Nat) : PV → PRes
  | .ptr i o => match prow L i with
    | some (t, cs) => match agg with
      | none => match cs[o]? with
        | some q => if nl q = true then some (q, L, true) else match unp q L.length with
          | some (q', ob) => some (q', L.set i (.row t (psplice cs o [q'])) ++ [ob], true)
          | none => none
        | none => none
      | some n => if o + n ≤ cs.length ∧ allNl (cut cs o n) then some (.agg (cut cs o n), L, true) else none
    | none => none
  | .fp cs => match agg with
    | none => match cs with | q :: _ => some (q, L, true) | [] => none
    | some n => if 0 < n ∧ n ≤ cs.length then some (.agg (cs.take n), L, true) else none
  | _ => none
def peqNil : NilK → PV → PV → Option Bool
  | k, .v a, .v b => eqNilV k a b
  | .slice, .slc _ _ n _, .v (.slice none _ _) => if n = 0 then none else some false
  | .slice, .v (.slice none _ _), .slc _ _ n _ => if n = 0 then none else some false
  | .slice, .fz _ n _, .v (.slice none _ _) => if n = 0 then none else some false
  | .slice, .v (.slice none _ _), .fz _ n _ => if n = 0 then none else some false
  | .map, .mapr _, .v (.map none) => some false
  | .map, .v (.map none), .mapr _ => some false
  | .func, .fn .., .v .nilFunc => some false
  | .func, .v .nilFunc, .fn .. => some false
  | .ptr, .ptr .., .v (.pointer none) => some false
  | .ptr, .v (.pointer none), .ptr .. => some false
  | .ptr, .fp .., .v (.pointer none) => some false
  | .ptr, .v (.pointer none), .fp .. => some false
  | _, _, _ => none
def psrc (L : List LObj) (size : Nat) : PV → Option (List PV × Nat)
  | .v (.slice none n _) => if n = 0 then some ([], 0) else none
  | .slc i o n _ => match prow L i with
    | some (_, cs) => if o + n * size ≤ cs.length ∧ allNl (cut cs o (n * size)) then some (cut cs o (n * size), n) else none
    | none => none
  | .fz _ n cs => if cs.length = n * size then some (cs, n) else none
  | .v (.string s) => if size = 1 then some (s.data.toList.map fun b => .v (.int .u8 b.toNat), s.size) else none
  | _ => none
def roomy (n b : Nat) : Prop := (2 * n + 1000) * (b + 1) ≤ 281474976710656
instance (n b : Nat) : Decidable (roomy n b) := inferInstanceAs (Decidable (_ ≤ _))
def pappend (L : List LObj) (t : TypeId) (size bytes : Nat) (s x : PV) : PRes :=
  match psrc L size x with
  | none => none
  | some (new, m) => match s with
    | .v (.slice none len cap) => if len = 0 ∧ cap = 0 ∧ 1 ≤ size ∧ roomy m bytes ∧ allOne new then some (.slc L.length 0 m m, L ++ [.row t new], true) else none
    | .fz t' n cs => if m = 0 then some (.fz t' n cs, L, true) else none
    | .slc i o len cap => match prow L i with
      | some (t', cs) => if allOne new ∧ o = 0 ∧ len = cap ∧ t' = t ∧ cs.length = len * size ∧ 1 ≤ size ∧ roomy (len + m) bytes then
          some (.slc L.length 0 (len + m) (len + m), L.set i .dead ++ [.row t (cs ++ new)], true)
        else if m = 0 then some (.slc i o len cap, L, true)
        else if allOne new then
          if len + m ≤ cap then (if o + len * size + new.length ≤ cs.length then some (.slc i o (len + m) cap, L.set i (.row t' (psplice cs (o + len * size) new)), false) else none)
          else if t' = t ∧ roomy (len + m) bytes ∧ o + len * size ≤ cs.length ∧ 1 ≤ size then
            some (.slc L.length 0 (len + m) (len + m), L.set i .dead ++ [.row t (cut cs o (len * size) ++ new)], decide (o + len * size = cs.length ∧ len = cap)) else none
        else none
      | none => none
    | _ => none
def pfind (kk : KeyK) (k : Value) : List (Value × PV × Nat) → Nat → Option (Option (Nat × PV))
  | [], _ => some none
  | e :: es, i => match keyEq kk k e.1 with
    | some true => some (some (i, e.2.1))
    | some false => pfind kk k es (i + 1)
    | none => none
def pmap (L : List LObj) : PV → Option (List (Value × PV × Nat) × Nat)
  | .mapr i => match L[i]? with
    | some (.map es c) => some (es, c)
    | _ => none
  | .v (.map none) => some ([], 0)
  | _ => none
def pval (L : List LObj) : Option Value → PRes
  | some x => some (.v x, L, true)
  | none => none
def aggOf' (cs : List PV) (o : Nat) (agg : Option Nat) (L : List LObj) : PRes := match agg with
  | none => match cs[o]? with | some q => some (q, L, true) | none => none
  | some n => some (.agg (cut cs o n), L, true)

/-- one operation that is no call -/
def pev (E : PEnv) (L : List LObj) : IOp → PRes
  | .mov x => match pea E x with | some p => some (p, L, true) | none => none
  | .pick c a b => match pei E c with
    | some (.bool t) => match (bif t then pea E a else pea E b) with | some p => some (p, L, true) | none => none
    | _ => none
  | .box t x => match pea E x with | some p => some (.ptr L.length 0, L ++ [.row t (pcells p)], true) | none => none
  | .build zero ps => match peap E ps with
    | some ps => if zero.all one = true then match pfill (zero.map .v) ps with | some cs => some (.agg cs, L, true) | none => none else none
    | none => none
  | .buildSlice t len zero ps => match peap E ps with
    | some ps => if zero.all one = true then match pfill (zero.map .v) ps with | some cs => some (.slc L.length 0 len len, L ++ [.row t cs], true) | none => none else none
    | none => none
  | .load agg a => match pea E a with | some p => pload L agg p | none => none
  | .store n a v => match pea E a, pea E v with
    | some (.ptr i o), some p => match prow L i with
      | some (t, cs) => if (pcells p).length = n ∧ o + n ≤ cs.length ∧ allOne (pcells p) then some (.tup [], L.set i (.row t (psplice cs o (pcells p))), false) else none
      | none => none
    | _, _ => none
  | .nilCheck x => match pea E x with
    | some (.ptr i o) => some (.ptr i o, L, true)
    | some (.fp cs) => some (.fp cs, L, true)
    | some (.fn f a c) => some (.fn f a c, L, true)
    | _ => none
  | .arith op x y => match pei E x, pei E y with
    | some a, some b => match arithV op a b with | some r => if one r = true then some (.v r, L, true) else none | none => none
    | _, _ => none
  | .eqBool neg x y => match pei E x, pei E y with
    | some (.bool a), some (.bool b) => some (.v (.bool ((a == b) != neg)), L, true)
    | _, _ => none
  | .eqNil k neg x y => match pea E x, pea E y with
    | some a, some b => match peqNil k a b with
      | some r => some (.v (.bool (r != neg)), L, true)
      | none => none
    | _, _ => none
  | .eqPtr neg x y => match pea E x, pea E y with
    | some (.ptr i o), some (.ptr j o') => if i = j then some (.v (.bool ((o == o') != neg)), L, true) else none
    | some a, some b => match peqNil .ptr a b with
      | some r => some (.v (.bool (r != neg)), L, true)
      | none => none
    | _, _ => none
  | .un op x => match pei E x with
    | some a => match unV op a with | some r => if one r = true then some (.v r, L, true) else none | none => none
    | none => none
  | .toInt k x => match pei E x with
    | some (.int _ n) => some (.v (.int k (k.wrap n)), L, true)
    | _ => none
  | .iface t x => match pea E x with
    | some p => some (.ifc t p, L, true)
    | none => none
  | .func f first captured => match peas E first, peas E captured with
    | some a, some b => some (.fn f a b, L, true)
    | _, _ => none
  | .makeSlice t bytes zero l c => match pei E l, pei E c with
    | some (.int _ l), some (.int _ c) => if (0 ≤ l ∧ l ≤ c ∧ c ≤ 9223372036854775807 ∧ (bytes : Int) * c ≤ 281474976710656) ∧ zero.all one = true then
        some (.slc L.length 0 l.toNat c.toNat, L ++ [.row t ((repl zero c.toNat).map .v)], true) else none
    | _, _ => none
  | .makeMap => some (.mapr L.length, L ++ [.map [] 0], true)
  | .slice t size x lo hi mx => match peo E lo, peo E hi, peo E mx with
    | some lo, some hi, some mx => match pea E x with
      | some (.slc i o len cap) => match boundsV len cap lo hi mx with
        | some (l, h, m) => if l = 0 ∨ (prow L i).map (·.1) = some t then some (.slc i (o + l * size) (h - l) (m - l), L, true) else none
        | none => none
      | some (.fz t' n cs) => match mx with
        | none => match boundsV n n lo hi none with
          | some (l, h, _) => if t' = t ∧ h * size ≤ cs.length then some (.fz t' (h - l) (cut cs (l * size) ((h - l) * size)), L, true) else none
          | none => none
        | some _ => none
      | some (.v (.slice none len cap)) => match boundsV len cap lo hi mx with
        | some (l, h, m) => some (.v (.slice none (h - l) (m - l)), L, true)
        | none => none
      | _ => none
    | _, _, _ => none
  | .sliceStr x lo hi => match pei E x, peo E lo, peo E hi with
    | some (.string s), some lo, some hi => match boundsV s.size s.size lo hi none with
      | some (l, h, _) => some (.v (.string (s.extract l h)), L, true)
      | none => none
    | _, _, _ => none
  | .sliceArr n size x lo hi mx => match peo E lo, peo E hi, peo E mx with
    | some lo, some hi, some mx => match pea E x with
      | some (.ptr i o) => match boundsV n n lo hi mx with
        | some (l, h, m) => some (.slc i (o + l * size) (h - l) (m - l), L, true)
        | none => none
      | _ => none
    | _, _, _ => none
  | .fieldAddr off x => match pea E x with
    | some (.ptr i o) => some (.ptr i (o + off), L, true)
    | some (.fp cs) => if off ≤ cs.length then some (.fp (cs.drop off), L, true) else none
    | _ => none
  | .field off agg x => match pea E x with
    | some (.agg cs) => aggOf' cs off agg L
    | _ => none
  | .indexAddr size x i => match pea E x, pei E i with
    | some (.slc j o len _), some (.int _ n) => if 0 ≤ n ∧ n < (len : Int) then some (.ptr j (o + n.toNat * size), L, true) else none
    | some (.fz _ len cs), some (.int _ n) => if 0 ≤ n ∧ n < (len : Int) ∧ (cut cs (n.toNat * size) size).length = size then some (.fp (cut cs (n.toNat * size) size), L, true) else none
    | _, _ => none
  | .indexAddrArr len size x i => match pea E x, pei E i with
    | some (.ptr j o), some (.int _ n) => if 0 ≤ n ∧ n < (len : Int) then some (.ptr j (o + n.toNat * size), L, true) else none
    | some (.fp cs), some (.int _ n) => if 0 ≤ n ∧ n < (len : Int) ∧ n.toNat * size ≤ cs.length then some (.fp (cs.drop (n.toNat * size)), L, true) else none
    | _, _ => none
  | .indexStr x i => match pei E x, pei E i with
    | some (.string s), some (.int _ n) => if 0 ≤ n then (match s[n.toNat]? with | some b => some (.v (.int .u8 b.toNat), L, true) | none => none) else none
    | _, _ => none
  | .indexArr len size agg x i => match pea E x, pei E i with
    | some (.agg cs), some (.int _ n) => if 0 ≤ n ∧ n < (len : Int) then aggOf' cs (n.toNat * size) agg L else none
    | _, _ => none
  | .extract x i => match pea E x with
    | some (.tup cs) => match cs[i]? with | some q => some (q, L, true) | none => none
    | _ => none
  | .lookup kk zero ok m k => match pea E m, pei E k, ofV zero with
    | some m, some k, some z => match pmap L m with
      | some (es, _) => if keyOk kk k = true then
          match pfind kk k es 0 with
          | some (some (_, q)) => if nl q = true then some (bif ok then .tup [q, .v (.bool true)] else q, L, true) else none
          | some none => some (bif ok then .tup [z, .v (.bool false)] else z, L, true)
          | none => none
        else none
      | none => none
    | _, _, _ => none
  | .mapUpdate kk m k v => match pea E m, pei E k, pea E v with
    | some (.mapr i), some k, some p => match L[i]? with
      | some (.map es c) => if keyOk kk k = true then
          match pfind kk k es 0 with
          | some (some (j, _)) => some (.tup [], L.set i (.map (es.modify j fun e => (k, p, e.2.2)) c), false)
          | some none => some (.tup [], L.set i (.map (es ++ [(k, p, c)]) (c + 1)), false)
          | none => none
        else none
      | _ => none
    | _, _, _ => none
  | .assertTo t zero ok x => match pea E x, ofV zero with
    | some (.ifc t' p), some z => if t = t' then some (bif ok then .tup [p, .v (.bool true)] else p, L, true) else bif ok then some (.tup [z, .v (.bool false)], L, true) else none
    | some (.v .nilIface), some z => bif ok then some (.tup [z, .v (.bool false)], L, true) else none
    | _, _ => none
  | .lenStr x => match pei E x with
    | some (.string s) => some (.v (mkInt s.size), L, true)
    | _ => none
  | .lenSl x => match pea E x with
    | some (.slc _ _ n _) => some (.v (mkInt n), L, true)
    | some (.fz _ n _) => some (.v (mkInt n), L, true)
    | some (.v (.slice none n _)) => some (.v (mkInt n), L, true)
    | _ => none
  | .lenMap x => match pea E x with
    | some m => match pmap L m with
      | some (es, _) => some (.v (mkInt es.length), L, true)
      | none => none
    | none => none
  | .lenArr n => some (.v (mkInt n), L, true)
  | .append t size bytes s x => match pea E s, pea E x with
    | some s, some x => pappend L t size bytes s x
    | _, _ => none
  | .minMax mx x y => match pei E x, pei E y with
    | some (.int k a), some (.int k' b) => if k = k' then some (.v (.int k (bif mx then (if b > a then b else a) else (if b < a then b else a))), L, true) else none
    | _, _ => none
  | _ => none

variable {ρ ρ' : Rho} {ζ ζ' : Zeta} {A A' : Nat → Prop} {H H' : AH} {f f' : Nat → Nat} {E : PEnv} {e : Env} {L : List LObj}
theorem EnvP.set (h : EnvP ρ ζ E e) {d : Nat} {p : PV} {x : Value} (hv : VP ρ ζ p x) : EnvP ρ ζ (E.set d p) (e.set d x) := by
  intro t q hq
  rw [T.get_set] at hq
  by_cases c : t = d
  · subst c; rw [if_pos rfl] at hq; cases hq; exact ⟨x, by rw [T.get_set, if_pos rfl], hv⟩
  · rw [if_neg c] at hq
    obtain ⟨y, a, b⟩ := h t q hq
    exact ⟨y, by rw [T.get_set, if_neg c]; exact a, b⟩

theorem vl_map {l : List Value} (h : l.all one = true) : VPL ρ ζ (l.map .v) l := by
  induction l with
  | nil => exact .nil
  | cons a l ih =>
    simp only [List.all_cons, Bool.and_eq_true] at h
    exact .cons (.v h.1) (ih h.2)
theorem ofV_ok {x : Value} {p : PV} (h : ofV x = some p) : VP ρ ζ p x := by
  unfold ofV at h
  split at h
  · split at h
    · rename_i a hh; cases h
      have := VP.agg' (vl_map (ρ := ρ) (ζ := ζ) hh)
      simpa using this
    · cases h
  · split at h
    · rename_i a hh; cases h
      have := VP.tup' (vl_map (ρ := ρ) (ζ := ζ) hh)
      simpa using this
    · cases h
  · split at h
    · rename_i f a c hh; cases h
      exact .fn (by simp [hh.1]) (fun i h _ => by simp at h) (by simp [hh.2]) (fun i h _ => by simp at h)
    · cases h; exact .v rfl
  · rename_i h1 h2 _
    cases h
    refine .v ?_
    cases x <;> first | rfl | exact absurd rfl (h1 _) | exact absurd rfl (h2 _)
theorem pea_ok (he : EnvP ρ ζ E e) {a : Arg} {p : PV} (h : pea E a = some p) : ∃ x, ea e a = some x ∧ VP ρ ζ p x := by
  cases a with
  | tmp t => exact he t p h
  | val x => exact ⟨x, rfl, ofV_ok h⟩
theorem VP.v_inv {x y : Value} (h : VP ρ ζ (.v x) y) : y = x ∧ one x = true := by cases h with | v h => exact ⟨rfl, h⟩
theorem pei_ok (he : EnvP ρ ζ E e) {a : Arg} {x : Value} (h : pei E a = some x) : ea e a = some x ∧ one x = true := by
  unfold pei at h
  split at h
  · rename_i y hy
    cases h
    obtain ⟨z, h1, h2⟩ := pea_ok he hy
    obtain ⟨rfl, h3⟩ := h2.v_inv
    exact ⟨h1, h3⟩
  · cases h
theorem peas_ok (he : EnvP ρ ζ E e) : ∀ {as : List Arg} {ps : List PV}, peas E as = some ps → ∃ xs, eas e as = some xs ∧ VPL ρ ζ ps xs := by
  intro as
  induction as with
  | nil => intro ps h; cases h; exact ⟨[], rfl, .nil⟩
  | cons a as ih =>
    intro ps h
    simp only [peas] at h
    split at h
    · rename_i p ps' h1 h2
      cases h
      obtain ⟨x, a1, a2⟩ := pea_ok he h1
      obtain ⟨xs, b1, b2⟩ := ih h2
      exact ⟨x :: xs, by simp only [eas, a1, b1], .cons a2 b2⟩
    · cases h
theorem peap_ok (he : EnvP ρ ζ E e) : ∀ {as : List (Nat × Nat × Arg)} {ps : List (Nat × Nat × PV)}, peap E as = some ps → ∃ xs, eap e as = some xs ∧ F2 (fun p x => p.1 = x.1 ∧ p.2.1 = x.2.1 ∧ VP ρ ζ p.2.2 x.2.2) ps xs := by
  intro as
  induction as with
  | nil => intro ps h; cases h; exact ⟨[], rfl, .nil⟩
  | cons a as ih =>
    obtain ⟨o, n, a⟩ := a
    intro ps h
    simp only [peap] at h
    split at h
    · rename_i p ps' h1 h2
      cases h
      obtain ⟨x, a1, a2⟩ := pea_ok he h1
      obtain ⟨xs, b1, b2⟩ := ih h2
      exact ⟨(o, n, x) :: xs, by simp only [eap, a1, b1], .cons ⟨rfl, rfl, a2⟩ b2⟩
    · cases h
theorem peo_ok (he : EnvP ρ ζ E e) {a : Option Arg} {x : Option Value} (h : peo E a = some x) : eao e a = some x := by
  cases a with
  | none => cases h; rfl
  | some a =>
    simp only [peo] at h
    split at h
    · rename_i y hy; cases h; simp only [eao, (pei_ok he hy).1, Option.map_some]
    · cases h
theorem VP.cells {p : PV} {x : Value} (h : VP ρ ζ p x) : VPL ρ ζ (pcells p) (vcells x) := by
  cases h with
  | v h => cases x <;> first | exact .cons (.v h) .nil | (simp [Den.one] at h)
  | ptr h => exact .cons (.ptr h) .nil
  | slc h h1 => exact .cons (.slc h h1) .nil
  | slcN h => exact .cons (.slcN h) .nil
  | mapr h => exact .cons (.mapr h) .nil
  | yl h => exact .cons (.yl h) .nil
  | fn h1 h2 h3 h4 => exact .cons (.fn h1 h2 h3 h4) .nil
  | ifc h => exact .cons (.ifc h) .nil
  | agg h1 h2 => exact VPL.of_arr h1 h2
  | tup h1 h2 => exact .cons (.tup h1 h2) .nil
  | fz h1 h0 h2 h3 h4 h5 h6 => exact .cons (.fz h1 h0 h2 h3 h4 h5 h6) .nil
  | fz0 h => exact .cons (.fz0 h) .nil
  | fp h1 h0 h3 h4 h5 => exact .cons (.fp h1 h0 h3 h4 h5) .nil
theorem VP.one {p : PV} {x : Value} (h : VP ρ ζ p x) : Den.one x = pone p := by
  cases h with
  | v h => exact h
  | _ => rfl
theorem VP.nl {p : PV} {x : Value} (h : VP ρ ζ p x) : Den.nl p = true := by
  induction h with
  | ifc _ ih => exact ih
  | _ => rfl
theorem VPL.one {ps : List PV} {xs : List Value} (h : VPL ρ ζ ps xs) (ho : ps.all pone = true) : xs.all Den.one = true := by
  induction h with
  | nil => rfl
  | cons h _ ih =>
    simp only [List.all_cons, Bool.and_eq_true] at ho ⊢
    exact ⟨h.one.trans ho.1, ih ho.2⟩
theorem VPL.cut {cs : List PV} {xs : List Value} (h : VPL ρ ζ cs xs) (o n : Nat) : VPL ρ ζ (Den.cut cs o n) ((xs.drop o).take n) := (h.drop o).take n
theorem VPL.splice {cs vs : List PV} {l xs : List Value} {o : Nat} (h : VPL ρ ζ cs l) (hv : VPL ρ ζ vs xs) : VPL ρ ζ (psplice cs o vs) (Den.splice l o xs) := by
  unfold psplice Den.splice
  rw [hv.length]
  exact ((h.take o).append hv).append (h.drop _)
theorem pfill_ok : ∀ {ps : List (Nat × Nat × PV)} {xs : List (Nat × Nat × Value)} {cs : List PV} {l : List Value} {cs' : List PV}, F2 (fun p x => p.1 = x.1 ∧ p.2.1 = x.2.1 ∧ VP ρ ζ p.2.2 x.2.2) ps xs → VPL ρ ζ cs l → pfill cs ps = some cs' → ∃ l', fillL l xs = some l' ∧ VPL ρ ζ cs' l' := by
  intro ps
  induction ps with
  | nil => intro xs cs l cs' h1 h2 h3; cases h1; cases h3; exact ⟨l, rfl, h2⟩
  | cons p ps ih =>
    obtain ⟨o, n, p⟩ := p
    intro xs cs l cs' h1 h2 h3
    cases h1 with
    | cons h1 ht =>
    rename_i x xs
    obtain ⟨o', n', x⟩ := x
    obtain ⟨e1, e2, e3⟩ := h1
    simp only at e1 e2 e3
    subst e1; subst e2
    simp only [pfill] at h3
    split at h3
    · rename_i hc
      obtain ⟨l', a, b⟩ := ih ht (h2.splice e3.cells) h3
      refine ⟨l', ?_, b⟩
      simp only [fillL]
      rw [show (vcells x).length = n from by rw [← e3.cells.length]; exact hc.1]
      rw [show Nat.beq n n = true from Nat.beq_refl n, show Nat.ble (o + n) l.length = true from Nat.ble_eq_true_of_le (by rw [← h2.length]; exact hc.2)]
      exact a
    · cases h3

/-- what an operation does is done -/
def Res (A : Nat → Prop) (ρ : Rho) (ζ : Zeta) (H : AH) (e : Env) (op : IOp) (p : PV) (L' : List LObj) (q : Bool) : Prop :=
  ∃ x H' ρ', (∀ inv, ev inv e H op = some (.ret x, H')) ∧ ρ.Le ρ' ∧ RH A ρ' ζ L' H' ∧ VP ρ' ζ p x ∧ Only H H' A ∧ (q = true → ∀ b, b ≤ H.low → b ≤ H.next → b ≤ H'.low)
theorem Res.pure {op : IOp} {p : PV} {x : Value} {q : Bool} (hr : RH A ρ ζ L H) (h : ∀ inv, ev inv e H op = some (.ret x, H)) (hv : VP ρ ζ p x) : Res A ρ ζ H e op p L q :=
  ⟨x, H, ρ, h, .refl _, hr, hv, Only.refl H A, fun _ _ h _ => h⟩

theorem prow_some {i : Nat} {t : TypeId} {cs : List PV} (h : prow L i = some (t, cs)) : L[i]? = some (.row t cs) := by
  unfold prow at h
  split at h
  · rename_i h1; cases h; exact h1
  · cases h
theorem RHg.row {g : Nat → Nat → Nat} (h : RHg A ρ ζ L H g) {i : Nat} {t : TypeId} {cs : List PV} (hp : prow L i = some (t, cs)) :
    i < L.length ∧ ((∃ k r cells f', ρ i = some (some k) ∧ Own H k r t cells ∧ A k ∧ A r ∧ WL A ρ ζ H f' cs cells ∧ ∀ x, (if x = r then 1 else 0) + f' x ≤ g i x) ∨ (cs = [] ∧ ρ i = some none)) := by
  have h1 := prow_some hp
  exact ⟨(List.getElem?_eq_some_iff.1 h1).1, h.objs _ _ h1⟩
/-- the object that a value points to -/
theorem RHg.rowK {g : Nat → Nat → Nat} (h : RHg A ρ ζ L H g) {i k : Nat} {t : TypeId} {cs : List PV} (hp : prow L i = some (t, cs)) (hk : ρ i = some (some k)) :
    i < L.length ∧ ∃ r cells f', Own H k r t cells ∧ A k ∧ A r ∧ WL A ρ ζ H f' cs cells ∧ ∀ x, (if x = r then 1 else 0) + f' x ≤ g i x := by
  obtain ⟨hi, ⟨k', r, cells, f', h1, h2⟩ | ⟨h1, h2⟩⟩ := h.row hp
  · rw [hk] at h1; cases h1; exact ⟨hi, r, cells, f', h2⟩
  · rw [hk] at h2; cases h2
theorem RHg.rowN {g : Nat → Nat → Nat} (h : RHg A ρ ζ L H g) {i : Nat} {t : TypeId} {cs : List PV} (hp : prow L i = some (t, cs)) (hk : ρ i = some none) : i < L.length ∧ cs = [] := by
  obtain ⟨hi, ⟨k', r, cells, f', h1, h2⟩ | ⟨h1, h2⟩⟩ := h.row hp
  · rw [hk] at h1; cases h1
  · exact ⟨hi, h1⟩
theorem VP.ptr_inv {i o : Nat} {x : Value} (h : VP ρ ζ (.ptr i o) x) : ∃ k, ρ i = some (some k) ∧ x = .pointer (some ⟨k, o, none⟩) := by cases h with | ptr h => exact ⟨_, h, rfl⟩
theorem VP.slc_inv {i o n c : Nat} {x : Value} (h : VP ρ ζ (.slc i o n c) x) : (∃ k, ρ i = some (some k) ∧ n ≤ c ∧ x = .slice (some ⟨k, o, none⟩) n c) ∨ (ρ i = some none ∧ o = 0 ∧ n = 0 ∧ c = 0 ∧ x = .slice none 0 0) := by
  cases h with
  | slc h h1 => exact .inl ⟨_, h, h1, rfl⟩
  | slcN h => exact .inr ⟨h, rfl, rfl, rfl, rfl⟩
theorem VP.fp_inv {cs : List PV} {x : Value} (h : VP ρ ζ (.fp cs) x) : ∃ k o z, ζ k = some z ∧ o ≤ z.cs.length ∧ VPL ρ ζ cs ((z.cs.drop o).take cs.length) ∧ x = .pointer (some ⟨k, o, none⟩) := by
  cases h with | fp h1 h0 h3 h4 h5 => subst h3; exact ⟨_, _, _, h1, h0, F2.of_idx h4 h5, rfl⟩
theorem VP.fz_inv {t : TypeId} {n : Nat} {cs : List PV} {x : Value} (h : VP ρ ζ (.fz t n cs) x) : (n = 0 ∧ cs = [] ∧ ∃ a, x = .slice a 0 0 ∧ ∀ b, a = some b → b.spot.isSome = true) ∨ ∃ k o z cap, ζ k = some z ∧ o ≤ z.cs.length ∧ (z.ex = true ∨ z.t = t) ∧ VPL ρ ζ cs ((z.cs.drop o).take cs.length) ∧ n ≤ cap ∧ x = .slice (some ⟨k, o, none⟩) n cap := by
  cases h with
  | fz h1 h0 h2 h3 h4 h5 h6 => subst h3; exact .inr ⟨_, _, _, _, h1, h0, h2, F2.of_idx h4 h5, h6, rfl⟩
  | fz0 h => exact .inl ⟨rfl, rfl, _, rfl, h⟩
theorem VP.fzN {t : TypeId} : VP ρ ζ (.fz t 0 []) (.slice none 0 0) := .fz0 fun _ h => by cases h
theorem VP.mapr_inv {i : Nat} {x : Value} (h : VP ρ ζ (.mapr i) x) : ∃ k, ρ i = some (some k) ∧ x = .map (some k) := by cases h with | mapr h => exact ⟨_, h, rfl⟩
theorem VP.agg_inv {cs : List PV} {x : Value} (h : VP ρ ζ (.agg cs) x) : ∃ a, x = .agg a ∧ VPL ρ ζ cs a.toList := by cases h with | agg h1 h2 => exact ⟨_, rfl, VPL.of_arr h1 h2⟩
theorem VP.tup_inv {cs : List PV} {x : Value} (h : VP ρ ζ (.tup cs) x) : ∃ a, x = .tuple a ∧ VPL ρ ζ cs a.toList := by cases h with | tup h1 h2 => exact ⟨_, rfl, VPL.of_arr h1 h2⟩
theorem VP.ifc_inv {t : TypeId} {p : PV} {x : Value} (h : VP ρ ζ (.ifc t p) x) : ∃ y, x = .iface t y ∧ VP ρ ζ p y := by cases h with | ifc h => exact ⟨_, rfl, h⟩
theorem VP.fn_inv {f : FuncId} {a c : List PV} {x : Value} (h : VP ρ ζ (.fn f a c) x) : ∃ a' c', x = .func (.func f) a' c' ∧ VPL ρ ζ a a'.toList ∧ VPL ρ ζ c c'.toList := by
  cases h with | fn h1 h2 h3 h4 => exact ⟨_, _, rfl, VPL.of_arr h1 h2, VPL.of_arr h3 h4⟩
theorem frz_row {g : Nat → Nat → Nat} (h : RHg A ρ ζ L H g) {k : Nat} {z : Zr} (hz : ζ k = some z) : H.row k = some z.cs := by
  obtain ⟨h1, _⟩ := h.frz k z hz; exact h1.rowAt.row
theorem frz_ty {g : Nat → Nat → Nat} (h : RHg A ρ ζ L H g) {k : Nat} {z : Zr} {t : TypeId} (hz : ζ k = some z) (ht : z.ex = true ∨ z.t = t) : H.tyOk k t = true := by
  obtain ⟨h1, _⟩ := h.frz k z hz
  obtain ⟨ro, thr, tip, h2⟩ := h1.at_
  unfold AH.tyOk
  rw [h2]
  rcases ht with h3 | h3 <;> simp [h3]
theorem own_ty {k r : Nat} {t : TypeId} {cells : List Value} (h : Own H k r t cells) : H.tyOk k t = true := by
  rcases h.own with ⟨_, ex, thr, _, h2⟩ | ⟨_, ⟨thr, tip, h2⟩, _⟩ <;> simp [AH.tyOk, h2]
/-- a new row -/
theorem RHg.newRow {g : Nat → Nat → Nat} (h : RHg A ρ ζ L H g) {t : TypeId} {cs : List PV} {cells : List Value} (ex : Bool) (hc : VPL ρ ζ cs cells) :
    RH A (ρ.add L.length (some H.next)) ζ (L ++ [.row t cs]) (H.push (.cells cells t false ex H.next H.next H.next)) ∧ Only H (H.push (.cells cells t false ex H.next H.next H.next)) A :=
  ⟨h.push (.inl ⟨H.next, H.next, cells, fun _ => 0, by simp, Own.new H t cells ex, h.acc _ (Nat.le_refl _), h.acc _ (Nat.le_refl _), WL.of_vpl (hc.mono (Rho.le_add h.fresh) (.refl _)), fun x => by simp⟩), Only.push _ _ _⟩
end Go.Den
/- Pen, part D: one operation on trees is right. -/
namespace Go.Den
variable {ρ ρ' : Rho} {ζ ζ' : Zeta} {A A' : Nat → Prop} {H H' : AH} {f f' : Nat → Nat} {E : PEnv} {e : Env} {L L' : List LObj} {g : Nat → Nat → Nat} {p : PV} {q : Bool}

theorem write_wf {k : Nat} {cs' : List Value} (h : H.write k cs' = some H') (hw : ∀ j o, H.get j = some o → j < H.next) : ∀ j o, H'.get j = some o → j < H'.next := by
  unfold AH.write at h
  split at h
  · rename_i cs t ex root thr tip hg
    have hk := hw _ _ hg
    simp only [cond_eq_ite] at h
    split at h
    · split at h
      · cases h; intro j o hj; rw [AH.get_put] at hj; show j < H.next; split at hj
        · omega
        · exact hw _ _ hj
      · cases h
    · split at h
      · rename_i hr
        have hr' := hw _ _ hr
        split at h
        · cases h; intro j o hj; rw [AH.get_put', AH.get_put] at hj; show j < H.next; split at hj
          · omega
          · split at hj
            · omega
            · exact hw _ _ hj
        · cases h
      · cases h
  · cases h
theorem grow_wf {k : Nat} {ae : Bool} {t : TypeId} {cs' : List Value} (h : H.grow k ae t cs' = some H') (hw : ∀ j o, H.get j = some o → j < H.next) : ∀ j o, H'.get j = some o → j < H'.next := by
  have push : ∀ (H1 : AH) (o1 : AObj), (∀ j o, H1.get j = some o → j < H1.next) → ∀ j o, (H1.push o1).get j = some o → j < (H1.push o1).next := by
    intro H1 o1 h1 j o hj
    rw [AH.get_push] at hj
    show j < H1.next + 1
    split at hj
    · omega
    · have := h1 _ _ hj; omega
  have put : ∀ (i : Nat) (o1 o2 : AObj), H.get i = some o2 → ∀ j o, (H.put i o1).get j = some o → j < (H.put i o1).next := by
    intro i o1 o2 hi j o hj
    have := hw _ _ hi
    rw [AH.get_put] at hj; show j < H.next; split at hj
    · omega
    · exact hw _ _ hj
  have put' : ∀ (i : Nat) (o1 o2 : AObj), H.get i = some o2 → ∀ j o, (H.put' i o1).get j = some o → j < (H.put' i o1).next := by
    intro i o1 o2 hi j o hj
    have := hw _ _ hi
    rw [AH.get_put'] at hj; show j < H.next; split at hj
    · omega
    · exact hw _ _ hj
  unfold AH.grow at h
  split at h
  · simp only [cond_eq_ite] at h; split at h <;> cases h; exact push _ _ hw
  · rename_i hg
    simp only [cond_eq_ite] at h
    split at h
    · split at h
      · split at h
        · split at h
          · cases h; exact push _ _ (put' _ _ _ hg)
          · cases h; exact push _ _ (put _ _ _ hg)
        · cases h
      · split at h
        · rename_i hr
          split at h
          · split at h
            · cases h; exact push _ _ (put' _ _ _ hr)
            · cases h; exact push _ _ (put _ _ _ hr)
          · cases h
        · cases h
    · cases h
  · cases h

theorem low_of_only {H H' : AH} {S : Nat → Prop} (h : H'.low = H.low) : ∀ b, b ≤ H.low → b ≤ H.next → b ≤ H'.low := fun b h1 _ => h ▸ h1

theorem unp_vp {x : Value} (h : VP ρ ζ p x) (j : Nat) : unp p j = none := by
  induction h with
  | ifc _ ih => simp [unp, ih]
  | _ => rfl
theorem unp_ok {f : Nat → Nat} {x : Value} (h : WP A ρ ζ H f p x) : ∀ {j : Nat} {q : PV} {ob : LObj}, ρ j = none → unp p j = some (q, ob) → ∃ k, VP (ρ.add j (some k)) ζ q x ∧ OP A (ρ.add j (some k)) ζ H f j ob := by
  induction h with
  | val h => intro j q ob _ h'; rw [unp_vp h] at h'; cases h'
  | ow g h1 h2 h3 h4 h5 h6 h7 _ =>
    rename_i f t n cap k r cs cells _
    intro j q ob hj h'
    simp only [unp, Option.some.injEq, Prod.mk.injEq] at h'
    obtain ⟨rfl, rfl⟩ := h'
    refine ⟨k, .slc Rho.add_self h4, .inl ⟨k, r, cells, fun x => sumN cs.length (fun i => g i x), Rho.add_self, h1, h2, h3, ⟨g, h5, fun i hi hi' => (h6 i hi hi').kp (Kp.refl H (fun _ => False)) (Rho.le_add hj) (.refl _) (fun _ h => h) (fun _ h => h.elim), fun x => Nat.le_refl _⟩, h7⟩⟩
  | bx g h1 h2 h3 h5 h6 h7 _ =>
    rename_i f t k r cs cells _
    intro j q ob hj h'
    simp only [unp, Option.some.injEq, Prod.mk.injEq] at h'
    obtain ⟨rfl, rfl⟩ := h'
    refine ⟨k, .ptr Rho.add_self, .inl ⟨k, r, cells, fun x => sumN cs.length (fun i => g i x), Rho.add_self, h1, h2, h3, ⟨g, h5, fun i hi hi' => (h6 i hi hi').kp (Kp.refl H (fun _ => False)) (Rho.le_add hj) (.refl _) (fun _ h => h) (fun _ h => h.elim), fun x => Nat.le_refl _⟩, h7⟩⟩
  | ifc _ ih =>
    intro j q ob hj h'
    simp only [unp] at h'
    split at h'
    · rename_i q' o' hu
      cases h'
      obtain ⟨k, a, b⟩ := ih hj hu
      exact ⟨k, .ifc a, b⟩
    · cases h'

theorem window {cs : List PV} {l : List Value} {o : Nat} (h : VPL ρ ζ cs ((l.drop o).take cs.length)) (a n : Nat) : VPL ρ ζ (cut cs a n) ((l.drop (o + a)).take (cut cs a n).length) := by
  have h1 := h.cut a n
  have e : (((l.drop o).take cs.length).drop a).take n = (l.drop (o + a)).take (cut cs a n).length := by
    rw [List.drop_take, List.drop_drop, List.take_take]
    simp only [cut, List.length_take, List.length_drop]
  rw [e] at h1; exact h1
theorem window_drop {cs : List PV} {l : List Value} {o : Nat} (h : VPL ρ ζ cs ((l.drop o).take cs.length)) (a : Nat) : VPL ρ ζ (cs.drop a) ((l.drop (o + a)).take (cs.drop a).length) := by
  have h1 := h.drop a
  have e : ((l.drop o).take cs.length).drop a = (l.drop (o + a)).take (cs.drop a).length := by
    rw [List.drop_take, List.drop_drop, List.length_drop]
  rw [e] at h1; exact h1
theorem window_le {cs : List PV} {l : List Value} {o : Nat} (h : VPL ρ ζ cs ((l.drop o).take cs.length)) (ho : o ≤ l.length) : o + cs.length ≤ l.length := by
  have := h.length; simp at this; omega

theorem pload_ok (hg : RHg A ρ ζ L H g) {agg : Option Nat} {a : PV} {x : Value} {ad : Arg} (ha : ea e ad = some x) (hv : VP ρ ζ a x) (h : pload L agg a = some (p, L', q)) : Res A ρ ζ H e (.load agg ad) p L' q := by
  have hr : RH A ρ ζ L H := ⟨g, hg⟩
  unfold pload at h
  split at h
  · rename_i i o
    obtain ⟨k, hk, rfl⟩ := hv.ptr_inv
    split at h
    · rename_i t cs hrow
      obtain ⟨hi, r, cells, f', h2, h3, h4, h5, h6⟩ := hg.rowK hrow hk
      have hrw := h2.rowAt.row
      split at h
      · split at h
        · rename_i y hy
          obtain ⟨c, hc, hw⟩ := h5.get hy
          have hev : ∀ inv, ev inv e H (.load none ad) = some (.ret c, H) := fun inv => by simp only [ev, ha, loadV, hrw, hc, okO, Option.isNone_none, cond_true]
          split at h
          · rename_i hn
            cases h
            exact .pure hr hev (hw.nl hn)
          · split at h
            · rename_i q' ob hu
              cases h
              -- the cell's part and the others
              obtain ⟨ho, hy'⟩ := List.getElem?_eq_some_iff.1 hy
              obtain ⟨fa, fb, w1, w2, w3⟩ := h5.take o
              have hd : cs.drop o = [y] ++ cs.drop (o + 1) := by rw [← hy']; simp
              rw [hd] at w2
              obtain ⟨fc, fd, w4, w5, w6⟩ := w2.split
              have hl := h5.length
              have hdc : cells.drop o = [c] ++ cells.drop (o + 1) := by
                obtain ⟨ho', hc'⟩ := List.getElem?_eq_some_iff.1 hc
                rw [← hc']; simp
              rw [hdc] at w4 w5
              simp only [List.length_cons, List.length_nil, List.cons_append, List.nil_append, List.take_succ_cons, List.take_zero, List.drop_succ_cons, List.drop_zero] at w4 w5
              obtain ⟨c', hc', hw'⟩ := w4.get (o := 0) (p := y) rfl
              simp at hc'; subst hc'
              obtain ⟨k2, u1, u2⟩ := unp_ok hw' hg.fresh hu
              have hkr : Kp H H (fun _ => False) := Kp.refl H _
              have up : ∀ {f : Nat → Nat} {a : List PV} {b : List Value}, WL A ρ ζ H f a b → WL A (ρ.add L.length (some k2)) ζ H f a b := fun w => w.kp hkr (Rho.le_add hg.fresh) (.refl _) (fun _ h => h) (fun _ h => h.elim)
              have hsp : cells = Den.splice cells o [c] := by
                unfold Den.splice
                rw [List.append_assoc]
                conv => lhs; rw [← List.take_append_drop o cells, hdc]
                simp
              refine ⟨c, H, ρ.add L.length (some k2), hev, Rho.le_add hg.fresh, ?_, u1, Only.refl H A, fun _ _ h _ => h⟩
              refine hg.move (R := fun _ => False) (f1 := fun x => (if x = r then 1 else 0) + (fa x + fd x)) (f2 := fc) hi hkr (fun _ h => h.elim) hg.wf (fun x _ => ?_) (fun h => absurd h (Nat.lt_irrefl _)) (fun _ => ?_) (.inl ⟨k, r, cells, fun x => fa x + fd x, Rho.le_add hg.fresh _ _ hk, h2, h3, h4, ?_, fun x => Nat.le_refl _⟩) u2
              · have := w3 x; have := w6 x; have := h6 x; omega
              · have := w3 H.next; have := w6 H.next; have := h6 H.next; omega
              · have hnew := ((up w1).append (WL.of_vpl (f := fun _ => 0) (.cons u1 .nil))).append (up w5)
                have e1 : List.take o cells ++ [c] ++ List.drop (o + 1) cells = cells := by
                  conv => rhs; rw [hsp]
                  simp [Den.splice]
                rw [e1] at hnew
                have e2 : psplice cs o [p] = List.take o cs ++ [p] ++ List.drop (o + 1) cs := by simp [psplice]
                rw [e2]
                exact hnew.le (fun r => by omega)
            · cases h
        · cases h
      · rename_i n
        split at h
        · rename_i hc
          cases h
          obtain ⟨fa, fb, w1, w2, _⟩ := h5.take o
          obtain ⟨fc, fd, w4, w5, _⟩ := w2.take n
          have hvl : VPL ρ ζ (cut cs o n) ((cells.drop o).take n) := w4.vpl hc.2
          refine .pure hr (fun inv => ?_) (VP.agg' hvl)
          have : Nat.ble (o + n) cells.length = true := Nat.ble_eq_true_of_le (by rw [← h5.length]; exact hc.1)
          simp only [ev, ha, loadV, hrw, okO, this, Option.isNone_none, Bool.and_self, cond_true]
        · cases h
    · cases h
  · rename_i cs
    obtain ⟨k, o, z, hz, ho, hvl, rfl⟩ := hv.fp_inv
    have hrw := frz_row hg hz
    have hle := window_le hvl ho
    split at h
    · cases cs with
      | nil => cases h
      | cons q0 cs =>
        cases h
        obtain ⟨c, hc, hw⟩ := hvl.get (i := 0) (a := p) rfl
        have hc' : z.cs[o]? = some c := by simpa [List.getElem?_take, List.getElem?_drop] using hc
        exact .pure hr (fun inv => by simp only [ev, ha, loadV, hrw, hc', okO, Option.isNone_none, cond_true]) hw
    · rename_i n
      split at h
      · rename_i hc
        cases h
        have hvl' := hvl.take n
        rw [List.take_take, Nat.min_eq_left hc.2] at hvl'
        refine .pure hr (fun inv => ?_) (VP.agg' hvl')
        have : Nat.ble (o + n) z.cs.length = true := Nat.ble_eq_true_of_le (by omega)
        simp only [ev, ha, loadV, hrw, okO, this, Option.isNone_none, Bool.and_self, cond_true]
      · cases h
  · cases h

theorem pstore_ok (hg : RHg A ρ ζ L H g) {n i o : Nat} {t : TypeId} {cs : List PV} {y v : Value} {ad vd : Arg} {pv : PV} (ha : ea e ad = some y) (hv : VP ρ ζ (.ptr i o) y) (hb : ea e vd = some v) (hw : VP ρ ζ pv v) (hrow : prow L i = some (t, cs))
    (h1 : (pcells pv).length = n) (h2 : o + n ≤ cs.length) (h3 : (pcells pv).all pone = true) : Res A ρ ζ H e (.store n ad vd) (.tup []) (L.set i (.row t (psplice cs o (pcells pv)))) false := by
  obtain ⟨k, hk, rfl⟩ := hv.ptr_inv
  obtain ⟨hi, r, cells, f', g2, g3, g4, g5, g6⟩ := hg.rowK hrow hk
  have hc := hw.cells
  obtain ⟨H1, a, b, c, d⟩ := g2.write (splice cells o (vcells v))
  have hlen : (vcells v).length = n := by rw [← hc.length]; exact h1
  have hkp := Kp.of_own g2 c
  have hg0 : f' r = 0 ∧ 1 ≤ g i r := by
    have := hg.sum r; have := sumN_le (g := fun i => g i r) hi; have := g6 r; simp at this; omega
  refine ⟨undefV, H1, ρ, fun inv => ?_, .refl _, ⟨g, hg.set hi hg0.2 hkp d (write_wf a hg.wf) (.inl ⟨k, r, _, f', hk, b, g3, g4, ?_, g6⟩)⟩, VP.tup (a := []) (a' := #[]) rfl (fun i h => by simp at h), c.mono ?_, fun h => by cases h⟩
  · have e1 : Nat.beq n n = true := Nat.beq_refl n
    have e2 : Nat.ble (o + n) cells.length = true := Nat.ble_eq_true_of_le (by rw [← g5.length]; exact h2)
    simp only [ev, ha, hb, storeV, g2.rowAt.row, hlen, e1, e2, hc.one h3, Option.isNone_none, Bool.and_self, cond_true, a, ok1]
  · exact (g5.kp hkp (.refl _) (.refl _) (fun _ h => h) (fun x hx => by subst hx; exact hg0.1)).splice hc
  · rintro j (rfl | rfl)
    · exact g4
    · exact g3
end Go.Den
/- Pen, part E: append, comparisons, bounds. -/
namespace Go.Den
variable {ρ ρ' : Rho} {ζ ζ' : Zeta} {A A' : Nat → Prop} {H H' : AH} {f f' : Nat → Nat} {E : PEnv} {e : Env} {L L' : List LObj} {g : Nat → Nat → Nat} {p : PV} {q : Bool}

theorem psrc_ok (hg : RHg A ρ ζ L H g) {size m : Nat} {x : PV} {y : Value} {new : List PV} (hv : VP ρ ζ x y) (h : psrc L size x = some (new, m)) : ∃ cs, srcCells H size y = some (cs, m) ∧ VPL ρ ζ new cs ∧ new.length = m * size := by
  unfold psrc at h
  split at h
  · obtain ⟨rfl, _⟩ := hv.v_inv
    split at h
    · rename_i hn; cases h; exact ⟨[], by simp [srcCells, hn], .nil, by simp⟩
    · cases h
  · rename_i i o n0 c0
    rcases hv.slc_inv with ⟨k, hk, hn, rfl⟩ | ⟨hk, rfl, rfl, rfl, rfl⟩
    case inr =>
      split at h
      · split at h
        · cases h; exact ⟨[], by simp [srcCells], by simp [cut]; exact .nil, by simp [cut]⟩
        · cases h
      · cases h
    split at h
    · rename_i t cs hrow
      obtain ⟨hi, r, cells, f', h2, h3, h4, h5, h6⟩ := hg.rowK hrow hk
      split at h
      · rename_i hc
        cases h
        obtain ⟨fa, fb, w1, w2, _⟩ := h5.take o
        obtain ⟨fc, fd, w4, w5, _⟩ := w2.take (m * size)
        have hvl : VPL ρ ζ (cut cs o (m * size)) ((cells.drop o).take (m * size)) := w4.vpl hc.2
        refine ⟨_, ?_, hvl, by simp [cut]; omega⟩
        have : Nat.ble (o + m * size) cells.length = true := Nat.ble_eq_true_of_le (by rw [← h5.length]; exact hc.1)
        simp only [srcCells, h2.rowAt.row, this, Option.isNone_none, Bool.and_self, cond_true, Option.isSome_none, Bool.false_and, cond_false]
      · cases h
    · cases h
  · split at h
    · rename_i t n cs hc
      cases h
      rcases hv.fz_inv with ⟨rfl, rfl, a, rfl, ha⟩ | ⟨k, o, z, cap, hz, ho, ht, hvl, hn, rfl⟩
      · refine ⟨[], ?_, .nil, by simp⟩
        cases a with
        | none => simp [srcCells]
        | some b => simp [srcCells, ha b rfl]
      · refine ⟨_, ?_, hvl, hc⟩
        have hle := window_le hvl ho
        have : Nat.ble (o + m * size) z.cs.length = true := Nat.ble_eq_true_of_le (by omega)
        simp only [srcCells, frz_row hg hz, this, Option.isNone_none, Bool.and_self, cond_true, hc, Option.isSome_none, Bool.false_and, cond_false]
    · cases h
  · rename_i s
    obtain ⟨rfl, _⟩ := hv.v_inv
    split at h
    · rename_i hs
      cases h
      refine ⟨s.data.toList.map fun b => .int .u8 b.toNat, by simp [srcCells, hs], ?_, by simp [hs]⟩
      refine F2.of_idx (by simp) (fun i h1 h2 => ?_)
      simp only [List.getElem_map]
      exact .v rfl
    · cases h
  · cases h

theorem roomy_ble {n b : Nat} (h : roomy n b) : Nat.ble ((2 * n + 1000) * (b + 1)) 281474976710656 = true := Nat.ble_eq_true_of_le h

theorem pappend_ok (hg : RHg A ρ ζ L H g) {t : TypeId} {size bytes : Nat} {s x : PV} {sv xv : Value} {sd xd : Arg} (hs : ea e sd = some sv) (hx : ea e xd = some xv) (vs : VP ρ ζ s sv) (vx : VP ρ ζ x xv) (h : pappend L t size bytes s x = some (p, L', q)) : Res A ρ ζ H e (.append t size bytes sd xd) p L' q := by
  have hr : RH A ρ ζ L H := ⟨g, hg⟩
  have hev : ∀ inv, ev inv e H (.append t size bytes sd xd) = appendV H t size bytes sv xv := fun inv => by simp only [ev, hs, hx]
  unfold pappend at h
  split at h
  · cases h
  rename_i new m hsrc
  obtain ⟨nc, hnc, hnv, hnm⟩ := psrc_ok hg vx hsrc
  have hm0' : m = 0 → new = [] := fun h0 => List.eq_nil_of_length_eq_zero (by rw [hnm, h0]; simp)
  have hnl := hnv.length
  split at h
  · rename_i len cap
    obtain ⟨rfl, _⟩ := vs.v_inv
    split at h
    · rename_i hc
      obtain ⟨rfl, rfl, hsz, hb, hone⟩ := hc
      cases h
      by_cases hm : m = 0
      · subst hm
        have hnil := hm0' rfl
        subst hnil
        exact ⟨.slice none 0 0, H, _, fun inv => by rw [hev]; simp [appendV, hnc, ok1], Rho.le_add hg.fresh, hg.pushN (.inr ⟨rfl, Rho.add_self⟩), .slcN Rho.add_self, Only.refl _ _, fun _ _ h _ => h⟩
      · obtain ⟨a, b⟩ := hg.newRow (t := t) false hnv
        refine ⟨.slice (some ⟨H.next, 0, none⟩) (0 + m) (0 + m), _, _, fun inv => ?_, Rho.le_add hg.fresh, a, by rw [Nat.zero_add]; exact .slc Rho.add_self (Nat.le_refl _), b, fun _ _ h _ => h⟩
        rw [hev]
        have hm1 : Nat.ble (0 + m) 0 = false := ble_false (by omega)
        have hb : Nat.ble ((2 * (0 + m) + 1000) * (bytes + 1)) 281474976710656 = true := by rw [Nat.zero_add]; exact roomy_ble hb
        have hs1 : Nat.ble 1 size = true := ble_true hsz
        unfold appendV
        rw [hnc]
        simp only
        rw [hm1, cond_false, hb, cond_true, hs1]
        rfl
    · cases h
  · rename_i t' n cs
    split at h
    · rename_i hm
      cases h; subst hm
      rcases vs.fz_inv with ⟨rfl, rfl, a, rfl, ha⟩ | ⟨k, o, z, cap, hz, ho, ht, hvl, hn, rfl⟩
      · refine .pure hr (fun inv => ?_) vs
        rw [hev]
        cases a <;> simp [appendV, hnc, ok1]
      · exact .pure hr (fun inv => by
          rw [hev]
          unfold appendV; rw [hnc]; simp only
          rw [ble_true (show n + 0 ≤ cap from hn), cond_true]
          rfl) vs
    · cases h
  · rename_i i o len cap
    split at h
    case h_2 => cases h
    rename_i t' cs hrow
    -- behind all that is there
    have grown : ∀ (k : Nat), ρ i = some (some k) → sv = .slice (some ⟨k, o, none⟩) len cap → m ≠ 0 → ¬ len + m ≤ cap → allOne new → t' = t → roomy (len + m) bytes → o + len * size ≤ cs.length → 1 ≤ size →
        Res A ρ ζ H e (.append t size bytes sd xd) (.slc L.length 0 (len + m) (len + m)) (L.set i .dead ++ [.row t (cut cs o (len * size) ++ new)]) (decide (o + len * size = cs.length ∧ len = cap)) := by
      intro k hk hsv hm hroom hone ht hb hfit hsz
      subst hsv; subst ht
      have hone' := hnv.one hone
      obtain ⟨hi, r, cells, f', h2, h3, h4, h5, h6⟩ := hg.rowK hrow hk
      have hcl := h5.length
      have hg0 : f' r = 0 ∧ 1 ≤ g i r := by
        have := hg.sum r; have := sumN_le (g := fun i => g i r) hi; have := h6 r; simp at this; omega
      obtain ⟨H1, r', a, b, c, d, e1, e2⟩ := h2.grow (Nat.beq (o + len * size) cells.length && Nat.beq len cap) ((cells.drop o).take (len * size) ++ nc)
      have c' : Only H H1 (fun j => j = r ∨ j = k) := c.mono (fun j hj => .inl hj)
      have hkp := Kp.of_own h2 c'
      have hadd : ∀ {f : Nat → Nat} {a : List PV} {b : List Value}, (f r = 0) → WL A ρ ζ H f a b → WL A (ρ.add L.length (some H.next)) ζ H1 f a b := fun h0 w => w.kp hkp (Rho.le_add hg.fresh) (.refl _) (fun _ h => h) (fun x hx => by subst hx; exact h0)
      obtain ⟨fa, fb, w1, w2, w3⟩ := h5.take o
      obtain ⟨fc, fd, w4, w5, w6⟩ := w2.take (len * size)
      have hfc : ∀ x, fc x ≤ f' x := fun x => by have := w3 x; have := w6 x; omega
      have hkn := h2.lt
      have hrk := h2.rowAt.le
      have hnn : g i H.next = 0 := by have := hg.bnd _ (Nat.le_refl H.next); have := sumN_le (g := fun i => g i H.next) hi; omega
      have hfn : fc H.next = 0 := by have := hfc H.next; have := h6 H.next; omega
      have hA : A H.next := hg.acc _ (Nat.le_refl _)
      have hAr : A r' := by rcases d with rfl | rfl <;> assumption
      refine ⟨.slice (some ⟨H.next, 0, none⟩) (len + m) (len + m), H1, ρ.add L.length (some H.next), fun inv => ?_, Rho.le_add hg.fresh, ?_, .slc Rho.add_self (Nat.le_refl _), c.mono (fun j hj => by subst hj; exact h4), fun hq => ?_⟩
      · rw [hev]
        unfold appendV
        rw [hnc]
        simp only
        rw [ble_false hroom, cond_false, roomy_ble hb, cond_true, h2.rowAt.row]
        simp only [Option.isNone_none, Bool.true_and, hone', Bool.and_true, ble_true hsz, ble_true (show o + len * size ≤ cells.length by omega), cond_true, a, ok1]
      · refine hg.move (R := (· = r)) (f1 := fun _ => 0) (f2 := fun x => (if x = r' then 1 else 0) + fc x) hi hkp (fun x hx => by subst hx; exact hg0.2) (grow_wf a hg.wf) (fun x hx => ?_) (fun _ => ?_) (fun h => ?_) trivial (.inl ⟨H.next, r', _, fc, Rho.add_self, b, hA, hAr, ?_, fun x => Nat.le_refl _⟩)
        · have q1 := hfc x; have q2 := h6 x
          rcases d with rfl | rfl
          · omega
          · simp [hx]; omega
        · simp only [hfn]; split <;> omega
        · omega
        · have := (hadd (by have := hfc r; omega) w4).append (WL.of_vpl (f := fun _ => 0) (hnv.mono (Rho.le_add hg.fresh) (.refl _)))
          exact this.le (fun x => by simp)
      · have hq' : (Nat.beq (o + len * size) cells.length && Nat.beq len cap) = true := by
          have := of_decide_eq_true hq
          rw [← hcl, this.1, this.2]; simp
        exact low_of_only (S := fun _ => False) (e2 hq')
    split at h
    · rename_i hc
      obtain ⟨hone, rfl, rfl, rfl, hcs, hsz, hb⟩ := hc
      cases h
      by_cases hm : m = 0
      · subst hm
        have hnil := hm0' rfl
        subst hnil
        rcases vs.slc_inv with ⟨k, hk, hlc, rfl⟩ | ⟨hk, _, rfl, _, rfl⟩
        · obtain ⟨hi, r, cells, f', h2, h3, h4, h5, h6⟩ := hg.rowK hrow hk
          refine ⟨.slice (some ⟨k, 0, none⟩) len len, H, ρ.add L.length (some k), fun inv => ?_, Rho.le_add hg.fresh, ?_, .slc Rho.add_self (Nat.le_refl _), Only.refl _ _, fun _ _ h _ => h⟩
          · rw [hev]; unfold appendV; rw [hnc]; simp only
            rw [ble_true (show len + 0 ≤ len from Nat.le_refl _), cond_true]
            rfl
          · refine hg.move (R := fun _ => False) (f1 := fun _ => 0) (f2 := g i) hi (Kp.refl H _) (fun _ h => h.elim) hg.wf (fun x _ => by omega) (fun h => absurd h (Nat.lt_irrefl _)) (fun _ => by omega) trivial (.inl ⟨k, r, cells, f', Rho.add_self, h2, h3, h4, ?_, h6⟩)
            rw [List.append_nil]
            exact h5.kp (Kp.refl H (fun _ => False)) (Rho.le_add hg.fresh) (.refl _) (fun _ h => h) (fun _ h => h.elim)
        · obtain ⟨hi, rfl⟩ := hg.rowN hrow hk
          refine ⟨.slice none 0 0, H, ρ.add L.length none, fun inv => by rw [hev]; simp [appendV, hnc, ok1], Rho.le_add hg.fresh, ?_, .slcN Rho.add_self, Only.refl _ _, fun _ _ h _ => h⟩
          exact hg.move (R := fun _ => False) (f1 := fun _ => 0) (f2 := fun _ => 0) hi (Kp.refl H _) (fun _ h => h.elim) hg.wf (fun x _ => by omega) (fun h => absurd h (Nat.lt_irrefl _)) (fun _ => by omega) trivial (.inr ⟨rfl, Rho.add_self⟩)
      · rcases vs.slc_inv with ⟨k, hk, hlc, rfl⟩ | ⟨hk, _, rfl, _, rfl⟩
        · have h9 := grown k hk rfl hm (by omega) hone rfl hb (by omega) hsz
          have e1 : cut cs 0 (len * size) = cs := by simp [cut, ← hcs]
          have e2 : decide (0 + len * size = cs.length ∧ len = len) = true := by simp [hcs]
          rw [e1, e2] at h9
          exact h9
        · obtain ⟨hi, rfl⟩ := hg.rowN hrow hk
          refine ⟨.slice (some ⟨H.next, 0, none⟩) (0 + m) (0 + m), H.push (.cells nc t' false false H.next H.next H.next), ρ.add L.length (some H.next), fun inv => ?_, Rho.le_add hg.fresh, ?_, .slc Rho.add_self (Nat.le_refl _), Only.push _ _ _, fun _ _ h _ => h⟩
          · rw [hev]
            have hm1 : Nat.ble (0 + m) 0 = false := ble_false (by omega)
            have hs1 : Nat.ble 1 size = true := ble_true hsz
            unfold appendV
            rw [hnc]
            simp only
            rw [hm1, cond_false, roomy_ble hb, cond_true, hs1]
            rfl
          · have hnn : g i H.next = 0 := by have := hg.bnd _ (Nat.le_refl H.next); have := sumN_le (g := fun i => g i H.next) hi; omega
            refine hg.move (R := fun _ => False) (f1 := fun _ => 0) (f2 := fun x => if x = H.next then 1 else 0) hi (Kp.push H _) (fun _ h => h.elim) ?_ (fun x hx => by simp [hx]) (fun _ => by simp) (fun h => by simp at h) trivial
              (.inl ⟨H.next, H.next, nc, fun _ => 0, Rho.add_self, Own.new H t' nc false, hg.acc _ (Nat.le_refl _), hg.acc _ (Nat.le_refl _), WL.of_vpl (hnv.mono (Rho.le_add hg.fresh) (.refl _)), fun x => by simp⟩)
            intro j ob hj
            rw [AH.get_push] at hj
            show j < H.next + 1
            split at hj
            · omega
            · have := hg.wf _ _ hj; omega
    · split at h
      · rename_i hm
        cases h; subst hm
        rcases vs.slc_inv with ⟨k, hk, hlc, rfl⟩ | ⟨hk, rfl, rfl, rfl, rfl⟩
        · exact .pure hr (fun inv => by
            rw [hev]
            unfold appendV; rw [hnc]; simp only
            rw [ble_true (show len + 0 ≤ cap from hlc), cond_true]
            rfl) vs
        · exact .pure hr (fun inv => by rw [hev]; simp [appendV, hnc, ok1]) vs
      · rename_i hm
        have hm0 : (m == 0) = false := by simp; omega
        split at h
        · rename_i hone
          have hone' := hnv.one hone
          split at h
          · rename_i hroom
            split at h
            · rename_i hfit
              cases h
              rcases vs.slc_inv with ⟨k, hk, hlc, rfl⟩ | ⟨hk, rfl, rfl, rfl, rfl⟩
              case inr => omega
              obtain ⟨hi, r, cells, f', h2, h3, h4, h5, h6⟩ := hg.rowK hrow hk
              have hcl := h5.length
              have hg0 : f' r = 0 ∧ 1 ≤ g i r := by
                have := hg.sum r; have := sumN_le (g := fun i => g i r) hi; have := h6 r; simp at this; omega
              obtain ⟨H1, a, b, c, d⟩ := h2.write (splice cells (o + len * size) nc)
              have hkp := Kp.of_own h2 c
              refine ⟨.slice (some ⟨k, o, none⟩) (len + m) cap, H1, ρ, fun inv => ?_, .refl _, ⟨g, hg.set hi hg0.2 hkp d (write_wf a hg.wf) (.inl ⟨k, r, _, f', hk, b, h3, h4, ?_, h6⟩)⟩, .slc hk hroom, c.mono ?_, fun h => by cases h⟩
              · rw [hev]
                unfold appendV
                rw [hnc]
                simp only
                rw [ble_true hroom, cond_true, h2.rowAt.row]
                simp only [hm0, cond_false, Option.isNone_none, Bool.true_and, hone', Bool.and_true, ble_true (show o + len * size + nc.length ≤ cells.length by omega), cond_true, a, ok1]
              · exact (h5.kp hkp (.refl _) (.refl _) (fun _ h => h) (fun x hx => by subst hx; exact hg0.1)).splice hnv
              · rintro j (rfl | rfl)
                · exact h4
                · exact h3
            · cases h
          · rename_i hroom
            split at h
            · rename_i hc
              cases h
              obtain ⟨ht, hb, hfit, hsz⟩ := hc
              rcases vs.slc_inv with ⟨k, hk, hlc, rfl⟩ | ⟨hk, rfl, rfl, rfl, rfl⟩
              · exact grown k hk rfl hm hroom hone ht hb hfit hsz
              · obtain ⟨hi, rfl⟩ := hg.rowN hrow hk
                rename_i hnf
                exact absurd ⟨hone, rfl, rfl, ht, by simp, hsz, hb⟩ hnf
            · cases h
        · cases h
  · cases h

theorem peqNil_ok {k : NilK} {a b : PV} {x y : Value} {r : Bool} (ha : VP ρ ζ a x) (hb : VP ρ ζ b y) (h : peqNil k a b = some r) : eqNilV k x y = some r := by
  unfold peqNil at h
  split at h
  · rw [ha.v_inv.1, hb.v_inv.1]; exact h
  · split at h
    · cases h
    · rename_i hn
      rw [hb.v_inv.1]
      rcases ha.slc_inv with ⟨_, _, _, rfl⟩ | ⟨_, _, rfl, _⟩
      · cases h; rfl
      · exact absurd rfl hn
  · split at h
    · cases h
    · rename_i hn
      rw [ha.v_inv.1]
      rcases hb.slc_inv with ⟨_, _, _, rfl⟩ | ⟨_, _, rfl, _⟩
      · cases h; rfl
      · exact absurd rfl hn
  · split at h
    · cases h
    · rename_i hn
      rw [hb.v_inv.1]
      rcases ha.fz_inv with ⟨rfl, _, _⟩ | ⟨_, _, _, _, _, _, _, _, _, rfl⟩
      · exact absurd rfl hn
      · cases h; rfl
  · split at h
    · cases h
    · rename_i hn
      rw [ha.v_inv.1]
      rcases hb.fz_inv with ⟨rfl, _, _⟩ | ⟨_, _, _, _, _, _, _, _, _, rfl⟩
      · exact absurd rfl hn
      · cases h; rfl
  · obtain ⟨_, _, rfl⟩ := ha.mapr_inv; rw [hb.v_inv.1]; cases h; rfl
  · obtain ⟨_, _, rfl⟩ := hb.mapr_inv; rw [ha.v_inv.1]; cases h; rfl
  · obtain ⟨_, _, rfl, _⟩ := ha.fn_inv; rw [hb.v_inv.1]; cases h; rfl
  · obtain ⟨_, _, rfl, _⟩ := hb.fn_inv; rw [ha.v_inv.1]; cases h; rfl
  · obtain ⟨_, _, rfl⟩ := ha.ptr_inv; rw [hb.v_inv.1]; cases h; rfl
  · obtain ⟨_, _, rfl⟩ := hb.ptr_inv; rw [ha.v_inv.1]; cases h; rfl
  · obtain ⟨_, _, _, _, _, _, rfl⟩ := ha.fp_inv; rw [hb.v_inv.1]; cases h; rfl
  · obtain ⟨_, _, _, _, _, _, rfl⟩ := hb.fp_inv; rw [ha.v_inv.1]; cases h; rfl
  · cases h

theorem boundV_le {x : Value} {y n : Nat} (h : boundV x y = some n) : n ≤ y := by
  unfold boundV at h
  split at h
  · split at h
    · cases h; omega
    · cases h
  · cases h
theorem boundV_up {x : Value} {y y' n : Nat} (h : boundV x y = some n) (hy : y ≤ y') : boundV x y' = some n := by
  unfold boundV at h ⊢
  split at h
  · split at h
    · rw [if_pos (by omega)]; exact h
    · cases h
  · cases h
theorem boundsV_le {len cap l h m : Nat} {lo hi mx : Option Value} (hl : len ≤ cap) (hb : boundsV len cap lo hi mx = some (l, h, m)) : l ≤ h ∧ h ≤ m ∧ m ≤ cap := by
  unfold boundsV at hb
  split at hb
  · cases hb
  rename_i m1 hm
  have hm1 : m1 ≤ cap := by
    cases mx with
    | none => cases hm; exact Nat.le_refl _
    | some v => exact boundV_le hm
  split at hb
  · cases hb
  rename_i h1 hh
  have hh1 : h1 ≤ m1 := by
    cases hi with
    | none => cases mx with
      | none => cases hm; cases hh; exact hl
      | some _ => cases hh
    | some v => exact boundV_le hh
  split at hb
  · cases hb
  rename_i l1 hll
  have hl1 : l1 ≤ h1 := by
    cases lo with
    | none => cases hll; exact Nat.zero_le _
    | some v => exact boundV_le hll
  cases hb
  exact ⟨hl1, hh1, hm1⟩
theorem boundsV_up {n cap l h m : Nat} {lo hi : Option Value} (hl : n ≤ cap) (hb : boundsV n n lo hi none = some (l, h, m)) : boundsV n cap lo hi none = some (l, h, cap) ∧ m = n := by
  unfold boundsV at hb ⊢
  simp only at hb ⊢
  cases hi with
  | none =>
    simp only at hb ⊢
    split at hb
    · cases hb
    · rename_i l1 hll; cases hb; exact ⟨rfl, rfl⟩
  | some v =>
    simp only at hb ⊢
    split at hb
    · cases hb
    · rename_i h1 hh
      rw [boundV_up hh hl]
      simp only
      split at hb
      · cases hb
      · rename_i l1 hll; cases hb; exact ⟨rfl, rfl⟩

theorem repl_one {zero : List Value} (h : zero.all one = true) : ∀ n, (repl zero n).all one = true := by
  intro n
  induction n with
  | zero => rfl
  | succ n ih => simp only [repl, List.all_append, h, ih, Bool.and_self]
theorem pfind_ok {kk : KeyK} {k : Value} : ∀ {es : List (Value × PV × Nat)} {es' : List MapEntry} {i : Nat}, F2 (fun x y => x.1 = y.key ∧ x.2.2 = y.born) es es' → ∀ {r}, pfind kk k es i = some r →
    (r = none ∧ findKeyL kk k es' i = some none) ∨ ∃ d a x, r = some (i + d, a) ∧ (es.map (·.2.1))[d]? = some a ∧ (es'.map (·.val))[d]? = some x ∧ findKeyL kk k es' i = some (some (i + d, x)) := by
  intro es
  induction es with
  | nil => intro es' i h r hr; cases h; cases hr; exact .inl ⟨rfl, rfl⟩
  | cons a es ih =>
    intro es' i h r hr
    cases h with
    | cons h1 ht =>
    rename_i b es'
    simp only [pfind] at hr
    split at hr
    · rename_i hk
      cases hr
      refine .inr ⟨0, a.2.1, b.val, rfl, rfl, rfl, ?_⟩
      simp only [findKeyL, ← h1.1, hk]; rfl
    · rename_i hk
      rcases ih ht hr with ⟨rfl, h2⟩ | ⟨d, y, x, rfl, h2, h3, h4⟩
      · exact .inl ⟨rfl, by simp only [findKeyL, ← h1.1, hk]; exact h2⟩
      · refine .inr ⟨d + 1, y, x, by rw [show i + (d + 1) = i + 1 + d by omega], by simpa using h2, by simpa using h3, ?_⟩
        simp only [findKeyL, ← h1.1, hk]
        rw [h4, show i + 1 + d = i + (d + 1) by omega]
    · cases hr
theorem pmap_ok (hg : RHg A ρ ζ L H g) {a : PV} {x : Value} {es : List (Value × PV × Nat)} {c : Nat} (hv : VP ρ ζ a x) (h : pmap L a = some (es, c)) : ∃ es' f', mapOf H x = some es' ∧ EL A ρ ζ H f' es es' := by
  unfold pmap at h
  split at h
  · obtain ⟨k, hk, rfl⟩ := hv.mapr_inv
    split at h
    · rename_i i es0 c0 hL
      cases h
      obtain ⟨k', es', f', h1, h2, h3, h4, h5, h6⟩ := hg.objs _ _ hL
      rw [hk] at h1; cases h1
      exact ⟨es', f', by simp only [mapOf, h3], h5⟩
    · cases h
  · obtain ⟨rfl, _⟩ := hv.v_inv
    cases h
    exact ⟨[], fun _ => 0, rfl, .nil, WL.of_vpl .nil⟩
  · cases h
end Go.Den
/- Pen, part F: every operation on trees is right. -/
namespace Go.Den
variable {ρ ρ' : Rho} {ζ ζ' : Zeta} {A A' : Nat → Prop} {H H' : AH} {f f' : Nat → Nat} {E : PEnv} {e : Env} {L L' : List LObj} {g : Nat → Nat → Nat} {p : PV} {q : Bool}

theorem aggOf_ok (hr : RH A ρ ζ L H) {cs : List PV} {a : Array Value} (hv : VPL ρ ζ cs a.toList) {o : Nat} {agg : Option Nat} {op : IOp} (h : aggOf' cs o agg L = some (p, L', q))
    (hev : ∀ inv x, (match agg with | none => a.toList[o]? | some n => some (.agg ((a.toList.drop o).take n).toArray)) = some x → ev inv e H op = some (.ret x, H)) : Res A ρ ζ H e op p L' q := by
  unfold aggOf' at h
  split at h
  · split at h
    · rename_i hq
      cases h
      obtain ⟨c, hc, hw⟩ := hv.get hq
      exact .pure hr (fun inv => hev inv c hc) hw
    · cases h
  · cases h
    exact .pure hr (fun inv => hev inv _ rfl) (VP.agg' (hv.cut _ _))

theorem modify_map {α β : Type} (g : α → β) (f : α → α) (y : β) (hy : ∀ a, g (f a) = y) : ∀ (l : List α) (j : Nat), j < l.length → (l.modify j f).map g = (l.map g).take j ++ [y] ++ (l.map g).drop (j + 1) := by
  intro l
  induction l with
  | nil => intro j h; simp at h
  | cons a l ih =>
    intro j h
    cases j with
    | zero => simp [hy]
    | succ j =>
      have := ih j (by simpa using h)
      simpa using this

set_option maxHeartbeats 1000000 in
theorem pev_ok (hg : RHg A ρ ζ L H g) (he : EnvP ρ ζ E e) {op : IOp} (h : pev E L op = some (p, L', q)) : Res A ρ ζ H e op p L' q := by
  have hr : RH A ρ ζ L H := ⟨g, hg⟩
  cases op with
  | mov x =>
    simp only [pev] at h
    split at h
    · rename_i hx; cases h
      obtain ⟨y, h1, h2⟩ := pea_ok he hx
      exact .pure hr (fun inv => by simp only [ev, h1, okO]) h2
    · cases h
  | pick c a b =>
    simp only [pev] at h
    split at h
    · rename_i t hc
      obtain ⟨h1, _⟩ := pei_ok he hc
      split at h
      · rename_i hx; cases h
        cases t with
        | true =>
          obtain ⟨y, h2, h3⟩ := pea_ok he (by simpa only [cond_true] using hx)
          exact .pure hr (fun inv => by simp only [ev, h1, h2, okO, cond_true]) h3
        | false =>
          obtain ⟨y, h2, h3⟩ := pea_ok he (by simpa only [cond_false] using hx)
          exact .pure hr (fun inv => by simp only [ev, h1, h2, okO, cond_false]) h3
      · cases h
    · cases h
  | box t x =>
    simp only [pev] at h
    split at h
    · rename_i hx; cases h
      obtain ⟨y, h1, h2⟩ := pea_ok he hx
      obtain ⟨a, b⟩ := hg.newRow (t := t) true h2.cells
      exact ⟨_, _, _, fun inv => by simp only [ev, h1]; rfl, Rho.le_add hg.fresh, a, .ptr Rho.add_self, b, fun _ _ h _ => h⟩
    · cases h
  | build zero ps =>
    simp only [pev] at h
    split at h
    · rename_i hx
      obtain ⟨ys, h1, h2⟩ := peap_ok he hx
      split at h
      · rename_i hz
        split at h
        · rename_i hf; cases h
          obtain ⟨l', a, b⟩ := pfill_ok h2 (vl_map hz) hf
          exact .pure hr (fun inv => by simp only [ev, h1, a, ok1]) (VP.agg' b)
        · cases h
      · cases h
    · cases h
  | buildSlice t len zero ps =>
    simp only [pev] at h
    split at h
    · rename_i hx
      obtain ⟨ys, h1, h2⟩ := peap_ok he hx
      split at h
      · rename_i hz
        split at h
        · rename_i hf; cases h
          obtain ⟨l', a, b⟩ := pfill_ok h2 (vl_map hz) hf
          obtain ⟨c, d⟩ := hg.newRow (t := t) true b
          exact ⟨_, _, _, fun inv => by simp only [ev, h1, a]; rfl, Rho.le_add hg.fresh, c, .slc Rho.add_self (Nat.le_refl _), d, fun _ _ h _ => h⟩
        · cases h
      · cases h
    · cases h
  | load agg a =>
    simp only [pev] at h
    split at h
    · rename_i hx
      obtain ⟨y, h1, h2⟩ := pea_ok he hx
      exact pload_ok hg h1 h2 h
    · cases h
  | store n a v =>
    simp only [pev] at h
    split at h
    · rename_i i o pv h1 h2
      obtain ⟨y, a1, a2⟩ := pea_ok he h1
      obtain ⟨z, b1, b2⟩ := pea_ok he h2
      split at h
      · rename_i hrow
        split at h
        · rename_i hc
          cases h
          exact pstore_ok hg a1 a2 b1 b2 hrow hc.1 hc.2.1 hc.2.2
        · cases h
      · cases h
    · cases h
  | nilCheck x =>
    simp only [pev] at h
    split at h
    · rename_i hx; cases h
      obtain ⟨y, h1, h2⟩ := pea_ok he hx
      obtain ⟨k, hk, rfl⟩ := h2.ptr_inv
      exact .pure hr (fun inv => by simp only [ev, h1, ok1]) h2
    · rename_i hx; cases h
      obtain ⟨y, h1, h2⟩ := pea_ok he hx
      obtain ⟨k, o, z, _, _, _, rfl⟩ := h2.fp_inv
      exact .pure hr (fun inv => by simp only [ev, h1, ok1]) h2
    · rename_i hx; cases h
      obtain ⟨y, h1, h2⟩ := pea_ok he hx
      obtain ⟨a, c, rfl, _⟩ := h2.fn_inv
      exact .pure hr (fun inv => by simp only [ev, h1, ok1]) h2
    · cases h
  | arith op x y =>
    simp only [pev] at h
    split at h
    · rename_i hx hy
      obtain ⟨h1, _⟩ := pei_ok he hx
      obtain ⟨h2, _⟩ := pei_ok he hy
      split at h
      · rename_i r hr'
        split at h
        · rename_i ho; cases h
          exact .pure hr (fun inv => by simp only [ev, h1, h2, hr', okO]) (.v ho)
        · cases h
      · cases h
    · cases h
  | eqBool neg x y =>
    simp only [pev] at h
    split at h
    · rename_i hx hy
      obtain ⟨h1, _⟩ := pei_ok he hx
      obtain ⟨h2, _⟩ := pei_ok he hy
      cases h
      exact .pure hr (fun inv => by simp only [ev, h1, h2, ok1]) (.v rfl)
    · cases h
  | eqNil k neg x y =>
    simp only [pev] at h
    split at h
    · rename_i hx hy
      obtain ⟨a, h1, h3⟩ := pea_ok he hx
      obtain ⟨b, h2, h4⟩ := pea_ok he hy
      split at h
      · rename_i r hr'; cases h
        exact .pure hr (fun inv => by simp only [ev, h1, h2, peqNil_ok h3 h4 hr', ok1]) (.v rfl)
      · cases h
    · cases h
  | eqPtr neg x y =>
    simp only [pev] at h
    split at h
    · rename_i i o j o' hx hy
      obtain ⟨a, h1, h3⟩ := pea_ok he hx
      obtain ⟨b, h2, h4⟩ := pea_ok he hy
      split at h
      · rename_i hij; cases h; subst hij
        obtain ⟨k, hk, rfl⟩ := h3.ptr_inv
        obtain ⟨k', hk', rfl⟩ := h4.ptr_inv
        rw [hk] at hk'; cases hk'
        refine .pure hr (x := .bool ((o == o') != neg)) (fun inv => ?_) (.v rfl)
        simp only [ev, h1, h2, ok1, Nat.beq_refl, cond_true]
        congr 4
        by_cases ho : o = o'
        · subst ho; simp
        · have : (({ block := k, off := o, spot := none } : Addr) == { block := k, off := o', spot := none }) = false := by
            apply beq_eq_false_iff_ne.2; intro hh; cases hh; exact ho rfl
          rw [this]; rw [show (o == o') = false from beq_eq_false_iff_ne.2 ho]
      · cases h
    · rename_i hno hx hy
      obtain ⟨a, h1, h3⟩ := pea_ok he hx
      obtain ⟨b, h2, h4⟩ := pea_ok he hy
      split at h
      · rename_i r hr'; cases h
        have hq := peqNil_ok h3 h4 hr'
        refine .pure hr (x := .bool (r != neg)) (fun inv => ?_) (.v rfl)
        simp only [ev, h1, h2]
        split
        · rename_i a' b' e1 e2
          cases e1; cases e2
          simp [eqNilV] at hq
        · rename_i e1 e2; cases e1; cases e2; simp only [hq, ok1]
        · rename_i hno' ; exact absurd rfl (hno' _ _ rfl)
      · cases h
    · cases h
  | un op x =>
    simp only [pev] at h
    split at h
    · rename_i hx
      obtain ⟨h1, _⟩ := pei_ok he hx
      split at h
      · rename_i r hr'
        split at h
        · rename_i ho; cases h
          exact .pure hr (fun inv => by simp only [ev, h1, hr', okO]) (.v ho)
        · cases h
      · cases h
    · cases h
  | toInt k x =>
    simp only [pev] at h
    split at h
    · rename_i hx
      obtain ⟨h1, _⟩ := pei_ok he hx
      cases h
      exact .pure hr (fun inv => by simp only [ev, h1, ok1]) (.v rfl)
    · cases h
  | iface t x =>
    simp only [pev] at h
    split at h
    · rename_i hx; cases h
      obtain ⟨y, h1, h2⟩ := pea_ok he hx
      exact .pure hr (fun inv => by simp only [ev, h1, ok1]) (.ifc h2)
    · cases h
  | func fn first captured =>
    simp only [pev] at h
    split at h
    · rename_i a b hx hy; cases h
      obtain ⟨xs, h1, h3⟩ := peas_ok he hx
      obtain ⟨ys, h2, h4⟩ := peas_ok he hy
      have g1 := VPL.to_arr (a' := xs.toArray) (by simpa using h3)
      have g2 := VPL.to_arr (a' := ys.toArray) (by simpa using h4)
      exact .pure hr (fun inv => by simp only [ev, h1, h2, ok1]) (.fn g1.1 g1.2 g2.1 g2.2)
    · cases h
  | makeSlice t bytes zero l c =>
    simp only [pev] at h
    split at h
    · rename_i l' c' hx hy
      obtain ⟨h1, _⟩ := pei_ok he hx
      obtain ⟨h2, _⟩ := pei_ok he hy
      split at h
      · rename_i hc; cases h
        obtain ⟨a, b⟩ := hg.newRow (t := t) true (vl_map (repl_one hc.2 c'.toNat))
        exact ⟨_, _, _, fun inv => by simp only [ev, h1, h2, hc.1, and_self, if_true]; rfl, Rho.le_add hg.fresh, a, .slc Rho.add_self (by omega), b, fun _ _ h _ => h⟩
      · cases h
    · cases h
  | makeMap =>
    simp only [pev] at h
    cases h
    exact ⟨_, _, _, fun inv => rfl, Rho.le_add hg.fresh, hg.push ⟨H.next, [], fun _ => 0, by simp, Nat.lt_succ_self _, by rw [AH.get_push, if_pos rfl], hg.acc _ (Nat.le_refl _), ⟨.nil, WL.of_vpl .nil⟩, fun x => by simp⟩, .mapr Rho.add_self, Only.push _ _ _, fun _ _ h _ => h⟩
  | slice t size x lo hi mx =>
    simp only [pev] at h
    split at h
    · rename_i lo' hi' mx' e1 e2 e3
      have k1 := peo_ok he e1
      have k2 := peo_ok he e2
      have k3 := peo_ok he e3
      split at h
      · rename_i i o len cap hx
        obtain ⟨y, h1, h2⟩ := pea_ok he hx
        rcases h2.slc_inv with ⟨k, hk, hlc, rfl⟩ | ⟨hk, rfl, rfl, rfl, rfl⟩
        case inr =>
          split at h
          · rename_i l h' m hb
            obtain ⟨b1, b2, b3⟩ := boundsV_le (Nat.le_refl 0) hb
            have : l = 0 ∧ h' = 0 ∧ m = 0 := by omega
            obtain ⟨rfl, rfl, rfl⟩ := this
            split at h
            · cases h
              refine .pure hr (x := .slice none 0 0) (fun inv => ?_) (by simpa using VP.slcN hk)
              simp only [ev, h1, k1, k2, k3, hb, ok1, Nat.sub_self]
            · cases h
          · cases h
        split at h
        · rename_i l h' m hb
          obtain ⟨b1, b2, b3⟩ := boundsV_le hlc hb
          split at h
          · rename_i hc; cases h
            refine .pure hr (fun inv => ?_) (.slc hk (by omega))
            have : (Nat.beq l 0 || H.tyOk k t) = true := by
              rcases hc with rfl | hc
              · simp
              · cases hrow : prow L i with
                | none => rw [hrow] at hc; simp at hc
                | some tc =>
                  rw [hrow] at hc
                  obtain ⟨t', cs⟩ := tc
                  simp at hc; subst hc
                  obtain ⟨hi, r, cells, f', g2, _⟩ := hg.rowK hrow hk
                  simp [own_ty g2]
            simp only [ev, h1, k1, k2, k3, hb, this, Option.isNone_none, Bool.and_self, cond_true, ok1, Option.isSome_none, Bool.false_and, cond_false]
          · cases h
        · cases h
      · rename_i t' n cs hx
        obtain ⟨y, h1, h2⟩ := pea_ok he hx
        split at h
        · split at h
          · rename_i l h' m hb
            split at h
            · rename_i hc; cases h
              obtain ⟨rfl, hc⟩ := hc
              obtain ⟨b1, b2, b3⟩ := boundsV_le (Nat.le_refl n) hb
              rcases h2.fz_inv with ⟨rfl, rfl, a, rfl, ha⟩ | ⟨k, o, z, cap, hz, ho, ht, hvl, hn, rfl⟩
              · have : l = 0 ∧ h' = 0 ∧ m = 0 := by omega
                obtain ⟨rfl, rfl, rfl⟩ := this
                refine .pure hr (x := .slice a 0 0) (fun inv => ?_) (by simp only [cut, List.drop_nil, List.take_nil, Nat.sub_self]; exact .fz0 ha)
                cases a with
                | none => simp only [ev, h1, k1, k2, k3, hb, ok1, Nat.sub_self]
                | some b => simp only [ev, h1, k1, k2, k3, hb, ok1, Nat.sub_self, ha b rfl, beq_self_eq_true, Bool.and_self, cond_true]
              · obtain ⟨b4, _⟩ := boundsV_up hn hb
                have hle := window_le hvl ho
                have hlh : l * size ≤ h' * size := Nat.mul_le_mul_right _ b1
                have w := window hvl (l * size) ((h' - l) * size)
                refine .pure hr (x := .slice (some ⟨k, o + l * size, none⟩) (h' - l) (cap - l)) (fun inv => ?_) (.fz hz (by omega) ht rfl w.length (fun i a b => F2.idx w i a b) (by omega))
                simp only [ev, h1, k1, k2, k3, b4, frz_ty hg hz ht, Option.isNone_none, Bool.or_true, Bool.and_self, cond_true, ok1, Option.isSome_none, Bool.false_and, cond_false]
            · cases h
          · cases h
        · cases h
      · rename_i len cap hx
        obtain ⟨y, h1, h2⟩ := pea_ok he hx
        obtain ⟨rfl, _⟩ := h2.v_inv
        split at h
        · rename_i l h' m hb; cases h
          exact .pure hr (fun inv => by simp only [ev, h1, k1, k2, k3, hb, ok1]) (.v rfl)
        · cases h
      · cases h
    · cases h
  | sliceStr x lo hi =>
    simp only [pev] at h
    split at h
    · rename_i s lo' hi' e0 e1 e2
      obtain ⟨h1, _⟩ := pei_ok he e0
      have k1 := peo_ok he e1
      have k2 := peo_ok he e2
      split at h
      · rename_i hb; cases h
        exact .pure hr (fun inv => by simp only [ev, h1, k1, k2, hb, ok1]) (.v rfl)
      · cases h
    · cases h
  | sliceArr n size x lo hi mx =>
    simp only [pev] at h
    split at h
    · rename_i lo' hi' mx' e1 e2 e3
      have k1 := peo_ok he e1
      have k2 := peo_ok he e2
      have k3 := peo_ok he e3
      split at h
      · rename_i i o hx
        obtain ⟨y, h1, h2⟩ := pea_ok he hx
        obtain ⟨k, hk, rfl⟩ := h2.ptr_inv
        split at h
        · rename_i l h' m hb; cases h
          obtain ⟨b1, b2, b3⟩ := boundsV_le (Nat.le_refl n) hb
          exact .pure hr (fun inv => by simp only [ev, h1, k1, k2, k3, hb, Option.isNone_none, cond_true, ok1]) (.slc hk (by omega))
        · cases h
      · cases h
    · cases h
  | fieldAddr off x =>
    simp only [pev] at h
    split at h
    · rename_i i o hx; cases h
      obtain ⟨y, h1, h2⟩ := pea_ok he hx
      obtain ⟨k, hk, rfl⟩ := h2.ptr_inv
      exact .pure hr (fun inv => by simp only [ev, h1, addrV, Option.isNone_none, cond_true, okO]) (.ptr hk)
    · rename_i cs hx
      split at h
      · rename_i hoff; cases h
        obtain ⟨y, h1, h2⟩ := pea_ok he hx
        obtain ⟨k, o, z, hz, ho, hvl, rfl⟩ := h2.fp_inv
        have hle := window_le hvl ho
        have w := window_drop hvl off
        exact .pure hr (fun inv => by simp only [ev, h1, addrV, Option.isNone_none, cond_true, okO]) (.fp hz (by omega) rfl w.length (fun i a b => F2.idx w i a b))
      · cases h
    · cases h
  | field off agg x =>
    simp only [pev] at h
    split at h
    · rename_i hx
      obtain ⟨y, h1, h2⟩ := pea_ok he hx
      obtain ⟨a, rfl, hv⟩ := h2.agg_inv
      refine aggOf_ok hr hv h (fun inv x hx => ?_)
      cases agg <;> (simp only [ev, h1]; simp only at hx; rw [hx]; rfl)
    · cases h
  | indexAddr size x i =>
    simp only [pev] at h
    split at h
    · rename_i j o len cap k0 n hx hi
      obtain ⟨y, h1, h2⟩ := pea_ok he hx
      obtain ⟨h3, _⟩ := pei_ok he hi
      rcases h2.slc_inv with ⟨k, hk, hlc, rfl⟩ | ⟨hk, rfl, rfl, rfl, rfl⟩
      case inr =>
        split at h
        · rename_i hc; omega
        · cases h
      split at h
      · rename_i hc; cases h
        exact .pure hr (fun inv => by simp only [ev, h1, h3, hc.1, hc.2, and_self, if_true, Option.isNone_none, cond_true, ok1]) (.ptr hk)
      · cases h
    · rename_i t len cs k0 n hx hi
      obtain ⟨y, h1, h2⟩ := pea_ok he hx
      obtain ⟨h3, _⟩ := pei_ok he hi
      split at h
      · rename_i hc; cases h
        obtain ⟨c1, c2, c3⟩ := hc
        rcases h2.fz_inv with ⟨rfl, rfl, a9, rfl, ha9⟩ | ⟨k, o, z, cap, hz, ho, ht, hvl, hn, rfl⟩
        · omega
        · have hle := window_le hvl ho
          have w := window hvl (n.toNat * size) size
          have hob : o + n.toNat * size ≤ z.cs.length := by
            simp [cut] at c3
            rcases Nat.eq_zero_or_pos size with rfl | hs
            · simpa using ho
            · omega
          exact .pure hr (fun inv => by simp only [ev, h1, h3, c1, c2, and_self, if_true, Option.isNone_none, cond_true, ok1]) (.fp hz hob rfl w.length (fun i a b => F2.idx w i a b))
      · cases h
    · cases h
  | indexAddrArr len size x i =>
    simp only [pev] at h
    split at h
    · rename_i j o k0 n hx hi
      obtain ⟨y, h1, h2⟩ := pea_ok he hx
      obtain ⟨h3, _⟩ := pei_ok he hi
      obtain ⟨k, hk, rfl⟩ := h2.ptr_inv
      split at h
      · rename_i hc; cases h
        exact .pure hr (fun inv => by simp only [ev, h1, h3, hc.1, hc.2, and_self, if_true, Option.isNone_none, cond_true, ok1]) (.ptr hk)
      · cases h
    · rename_i cs k0 n hx hi
      obtain ⟨y, h1, h2⟩ := pea_ok he hx
      obtain ⟨h3, _⟩ := pei_ok he hi
      split at h
      · rename_i hc; cases h
        obtain ⟨c1, c2, c3⟩ := hc
        obtain ⟨k, o, z, hz, ho, hvl, rfl⟩ := h2.fp_inv
        have hle := window_le hvl ho
        have w := window_drop hvl (n.toNat * size)
        exact .pure hr (fun inv => by simp only [ev, h1, h3, c1, c2, and_self, if_true, Option.isNone_none, cond_true, ok1]) (.fp hz (by omega) rfl w.length (fun i a b => F2.idx w i a b))
      · cases h
    · cases h
  | indexStr x i =>
    simp only [pev] at h
    split at h
    · rename_i s k0 n hx hi
      obtain ⟨h1, _⟩ := pei_ok he hx
      obtain ⟨h3, _⟩ := pei_ok he hi
      split at h
      · rename_i hc
        split at h
        · rename_i b hb; cases h
          exact .pure hr (fun inv => by simp only [ev, h1, h3, hc, if_true, hb, ok1]) (.v rfl)
        · cases h
      · cases h
    · cases h
  | indexArr len size agg x i =>
    simp only [pev] at h
    split at h
    · rename_i cs k0 n hx hi
      obtain ⟨y, h1, h2⟩ := pea_ok he hx
      obtain ⟨h3, _⟩ := pei_ok he hi
      obtain ⟨a, rfl, hv⟩ := h2.agg_inv
      split at h
      · rename_i hc
        refine aggOf_ok hr hv h (fun inv x hx => ?_)
        cases agg <;> (simp only [ev, h1, h3, hc.1, hc.2, and_self, if_true]; simp only at hx; rw [hx]; rfl)
      · cases h
    · cases h
  | extract x i =>
    simp only [pev] at h
    split at h
    · rename_i cs hx
      obtain ⟨y, h1, h2⟩ := pea_ok he hx
      obtain ⟨a, rfl, hv⟩ := h2.tup_inv
      split at h
      · rename_i hq; cases h
        obtain ⟨c, hc, hw⟩ := hv.get hq
        exact .pure hr (fun inv => by simp only [ev, h1, hc, okO]) hw
      · cases h
    · cases h
  | lookup kk zero ok m k =>
    simp only [pev] at h
    split at h
    · rename_i m' k' z hm hk hz
      obtain ⟨y, h1, h2⟩ := pea_ok he hm
      obtain ⟨h3, _⟩ := pei_ok he hk
      have h4 := ofV_ok (ρ := ρ) (ζ := ζ) hz
      split at h
      · rename_i es c hmap
        obtain ⟨es', f', h5, h6, h7⟩ := pmap_ok hg h2 hmap
        split at h
        · rename_i hko
          split at h
          · rename_i j x0 hf
            rcases pfind_ok h6 hf with ⟨hn, _⟩ | ⟨d, a, x, hr', g1, g2, g3⟩
            · cases hn
            · cases hr'
              split at h
              · rename_i hnl; cases h
                obtain ⟨x', g4, g5⟩ := h7.get g1
                rw [g2] at g4; cases g4
                have g6 := g5.nl hnl
                cases ok with
                | true => exact .pure hr (x := .tuple #[x, .bool true]) (fun inv => by simp only [ev, h1, h3, h5, hko, g3, cond_true, ok1]) (VP.tup' (b := [x, .bool true]) (.cons g6 (.cons (.v rfl) .nil)))
                | false => exact .pure hr (fun inv => by simp only [ev, h1, h3, h5, hko, g3, cond_true, cond_false, ok1]) g6
              · cases h
          · rename_i hf; cases h
            rcases pfind_ok h6 hf with ⟨_, g3⟩ | ⟨d, a, x, hr', _⟩
            · cases ok with
              | true => exact .pure hr (x := .tuple #[zero, .bool false]) (fun inv => by simp only [ev, h1, h3, h5, hko, g3, cond_true, ok1]) (VP.tup' (b := [zero, .bool false]) (.cons h4 (.cons (.v rfl) .nil)))
              | false => exact .pure hr (fun inv => by simp only [ev, h1, h3, h5, hko, g3, cond_true, cond_false, ok1]) h4
            · cases hr'
          · cases h
        · cases h
      · cases h
    · cases h
  | assertTo t zero ok x =>
    simp only [pev] at h
    split at h
    · rename_i t' p' z hx hz
      obtain ⟨y, h1, h2⟩ := pea_ok he hx
      obtain ⟨y', rfl, h3⟩ := h2.ifc_inv
      have h4 := ofV_ok (ρ := ρ) (ζ := ζ) hz
      split at h
      · rename_i ht; cases h; subst ht
        cases ok with
        | true => exact .pure hr (x := .tuple #[y', .bool true]) (fun inv => by simp only [ev, h1, Nat.beq_refl, cond_true, ok1]) (VP.tup' (b := [y', .bool true]) (.cons h3 (.cons (.v rfl) .nil)))
        | false => exact .pure hr (fun inv => by simp only [ev, h1, Nat.beq_refl, cond_true, cond_false, ok1]) h3
      · rename_i ht
        have hb : Nat.beq t t' = false := by cases hh : Nat.beq t t' <;> first | rfl | exact absurd (Nat.eq_of_beq_eq_true hh) ht
        cases ok with
        | true => simp only [cond_true] at h; cases h; exact .pure hr (x := .tuple #[zero, .bool false]) (fun inv => by simp only [ev, h1, hb, cond_true, cond_false, ok1]) (VP.tup' (b := [zero, .bool false]) (.cons h4 (.cons (.v rfl) .nil)))
        | false => simp only [cond_false] at h; cases h
    · rename_i z hx hz
      obtain ⟨y, h1, h2⟩ := pea_ok he hx
      obtain ⟨rfl, _⟩ := h2.v_inv
      have h4 := ofV_ok (ρ := ρ) (ζ := ζ) hz
      cases ok with
      | true => simp only [cond_true] at h; cases h; exact .pure hr (x := .tuple #[zero, .bool false]) (fun inv => by simp only [ev, h1, cond_true, ok1]) (VP.tup' (b := [zero, .bool false]) (.cons h4 (.cons (.v rfl) .nil)))
      | false => simp only [cond_false] at h; cases h
    · cases h
  | lenStr x =>
    simp only [pev] at h
    split at h
    · rename_i hx; cases h
      obtain ⟨h1, _⟩ := pei_ok he hx
      exact .pure hr (fun inv => by simp only [ev, h1, ok1]) (.v rfl)
    · cases h
  | lenSl x =>
    simp only [pev] at h
    split at h
    · rename_i hx; cases h
      obtain ⟨y, h1, h2⟩ := pea_ok he hx
      rcases h2.slc_inv with ⟨k, hk, hlc, rfl⟩ | ⟨hk, rfl, rfl, rfl, rfl⟩
      · exact .pure hr (fun inv => by simp only [ev, h1, ok1]) (.v rfl)
      · exact .pure hr (fun inv => by simp only [ev, h1, ok1]) (.v rfl)
    · rename_i hx; cases h
      obtain ⟨y, h1, h2⟩ := pea_ok he hx
      rcases h2.fz_inv with ⟨rfl, rfl, a9, rfl, ha9⟩ | ⟨k, o, z, cap, hz, ho, ht, hvl, hn, rfl⟩
      · exact .pure hr (fun inv => by simp only [ev, h1, ok1]) (.v rfl)
      · exact .pure hr (fun inv => by simp only [ev, h1, ok1]) (.v rfl)
    · rename_i hx; cases h
      obtain ⟨y, h1, h2⟩ := pea_ok he hx
      obtain ⟨rfl, _⟩ := h2.v_inv
      exact .pure hr (fun inv => by simp only [ev, h1, ok1]) (.v rfl)
    · cases h
  | lenMap x =>
    simp only [pev] at h
    split at h
    · rename_i m' hm
      obtain ⟨y, h1, h2⟩ := pea_ok he hm
      split at h
      · rename_i es c hmap; cases h
        obtain ⟨es', f', h5, h6, h7⟩ := pmap_ok hg h2 hmap
        exact .pure hr (fun inv => by simp only [ev, h1, h5, ok1, h6.length]) (.v rfl)
      · cases h
    · cases h
  | lenArr n => simp only [pev] at h; cases h; exact .pure hr (fun inv => rfl) (.v rfl)
  | append t size bytes s x =>
    simp only [pev] at h
    split at h
    · rename_i hs hx
      obtain ⟨y, h1, h2⟩ := pea_ok he hs
      obtain ⟨z, h3, h4⟩ := pea_ok he hx
      exact pappend_ok hg h1 h3 h2 h4 h
    · cases h
  | minMax mx x y =>
    simp only [pev] at h
    split at h
    · rename_i hx hy
      obtain ⟨h1, _⟩ := pei_ok he hx
      obtain ⟨h2, _⟩ := pei_ok he hy
      split at h
      · rename_i hc; cases h
        exact .pure hr (fun inv => by simp only [ev, h1, h2, hc, if_true, ok1]) (.v rfl)
      · cases h
    · cases h
  | mapUpdate kk m k v =>
    simp only [pev] at h
    split at h
    · rename_i i k' p' hm hk hv
      obtain ⟨y, h1, h2⟩ := pea_ok he hm
      obtain ⟨h3, _⟩ := pei_ok he hk
      obtain ⟨z, h4, h5⟩ := pea_ok he hv
      obtain ⟨kd, hkd, rfl⟩ := h2.mapr_inv
      split at h
      · rename_i es c hL
        have hi : i < L.length := (List.getElem?_eq_some_iff.1 hL).1
        obtain ⟨k0, es', f', g1, g2, g3, g4, ⟨g5, g6⟩, g7⟩ := hg.objs _ _ hL
        rw [hkd] at g1; cases g1
        have hg0 : f' kd = 0 ∧ 1 ≤ g i kd := by
          have := hg.sum kd; have := sumN_le (g := fun i => g i kd) hi; have := g7 kd; simp at this; omega
        have put : ∀ (es1 : List (Value × PV × Nat)) (es2 : List MapEntry) (c' : Nat), EL A ρ ζ H f' es1 es2 → RH A ρ ζ (L.set i (.map es1 c')) (H.put kd (.map es2 c')) ∧ Only H (H.put kd (.map es2 c')) A := by
          intro es1 es2 c' hel
          have hkp := Kp.putObj (o' := .map es2 c') g3 noRow_map
          refine ⟨⟨g, hg.set hi hg0.2 hkp rfl (fun j o hj => ?_) ⟨kd, es2, f', hkd, g2, by rw [AH.get_put, if_pos rfl], g4, ⟨hel.1, hel.2.kp hkp (.refl _) (.refl _) (fun _ h => h) (fun x hx => by subst hx; exact hg0.1)⟩, g7⟩⟩, (Only.put H kd _).mono (fun j hj => by subst hj; exact g4)⟩
          rw [AH.get_put] at hj
          show j < H.next
          split at hj
          · omega
          · exact hg.wf _ _ hj
        split at h
        · rename_i hko
          split at h
          · rename_i j x0 hf; cases h
            rcases pfind_ok g5 hf with ⟨hn, _⟩ | ⟨d, a, x, hr', q1, q2, q3⟩
            · cases hn
            · cases hr'
              have hel : EL A ρ ζ H f' (es.modify (0 + d) fun e => (k', p', e.2.2)) (es'.modify (0 + d) fun e => { e with key := k', val := z }) := by
                refine ⟨?_, ?_⟩
                · refine F2.of_idx (by simp [g5.length]) (fun i a b => ?_)
                  simp only [List.getElem_modify]
                  split
                  · exact ⟨rfl, (F2.idx g5 i (by simpa using a) (by simpa using b)).2⟩
                  · exact F2.idx g5 i (by simpa using a) (by simpa using b)
                · have hd1 : 0 + d < es.length := by have := (List.getElem?_eq_some_iff.1 q1).1; simp at this; omega
                  have hd2 : 0 + d < es'.length := by have := (List.getElem?_eq_some_iff.1 q2).1; simp at this; omega
                  have e1 := modify_map (fun x : Value × PV × Nat => x.2.1) (fun e => (k', p', e.2.2)) p' (fun _ => rfl) es (0 + d) hd1
                  have e2 := modify_map (fun x : MapEntry => x.val) (fun e => { e with key := k', val := z }) z (fun _ => rfl) es' (0 + d) hd2
                  rw [e1, e2]
                  have := g6.splice (o := 0 + d) (.cons h5 .nil : VPL ρ ζ [p'] [z])
                  simpa [Den.splice] using this
              obtain ⟨hA, hB⟩ := put _ _ c hel
              exact ⟨undefV, _, ρ, fun inv => by simp only [ev, h1, h3, h4, g3, hko, q3, cond_true, ok1], .refl _, hA, VP.tup (a := []) (a' := #[]) rfl (fun i h => by simp at h), hB, fun h => by cases h⟩
          · rename_i hf; cases h
            rcases pfind_ok g5 hf with ⟨_, q3⟩ | ⟨d, a, x, hr', _⟩
            · obtain ⟨hA, hB⟩ := put (es ++ [(k', p', c)]) (es' ++ [{ key := k', val := z, born := c }]) (c + 1) ⟨g5.append (.cons ⟨rfl, rfl⟩ .nil), by
                rw [List.map_append, List.map_append]
                exact (g6.append (WL.of_vpl (f := fun _ => 0) (.cons h5 .nil))).le (fun x => by simp)⟩
              exact ⟨undefV, _, ρ, fun inv => by simp only [ev, h1, h3, h4, g3, hko, q3, cond_true, ok1], .refl _, hA, VP.tup (a := []) (a' := #[]) rfl (fun i h => by simp at h), hB, fun h => by cases h⟩
            · cases hr'
          · cases h
        · cases h
      · cases h
    · cases h
  | _ => simp only [pev] at h; cases h
end Go.Den
/- Pen: the package-level variables that the code reads, as rows that nobody writes. This text is the seat's own. -/
namespace Go.Den
def rep8 (n : Nat) : List Value := List.replicate n (.int .u8 0)
/-- strings.asciiSpace -/
def spaceCells : List Value := rep8 9 ++ List.replicate 5 (.int .u8 1) ++ rep8 18 ++ [.int .u8 1] ++ rep8 223
def glSpace : Nat := 1
def glSpaceT : TypeId := 145
def glZ : Zeta := fun k => if k = glSpace then some ⟨glSpaceT, true, spaceCells, glSpace⟩ else none
def GZ (ζ : Zeta) : Prop := ∀ k z, glZ k = some z → ζ k = some z
end Go.Den
/- Pen, part G: code and calls on trees. -/
namespace Go.Den
variable {ρ ρ' : Rho} {ζ ζ' : Zeta} {A A' : Nat → Prop} {H H' : AH} {f f' : Nat → Nat} {E E' : PEnv} {e : Env} {L L' : List LObj} {g : Nat → Nat → Nat} {p : PV} {q : Bool}

/-- what a function's run leaves: what it may change, the heap at its beginning, the objects that it was given -/
structure Fx where
  A : Nat → Prop
  H0 : AH
  ρ0 : Rho
  ζ0 : Zeta
  gz : GZ ζ0
structure RS (n0 : Nat) (fx : Fx) (ρ : Rho) (ζ : Zeta) (E : PEnv) (L : List LObj) (e : Env) (H : AH) : Prop where
  rh : RH fx.A ρ ζ L H
  env : EnvP ρ ζ E e
  only : Only fx.H0 H fx.A
  base : fx.ρ0.Le ρ
  dom : ∀ i k, fx.ρ0 i = some k → i < n0
  len : n0 ≤ L.length
  zet : fx.ζ0.X fx.A ζ
theorem RS.gz {n0 : Nat} {fx : Fx} (hs : RS n0 fx ρ ζ E L e H) : GZ ζ := fun k z h => hs.zet.le k z (fx.gz k z h)

theorem Only.transA {H H1 H2 : AH} {S : Nat → Prop} (h : Only H H1 S) (h' : Only H1 H2 S) : Only H H2 S := h.trans h' (fun _ hj => .inl hj)

def psetD (E : PEnv) (d : Option Nat) (p : PV) : PEnv := match d with | some t => E.set t p | none => E
def pwanted (E : PEnv) : Option (Nat × Bool) → Option Bool
  | none => some true
  | some (t, b) => match E.get t with
    | some (.v (.bool c)) => some (c == b)
    | some _ => some false
    | none => none

variable (F : FuncId → Option IFunc) (X0 X : Ext)
/-- a call on trees; q: it changes nothing that is there -/
def PF (q : Bool) (fv : PV) (args : List PV) (L : List LObj) (K : PV → List LObj → Prop) : Prop :=
  ∀ (A : Nat → Prop) (ρ : Rho) (ζ : Zeta) (H : AH) (dv : Value) (dargs : List Value), GZ ζ → RH A ρ ζ L H → VP ρ ζ fv dv → VPL ρ ζ args dargs →
    wpF F X0 X dv dargs (fun v' H' => ∃ ρ' ζ' v L', ζ.X A ζ' ∧ ρ.Le ρ' ∧ RH A ρ' ζ' L' H' ∧ VP ρ' ζ' v v' ∧ Only H H' A ∧ (q = true → Only H H' (H.next ≤ ·)) ∧ L.length ≤ L'.length ∧ K v L') H
def PC (n0 : Nat) (c : ICode) (Q : Ex → PEnv → List LObj → Prop) (E : PEnv) (L : List LObj) : Prop :=
  ∀ (fx : Fx) (ρ : Rho) (ζ : Zeta) (e : Env) (H : AH), RS n0 fx ρ ζ E L e H → wpC F X0 X c (fun x e' H' => ∃ ρ' ζ' E' L', RS n0 fx ρ' ζ' E' L' e' H' ∧ Q x E' L') e H
/-- what an operation makes goes on -/
def pK (K : PV → List LObj → Prop) : PRes → Prop
  | some (p, L', _) => K p L'
  | none => False
def pKq (K : PV → List LObj → Prop) : PRes → Prop
  | some (p, L', true) => K p L'
  | _ => False
/-- a comparison with nil: both answers, where it is open -/
def pnilK (K : PV → List LObj → Prop) (L : List LObj) : PRes → Option PV → Option PV → Prop
  | some (p, L', _), _, _ => K p L'
  | none, some (.fz _ 0 _), some (.v (.slice none _ _)) => ∀ b, K (.v (.bool b)) L
  | none, some (.slc _ _ 0 _), some (.v (.slice none _ _)) => ∀ b, K (.v (.bool b)) L
  | none, _, _ => False
def PI (op : IOp) (K : PV → List LObj → Prop) (E : PEnv) (L : List LObj) : Prop :=
  match op with
  | .call f as => ∃ fv, pea E f = some fv ∧ ∃ args, peas E as = some args ∧ PF F X0 X false fv args L K
  | .eqNil .slice neg x y => pnilK K L (pev E L (.eqNil .slice neg x y)) (pea E x) (pea E y)
  | op => pK K (pev E L op)
def PJ (op : IOp) (K : PV → List LObj → Prop) (E : PEnv) (L : List LObj) : Prop :=
  match op with
  | .call f as => ∃ fv, pea E f = some fv ∧ ∃ args, peas E as = some args ∧ PF F X0 X true fv args L K
  | op => pKq K (pev E L op)
def PO : List Ins → (PEnv → List LObj → Prop) → PEnv → List LObj → Prop
  | [], Q, E, L => Q E L
  | i :: l, Q, E, L => if pwanted E i.guard = some true then PI F X0 X i.op (fun p L' => PO l Q (psetD E i.dst p) L') E L
    else if pwanted E i.guard = some false then PO l Q (psetD E i.dst (.tup [])) L else False
def PQ : List Ins → (PEnv → List LObj → Prop) → PEnv → List LObj → Prop
  | [], Q, E, L => Q E L
  | i :: l, Q, E, L => if pwanted E i.guard = some true then PJ F X0 X i.op (fun p L' => PQ l Q (psetD E i.dst p) L') E L
    else if pwanted E i.guard = some false then PQ l Q (psetD E i.dst (.tup [])) L else False
variable {F X0 X}

theorem PF.mono {fv : PV} {args : List PV} {K K' : PV → List LObj → Prop} (h : PF F X0 X q fv args L K) (hk : ∀ v L, K v L → K' v L) : PF F X0 X q fv args L K' := by
  intro A ρ ζ H dv dargs h0 h1 h2 h3
  exact (h A ρ ζ H dv dargs h0 h1 h2 h3).mono fun v' H' ⟨ρ', ζ', v, L', a, b, c, d, e, f, g, k⟩ => ⟨ρ', ζ', v, L', a, b, c, d, e, f, g, hk _ _ k⟩
theorem PF.weak {fv : PV} {args : List PV} {K : PV → List LObj → Prop} (h : PF F X0 X q fv args L K) : PF F X0 X false fv args L K := by
  intro A ρ ζ H dv dargs h0 h1 h2 h3
  exact (h A ρ ζ H dv dargs h0 h1 h2 h3).mono fun v' H' ⟨ρ', ζ', v, L', a, b, c, d, e, f, g, k⟩ => ⟨ρ', ζ', v, L', a, b, c, d, e, (fun h => by cases h), g, k⟩
theorem PC.mono {n0 : Nat} {c : ICode} {Q Q' : Ex → PEnv → List LObj → Prop} (h : PC F X0 X n0 c Q E L) (hq : ∀ x E L, Q x E L → Q' x E L) : PC F X0 X n0 c Q' E L := by
  intro fx ρ ζ e H hs
  exact (h fx ρ ζ e H hs).mono fun x e' H' ⟨ρ', ζ', E', L', a, b⟩ => ⟨ρ', ζ', E', L', a, hq _ _ _ b⟩

theorem pwanted_ok (he : EnvP ρ ζ E e) {gd : Option (Nat × Bool)} {b : Bool} (h : pwanted E gd = some b) : wantedI e gd = some b := by
  cases gd with
  | none => exact h
  | some tb =>
    obtain ⟨t, b0⟩ := tb
    simp only [pwanted] at h
    simp only [wantedI]
    split at h
    · rename_i c hc
      obtain ⟨x, h1, h2⟩ := he t _ hc
      obtain ⟨rfl, _⟩ := h2.v_inv
      rw [h1]; exact h
    · rename_i p hno hp
      obtain ⟨x, h1, h2⟩ := he t _ hp
      rw [h1]
      cases h
      cases x <;> first | rfl | skip
      rename_i c
      exfalso
      cases h2 with
      | v _ => exact hno c rfl
    · cases h

theorem RS.step {n0 : Nat} {fx : Fx} (hs : RS n0 fx ρ ζ E L e H) {d : Option Nat} {x : Value} (hr : ρ.Le ρ') (hz : ζ.X fx.A ζ') (h : RH fx.A ρ' ζ' L' H') (hv : VP ρ' ζ' p x) (ho : Only H H' fx.A) (hl : L.length ≤ L'.length) :
    RS n0 fx ρ' ζ' (psetD E d p) L' (setD e d x) H' := by
  refine ⟨h, ?_, hs.only.transA ho, hs.base.trans hr, hs.dom, Nat.le_trans hs.len hl, hs.zet.trans hz⟩
  cases d with
  | none => exact hs.env.mono hr hz.le
  | some d => exact (hs.env.mono hr hz.le).set hv
theorem VP.undef : VP ρ ζ (.tup []) undefV := VP.tup (a := []) (a' := #[]) rfl (fun i h => by simp at h)

theorem set_len {o : LObj} {i : Nat} : (L.set i o).length = L.length := List.length_set
theorem pload_len {agg : Option Nat} {a : PV} (h : pload L agg a = some (p, L', q)) : L.length ≤ L'.length := by
  unfold pload at h
  repeat' (split at h)
  all_goals first | cases h | skip
  all_goals first | exact Nat.le_refl _ | simp
theorem pappend_len {t : TypeId} {size bytes : Nat} {s x : PV} (h : pappend L t size bytes s x = some (p, L', q)) : L.length ≤ L'.length := by
  unfold pappend at h
  repeat' (split at h)
  all_goals first | cases h | skip
  all_goals first | exact Nat.le_refl _ | simp
theorem aggOf_len {cs : List PV} {o : Nat} {agg : Option Nat} (h : aggOf' cs o agg L = some (p, L', q)) : L.length ≤ L'.length := by
  unfold aggOf' at h
  repeat' (split at h)
  all_goals first | cases h | skip
  all_goals exact Nat.le_refl _
theorem pev_len {op : IOp} (h : pev E L op = some (p, L', q)) : L.length ≤ L'.length := by
  unfold pev at h
  repeat' (split at h)
  all_goals first | cases h | skip
  all_goals first
    | exact Nat.le_refl _
    | exact pload_len h
    | exact pappend_len h
    | exact aggOf_len h
    | (simp only [cond_eq_ite] at h; split at h <;> cases h <;> exact Nat.le_refl _)
    | (simp; done)

theorem PO_ok {n0 : Nat} {fx : Fx} {Q : PEnv → List LObj → Prop} : ∀ (l : List Ins) {ρ : Rho} {ζ : Zeta} {E : PEnv} {L : List LObj} {e : Env} {H : AH}, RS n0 fx ρ ζ E L e H → PO F X0 X l Q E L → wpO F X0 X l (fun e' H' => ∃ ρ' ζ' E' L', RS n0 fx ρ' ζ' E' L' e' H' ∧ Q E' L') e H := by
  intro l
  induction l with
  | nil => intro ρ ζ E L e H hs h; exact ⟨ρ, ζ, E, L, hs, h⟩
  | cons i l ih =>
    intro ρ ζ E L e H hs h
    simp only [PO] at h
    split at h
    · rename_i hw
      refine ⟨true, pwanted_ok hs.env hw, ?_⟩
      rw [if_pos rfl]
      unfold PI at h
      split at h
      · rename_i fa as hop
        obtain ⟨fv, h1, args, h2, h3⟩ := h
        obtain ⟨dv, a1, a2⟩ := pea_ok hs.env h1
        obtain ⟨dargs, b1, b2⟩ := peas_ok hs.env h2
        rw [hop]
        refine wpI_call a1 b1 ((h3 fx.A ρ ζ H dv dargs hs.gz hs.rh a2 b2).mono ?_)
        rintro v' H' ⟨ρ', ζ', v, L', c1, c2, c3, c4, c5, c6, c7, c8⟩
        exact ih (hs.step c2 c1 c3 c4 c5 c7) c8
      · rename_i neg x y hop
        rw [hop]
        have plain : ∀ {p L' q}, pev E L (.eqNil .slice neg x y) = some (p, L', q) → PO F X0 X l Q (psetD E i.dst p) L' → wpI F X0 X (.eqNil .slice neg x y) (fun v H' => wpO F X0 X l (fun e' H' => ∃ ρ' ζ' E' L', RS n0 fx ρ' ζ' E' L' e' H' ∧ Q E' L') (setD e i.dst v) H') e H := by
          intro p L' q hp h
          obtain ⟨g, hg⟩ := hs.rh
          obtain ⟨x, H', ρ', c1, c2, c3, c4, c5, c6⟩ := pev_ok hg hs.env hp
          exact ⟨x, H', .all fun m => c1 _, ih (hs.step c2 (.refl _ _) c3 c4 c5 (pev_len hp)) h⟩
        unfold pnilK at h
        split at h
        · rename_i hp; exact plain hp h
        · rename_i hp hx hy
          obtain ⟨a, a1, a2⟩ := pea_ok hs.env hx
          obtain ⟨b, b1, b2⟩ := pea_ok hs.env hy
          have key : ∃ r, eqNilV .slice a b = some r := by
            rw [b2.v_inv.1]
            rcases a2.fz_inv with ⟨_, rfl, a9, rfl, _⟩ | ⟨k, o, z, cap, _, _, _, _, _, rfl⟩
            · cases a9 <;> exact ⟨_, rfl⟩
            · exact ⟨_, rfl⟩
          obtain ⟨r, hr⟩ := key
          exact ⟨.bool (r != neg), H, .all fun m => by simp only [ev, a1, b1, hr, ok1], ih (hs.step (.refl _) (.refl _ _) hs.rh (.v rfl) (Only.refl _ _) (Nat.le_refl _)) (h _)⟩
        · rename_i hp hx hy
          obtain ⟨a, a1, a2⟩ := pea_ok hs.env hx
          obtain ⟨b, b1, b2⟩ := pea_ok hs.env hy
          have key : ∃ r, eqNilV .slice a b = some r := by
            rw [b2.v_inv.1]
            rcases a2.slc_inv with ⟨k, _, _, rfl⟩ | ⟨_, _, _, _, rfl⟩
            · exact ⟨_, rfl⟩
            · exact ⟨_, rfl⟩
          obtain ⟨r, hr⟩ := key
          exact ⟨.bool (r != neg), H, .all fun m => by simp only [ev, a1, b1, hr, ok1], ih (hs.step (.refl _) (.refl _ _) hs.rh (.v rfl) (Only.refl _ _) (Nat.le_refl _)) (h _)⟩
        · exact h.elim
      · unfold pK at h
        split at h
        · rename_i p L' q hp
          obtain ⟨g, hg⟩ := hs.rh
          obtain ⟨x, H', ρ', c1, c2, c3, c4, c5, c6⟩ := pev_ok hg hs.env hp
          exact ⟨x, H', .all fun m => c1 _, ih (hs.step c2 (.refl _ _) c3 c4 c5 (pev_len hp)) h⟩
        · exact h.elim
    · split at h
      · rename_i hw
        refine ⟨false, pwanted_ok hs.env hw, ?_⟩
        rw [if_neg (by simp)]
        exact ih (hs.step (.refl _) (.refl _ _) hs.rh VP.undef (Only.refl _ _) (Nat.le_refl _)) h
      · exact h.elim

theorem Kp.low (H : AH) (l : Nat) : Kp H ⟨H.objs, H.next, l⟩ (fun _ => False) :=
  ⟨Nat.le_refl _, fun _ _ _ _ _ h => ⟨h.lt, h.own⟩, fun _ _ _ _ h => ⟨h.lt, h.le, h.at_, h.root⟩, fun _ _ _ _ h _ => h⟩
theorem RHg.low (h : RHg A ρ ζ L H g) (l : Nat) : RHg A ρ ζ L ⟨H.objs, H.next, l⟩ g :=
  ⟨fun i o hi => (h.objs i o hi).kp (Kp.low H l) (.refl _) (.refl _) (fun _ h => h) (fun _ h => h.elim), h.sum, fun k z hz => let ⟨a, b⟩ := h.frz k z hz; ⟨(Kp.low H l).frz _ _ _ id a, b⟩, h.bnd, h.acc, h.dom, h.wf⟩
theorem RH.low (h : RH A ρ ζ L H) (l : Nat) : RH A ρ ζ L ⟨H.objs, H.next, l⟩ := let ⟨g, x⟩ := h; ⟨g, x.low l⟩

theorem PQ_ok {n0 : Nat} {fx : Fx} {Q : PEnv → List LObj → Prop} : ∀ (l : List Ins) {ρ : Rho} {ζ : Zeta} {E : PEnv} {L : List LObj} {e : Env} {H : AH}, RS n0 fx ρ ζ E L e H → PQ F X0 X l Q E L → wpQ F X0 X l (fun e' H' => ∃ ρ' ζ' E' L', RS n0 fx ρ' ζ' E' L' e' H' ∧ Q E' L') e H := by
  intro l
  induction l with
  | nil => intro ρ ζ E L e H hs h; exact ⟨ρ, ζ, E, L, hs, h⟩
  | cons i l ih =>
    intro ρ ζ E L e H hs h
    simp only [PQ] at h
    split at h
    · rename_i hw
      refine ⟨true, pwanted_ok hs.env hw, ?_⟩
      rw [if_pos rfl]
      have back : ∀ {H' : AH} {S : Nat → Prop}, Only ⟨H.objs, H.next, H.next⟩ H' S → Only H ⟨H'.objs, H'.next, H.low⟩ S := fun ho => ⟨ho.next, ho.get, fun b h1 _ _ => h1⟩
      unfold PJ at h
      split at h
      · rename_i fa as hop
        obtain ⟨fv, h1, args, h2, h3⟩ := h
        obtain ⟨dv, a1, a2⟩ := pea_ok hs.env h1
        obtain ⟨dargs, b1, b2⟩ := peas_ok hs.env h2
        rw [hop]
        refine wpI_call a1 b1 ((h3 fx.A ρ ζ _ dv dargs hs.gz (hs.rh.low H.next) a2 b2).mono ?_)
        rintro v' H' ⟨ρ', ζ', v, L', c1, c2, c3, c4, c5, c6, c7, c8⟩
        refine ⟨(c6 rfl).low _ (Nat.le_refl _) (Nat.le_refl _) (fun j hj => hj), ?_⟩
        exact ih (hs.step c2 c1 (c3.low _) c4 (back c5) c7) c8
      · unfold pKq at h
        split at h
        · rename_i p L' hp
          obtain ⟨g, hg⟩ := hs.rh
          obtain ⟨x, H', ρ', c1, c2, c3, c4, c5, c6⟩ := pev_ok (hg.low H.next) hs.env hp
          exact ⟨x, H', .all fun m => c1 _, c6 rfl _ (Nat.le_refl _) (Nat.le_refl _), ih (hs.step c2 (.refl _ _) (c3.low _) c4 (back c5) (pev_len hp)) h⟩
        · exact h.elim
    · split at h
      · rename_i hw
        refine ⟨false, pwanted_ok hs.env hw, ?_⟩
        rw [if_neg (by simp)]
        exact ih (hs.step (.refl _) (.refl _ _) hs.rh VP.undef (Only.refl _ _) (Nat.le_refl _)) h
      · exact h.elim

/-! ### code -/
variable {n0 : Nat} {Q : Ex → PEnv → List LObj → Prop}
theorem PC_skip (h : Q .norm E L) : PC F X0 X n0 .skip Q E L := fun _ _ _ _ _ hs => wpC_skip ⟨_, _, _, _, hs, h⟩
theorem PC_exit {id : Nat} (h : Q (.exit id) E L) : PC F X0 X n0 (.exit id) Q E L := fun _ _ _ _ _ hs => wpC_exit ⟨_, _, _, _, hs, h⟩
theorem PC_ret (h : Q .ret E L) : PC F X0 X n0 .ret Q E L := fun _ _ _ _ _ hs => wpC_ret ⟨_, _, _, _, hs, h⟩
theorem PC_ops {l : List Ins} (h : PO F X0 X l (Q .norm) E L) : PC F X0 X n0 (.ops l) Q E L := fun _ _ _ _ _ hs => wpC_ops (PO_ok l hs h)
theorem PC_draw {l l' : List Ins} (h : PQ F X0 X l (PO F X0 X l' (Q .norm)) E L) : PC F X0 X n0 (.draw l l') Q E L := fun _ _ _ _ _ hs =>
  wpC_draw (wpQ_to l (fun _ _ ⟨_, _, _, _, hs, h⟩ => PO_ok l' hs h) (PQ_ok l hs h))
def pnext (k : PEnv → List LObj → Prop) (Q : Ex → PEnv → List LObj → Prop) : Ex → PEnv → List LObj → Prop
  | .norm, E, L => k E L
  | x, E, L => Q x E L
theorem PC_seq {a b : ICode} (h : PC F X0 X n0 a (pnext (PC F X0 X n0 b Q) Q) E L) : PC F X0 X n0 (.seq a b) Q E L := by
  intro fx ρ ζ e H hs
  refine wpC_seq ((h fx ρ ζ e H hs).mono ?_)
  rintro x e' H' ⟨ρ', ζ', E', L', hs', h'⟩
  cases x with
  | norm => exact h' fx ρ' ζ' e' H' hs'
  | _ => exact ⟨_, _, _, _, hs', h'⟩
theorem PC_cond {c : Arg} {a b : ICode} {t : Bool} (hc : pei E c = some (.bool t)) (h : if t = true then PC F X0 X n0 a Q E L else PC F X0 X n0 b Q E L) : PC F X0 X n0 (.cond c a b) Q E L := by
  intro fx ρ ζ e H hs
  refine wpC_cond (pei_ok hs.env hc).1 ?_
  cases t
  · rw [if_neg (by simp)] at h ⊢; exact h _ _ _ _ _ hs
  · rw [if_pos rfl] at h ⊢; exact h _ _ _ _ _ hs
def pout (id : Nat) (Q : Ex → PEnv → List LObj → Prop) : Ex → PEnv → List LObj → Prop
  | .exit j, E, L => if j = id then Q .norm E L else Q (.exit j) E L
  | x, E, L => Q x E L
theorem PC_block {id : Nat} {c : ICode} (h : PC F X0 X n0 c (pout id Q) E L) : PC F X0 X n0 (.block id c) Q E L := by
  intro fx ρ ζ e H hs
  refine wpC_block ((h fx ρ ζ e H hs).mono ?_)
  rintro x e' H' ⟨ρ', ζ', E', L', hs', h'⟩
  cases x with
  | exit j =>
    simp only [outC, pout] at h' ⊢
    by_cases hj : j = id
    · rw [if_pos hj] at h' ⊢; exact ⟨_, _, _, _, hs', h'⟩
    · rw [if_neg hj] at h' ⊢; exact ⟨_, _, _, _, hs', h'⟩
  | _ => exact ⟨_, _, _, _, hs', h'⟩

/-- the same state, seen otherwise -/
def Abs (n0 : Nat) (E : PEnv) (L : List LObj) (E' : PEnv) (L' : List LObj) : Prop := ∀ (fx : Fx) (ρ : Rho) (ζ : Zeta) (e : Env) (H : AH), RS n0 fx ρ ζ E L e H → ∃ ρ' ζ', RS n0 fx ρ' ζ' E' L' e H
theorem Abs.refl (n0 : Nat) (E : PEnv) (L : List LObj) : Abs n0 E L E L := fun _ ρ ζ _ _ h => ⟨ρ, ζ, h⟩
theorem Abs.trans {E2 : PEnv} {L2 : List LObj} (h : Abs n0 E L E' L') (h' : Abs n0 E' L' E2 L2) : Abs n0 E L E2 L2 := fun fx ρ ζ e H hs => let ⟨ρ', ζ', x⟩ := h fx ρ ζ e H hs; h' fx ρ' ζ' e H x
theorem PC.abs {c : ICode} (ha : Abs n0 E L E' L') (h : PC F X0 X n0 c Q E' L') : PC F X0 X n0 c Q E L := fun fx ρ ζ e H hs => let ⟨ρ', ζ', x⟩ := ha fx ρ ζ e H hs; h fx ρ' ζ' e H x
/-- behind a piece of code things are seen otherwise -/
theorem PC.post {c : ICode} {Q' : Ex → PEnv → List LObj → Prop} (h : PC F X0 X n0 c Q E L) (hq : ∀ x E L, Q x E L → ∃ E' L', Abs n0 E L E' L' ∧ Q' x E' L') : PC F X0 X n0 c Q' E L := by
  intro fx ρ ζ e H hs
  refine (h fx ρ ζ e H hs).mono ?_
  rintro x e' H' ⟨ρ', ζ', E', L', hs', h'⟩
  obtain ⟨E2, L2, ha, hq'⟩ := hq x E' L' h'
  obtain ⟨ρ2, ζ2, hs2⟩ := ha _ _ _ _ _ hs'
  exact ⟨_, _, _, _, hs2, hq'⟩

theorem PC_loop {c : ICode} (J : Nat → PEnv → List LObj → Prop) (round : ∀ k E L, J k E L → PC F X0 X n0 c (pnext (fun E' L' => ∃ k' E'' L'', k' < k ∧ Abs n0 E' L' E'' L'' ∧ J k' E'' L'') Q) E L) {k : Nat} (h : J k E L) : PC F X0 X n0 (.loop c) Q E L := by
  intro fx ρ ζ e H hs
  refine wpC_loop (fun k e H => ∃ ρ ζ E L, RS n0 fx ρ ζ E L e H ∧ J k E L) ?_ (k := k) ⟨_, _, _, _, hs, h⟩
  rintro k e H ⟨ρ, ζ, E, L, hs, hj⟩
  refine (round k E L hj fx ρ ζ e H hs).mono ?_
  rintro x e' H' ⟨ρ', ζ', E', L', hs', h'⟩
  cases x with
  | norm =>
    obtain ⟨k', E2, L2, hk, ha, hj'⟩ := h'
    obtain ⟨ρ2, ζ2, hs2⟩ := ha _ _ _ _ _ hs'
    exact ⟨k', hk, _, _, _, _, hs2, hj'⟩
  | _ => exact ⟨_, _, _, _, hs', h'⟩

/-! ### functions -/
def penv (args : List PV) : PEnv := T.ofFrom 0 args
theorem penv_ok {args : List PV} {dargs : List Value} (h : VPL ρ ζ args dargs) : EnvP ρ ζ (penv args) (T.ofFrom 0 dargs) := by
  intro t p hp
  unfold penv at hp
  rw [T.get_ofFrom] at hp ⊢
  simp only [Nat.zero_le, if_true, Nat.sub_zero] at hp ⊢
  exact h.get hp
/-- what lies in cells, as long as it owns nothing -/
def ploadv (L : List LObj) (agg : Option Nat) : PV → Option PV
  | .ptr i o => match prow L i with
    | some (_, cs) => match agg with
      | none => match cs[o]? with
        | some q => if nl q = true then some q else none
        | none => none
      | some n => if o + n ≤ cs.length ∧ allNl (cut cs o n) then some (.agg (cut cs o n)) else none
    | none => none
  | _ => none
theorem ploadv_ok (hr : RH A ρ ζ L H) {agg : Option Nat} {a : PV} {y : Value} (hv : VP ρ ζ a y) (h : ploadv L agg a = some p) : ∃ x, loadV H agg y = some x ∧ VP ρ ζ p x := by
  obtain ⟨g, hg⟩ := hr
  unfold ploadv at h
  split at h
  · rename_i i o
    obtain ⟨k, hk, rfl⟩ := hv.ptr_inv
    split at h
    · rename_i t cs hrow
      obtain ⟨hi, r, cells, f', h2, h3, h4, h5, h6⟩ := hg.rowK hrow hk
      have hrw := h2.rowAt.row
      split at h
      · split at h
        · rename_i y hy
          obtain ⟨c, hc, hw⟩ := h5.get hy
          split at h
          · rename_i hn
            cases h
            exact ⟨c, by simp only [loadV, hrw, hc, Option.isNone_none, cond_true], hw.nl hn⟩
          · cases h
        · cases h
      · rename_i n
        split at h
        · rename_i hc
          cases h
          obtain ⟨fa, fb, w1, w2, _⟩ := h5.take o
          obtain ⟨fc, fd, w4, w5, _⟩ := w2.take n
          have hvl : VPL ρ ζ (cut cs o n) ((cells.drop o).take n) := w4.vpl hc.2
          have : Nat.ble (o + n) cells.length = true := Nat.ble_eq_true_of_le (by rw [← h5.length]; exact hc.1)
          exact ⟨_, by simp only [loadV, hrw, this, Option.isNone_none, Bool.and_self, cond_true], VP.agg' hvl⟩
        · cases h
    · cases h
  · cases h
def pres (E : PEnv) (L : List LObj) : IRes → Option PV
  | .tmp t => E.get t
  | .cell a agg => match E.get a with
    | some p => ploadv L agg p
    | none => none
def press (E : PEnv) (L : List LObj) : List IRes → Option (List PV)
  | [] => some []
  | r :: rs => match pres E L r, press E L rs with
    | some v, some vs => some (v :: vs)
    | _, _ => none
def pone1 : List PV → PV
  | [p] => p
  | ps => .tup ps
theorem pres_ok (hr : RH A ρ ζ L H) (he : EnvP ρ ζ E e) {r : IRes} (h : pres E L r = some p) : ∃ x, resV e H r = some x ∧ VP ρ ζ p x := by
  cases r with
  | tmp t => exact he t p h
  | cell a agg =>
    simp only [pres] at h
    split at h
    · rename_i pa hpa
      obtain ⟨y, h1, h2⟩ := he a _ hpa
      obtain ⟨x, h3, h4⟩ := ploadv_ok hr h2 h
      exact ⟨x, by simp only [resV, h1, h3], h4⟩
    · cases h
theorem press_ok (hr : RH A ρ ζ L H) (he : EnvP ρ ζ E e) : ∀ {rs : List IRes} {ps : List PV}, press E L rs = some ps → ∃ xs, resVs e H rs = some xs ∧ VPL ρ ζ ps xs := by
  intro rs
  induction rs with
  | nil => intro ps h; cases h; exact ⟨[], rfl, .nil⟩
  | cons r rs ih =>
    intro ps h
    simp only [press] at h
    split at h
    · rename_i v vs h1 h2
      cases h
      obtain ⟨x, a1, a2⟩ := pres_ok hr he h1
      obtain ⟨xs, b1, b2⟩ := ih h2
      exact ⟨x :: xs, by simp only [resVs, a1, b1], .cons a2 b2⟩
    · cases h
theorem pone1_ok {rs : List IRes} {ps : List PV} {xs : List Value} (h : VPL ρ ζ ps xs) (hv : resVs e H rs = some xs) : ∃ x, resOut e H rs = some x ∧ VP ρ ζ (pone1 ps) x := by
  unfold resOut
  rw [hv]
  cases h with
  | nil => exact ⟨_, rfl, VP.tup' .nil⟩
  | cons h1 h2 => cases h2 with
    | nil => exact ⟨_, rfl, h1⟩
    | cons h2 h3 => exact ⟨_, rfl, VP.tup' (.cons h1 (.cons h2 h3))⟩

def funcArgs (a args c : List PV) : List PV := a ++ args ++ c
/-- a function by its code; its run may end with things seen otherwise -/
theorem PF_code {f : FuncId} {fn : IFunc} {a c args : List PV} {K : PV → List LObj → Prop} (hE : X0 f = none) (hX : X f = none) (hF : F f = some fn)
    (h : PC F X0 X L.length fn.body (fun x E' L' => (x = .norm ∨ x = .ret) ∧ ∃ ps, press E' L' fn.results = some ps ∧ ∃ E2 L2 v, Abs L.length (E'.set 0 (pone1 ps)) L' E2 L2 ∧ E2.get 0 = some v ∧ K v L2) (penv (funcArgs a args c)) L) : PF F X0 X false (.fn f a c) args L K := by
  intro A ρ ζ H dv dargs gz hr hv ha
  obtain ⟨a', c', rfl, h1, h2⟩ := hv.fn_inv
  refine wpF_code hE hX hF ?_
  have hs : RS L.length ⟨A, H, ρ, ζ, gz⟩ ρ ζ (penv (funcArgs a args c)) L (T.ofFrom 0 (a'.toList ++ dargs ++ c'.toList)) H :=
    ⟨hr, penv_ok ((h1.append ha).append h2), Only.refl _ _, .refl _, let ⟨g, hg⟩ := hr; hg.dom, Nat.le_refl _, .refl _ _⟩
  refine (h _ _ _ _ _ hs).mono ?_
  rintro x e' H' ⟨ρ', ζ', E', L', hs', hx, ps, hps, E2, L2, v, hab, hg, hk⟩
  obtain ⟨xs, b1, b2⟩ := press_ok hs'.rh hs'.env hps
  obtain ⟨y, c1, c2⟩ := pone1_ok b2 b1
  have hs2 : RS L.length ⟨A, H, ρ, ζ, gz⟩ ρ' ζ' (E'.set 0 (pone1 ps)) L' (e'.set 0 y) H' := ⟨hs'.rh, hs'.env.set c2, hs'.only, hs'.base, hs'.dom, hs'.len, hs'.zet⟩
  obtain ⟨ρ2, ζ2, hs3⟩ := hab _ _ _ _ _ hs2
  obtain ⟨y', d1, d2⟩ := hs3.env 0 v hg
  rw [T.get_set, if_pos rfl] at d1
  cases d1
  exact ⟨hx, y, c1, ρ2, ζ2, v, L2, hs3.zet, hs3.base, hs3.rh, d2, hs3.only, (fun h => by cases h), hs3.len, hk⟩
end Go.Den
/- Pen, part H: the same state seen otherwise: other numbers of objects, lists that nobody writes any more. -/
namespace Go.Den
variable {ρ ρ' : Rho} {ζ ζ' : Zeta} {A A' : Nat → Prop} {H H' : AH} {f f' : Nat → Nat} {E E' : PEnv} {e : Env} {L L' : List LObj} {g : Nat → Nat → Nat} {p : PV} {q : Bool}

/-! ### values without numbers of objects -/
mutual
def noId : PV → Bool
  | .v _ => true
  | .ptr _ _ => false
  | .slc _ _ _ _ => false
  | .mapr _ => false
  | .yl _ => false
  | .fn _ a c => noIdL a && noIdL c
  | .ifc _ p => noId p
  | .agg cs => noIdL cs
  | .tup cs => noIdL cs
  | .fz _ _ cs => noIdL cs
  | .fp cs => noIdL cs
  | .ow _ _ _ cs => noIdL cs
  | .bx _ cs => noIdL cs
def noIdL : List PV → Bool
  | [] => true
  | p :: ps => noId p && noIdL ps
end
theorem noIdL_iff {l : List PV} : noIdL l = true ↔ ∀ p ∈ l, noId p = true := by
  induction l with
  | nil => simp [noIdL]
  | cons a l ih => simp [noIdL, ih]
theorem noIdL_get {l : List PV} (h : noIdL l = true) (i : Nat) (hi : i < l.length) : noId l[i] = true := noIdL_iff.1 h _ (List.getElem_mem hi)
theorem VP.noId (hz : ζ.Le ζ') {x : Value} (h : VP ρ ζ p x) : noId p = true → VP ρ' ζ' p x := by
  induction h with
  | v h => intro _; exact .v h
  | ptr h => intro hn; simp [Den.noId] at hn
  | slc h h1 => intro hn; simp [Den.noId] at hn
  | slcN h => intro hn; simp [Den.noId] at hn
  | mapr h => intro hn; simp [Den.noId] at hn
  | yl h => intro hn; simp [Den.noId] at hn
  | fn h1 _ h3 _ ih1 ih2 =>
    intro hn; simp only [Den.noId, Bool.and_eq_true] at hn
    exact .fn h1 (fun i h h' => ih1 i h h' (noIdL_get hn.1 i h)) h3 (fun i h h' => ih2 i h h' (noIdL_get hn.2 i h))
  | ifc _ ih => intro hn; simp only [Den.noId] at hn; exact .ifc (ih hn)
  | agg h1 _ ih => intro hn; simp only [Den.noId] at hn; exact .agg h1 (fun i h h' => ih i h h' (noIdL_get hn i h))
  | tup h1 _ ih => intro hn; simp only [Den.noId] at hn; exact .tup h1 (fun i h h' => ih i h h' (noIdL_get hn i h))
  | fz h1 h0 h2 h3 h4 _ h6 ih => intro hn; simp only [Den.noId] at hn; exact .fz (hz _ _ h1) h0 h2 h3 h4 (fun i h h' => ih i h h' (noIdL_get hn i h)) h6
  | fz0 h => intro _; exact .fz0 h
  | fp h1 h0 h3 h4 _ ih => intro hn; simp only [Den.noId] at hn; exact .fp (hz _ _ h1) h0 h3 h4 (fun i h h' => ih i h h' (noIdL_get hn i h))
theorem VPL.noId (hz : ζ.Le ζ') {ps : List PV} {xs : List Value} (h : VPL ρ ζ ps xs) (hn : noIdL ps = true) : VPL ρ' ζ' ps xs :=
  F2.of_idx h.length fun i h1 h2 => (F2.idx h i h1 h2).noId hz (noIdL_get hn i h1)
theorem WP.noId (hz : ζ.Le ζ') {x : Value} (h : WP A ρ ζ H f p x) : noId p = true → WP A ρ' ζ' H f p x := by
  induction h with
  | val h => intro hn; exact .val (h.noId hz hn)
  | ow g h1 h2 h3 h4 h5 _ h7 ih => intro hn; simp only [Den.noId] at hn; exact .ow g h1 h2 h3 h4 h5 (fun i h h' => ih i h h' (noIdL_get hn i h)) h7
  | bx g h1 h2 h3 h5 _ h7 ih => intro hn; simp only [Den.noId] at hn; exact .bx g h1 h2 h3 h5 (fun i h h' => ih i h h' (noIdL_get hn i h)) h7
  | ifc _ ih => intro hn; simp only [Den.noId] at hn; exact .ifc (ih hn)

/-! ### views -/
/-- p' is p seen otherwise: τ: the new numbers' old ones; what gets none may be written no more -/
inductive Vw (τ : List Nat) (L : List LObj) : PV → PV → Prop
  | same {p : PV} : noId p = true → Vw τ L p p
  | nil {t : TypeId} : Vw τ L (.v (.slice none 0 0)) (.fz t 0 [])
  | nilr {i j : Nat} : τ[j]? = some i → L[i]? = some .nil → Vw τ L (.v (.slice none 0 0)) (.slc j 0 0 0)
  | ptr {i j o : Nat} : τ[j]? = some i → Vw τ L (.ptr i o) (.ptr j o)
  | slc {i j o n c : Nat} : τ[j]? = some i → Vw τ L (.slc i o n c) (.slc j o n c)
  | mapr {i j : Nat} : τ[j]? = some i → Vw τ L (.mapr i) (.mapr j)
  | yl {i j : Nat} : τ[j]? = some i → Vw τ L (.yl i) (.yl j)
  | fn {f : FuncId} {a a' c c' : List PV} : a.length = a'.length → (∀ i (h : i < a.length) (h' : i < a'.length), Vw τ L a[i] a'[i]) → c.length = c'.length → (∀ i (h : i < c.length) (h' : i < c'.length), Vw τ L c[i] c'[i]) → Vw τ L (.fn f a c) (.fn f a' c')
  | ifc {t : TypeId} {p p' : PV} : Vw τ L p p' → Vw τ L (.ifc t p) (.ifc t p')
  | agg {a a' : List PV} : a.length = a'.length → (∀ i (h : i < a.length) (h' : i < a'.length), Vw τ L a[i] a'[i]) → Vw τ L (.agg a) (.agg a')
  | tup {a a' : List PV} : a.length = a'.length → (∀ i (h : i < a.length) (h' : i < a'.length), Vw τ L a[i] a'[i]) → Vw τ L (.tup a) (.tup a')
  | fzs {i o n c : Nat} {t : TypeId} {cs cs' cs'' : List PV} : i ∉ τ → prow L i = some (t, cs) → allNl cs → o ≤ cs.length → cs'' = (cs.drop o).take cs''.length → cs''.length = cs'.length → (∀ i (h : i < cs''.length) (h' : i < cs'.length), Vw τ L cs''[i] cs'[i]) → Vw τ L (.slc i o n c) (.fz t n cs')
  | fzp {i o : Nat} {t : TypeId} {cs cs' cs'' : List PV} : i ∉ τ → prow L i = some (t, cs) → allNl cs → o ≤ cs.length → cs'' = (cs.drop o).take cs''.length → cs''.length = cs'.length → (∀ i (h : i < cs''.length) (h' : i < cs'.length), Vw τ L cs''[i] cs'[i]) → Vw τ L (.ptr i o) (.fp cs')

/-- the heap's row k as a record -/
def zrOf (H : AH) (k : Nat) : Option Zr := match H.get k with
  | some (.cells cs t _ ex r _ _) => some ⟨t, ex, cs, r⟩
  | _ => none
open Classical in
/-- all rows of objects that are not kept are written no more -/
noncomputable def zall (τ : List Nat) (L : List LObj) (ρ : Rho) (ζ : Zeta) (H : AH) : Zeta := fun k =>
  if ∃ i t cs, L[i]? = some (.row t cs) ∧ ρ i = some (some k) ∧ i ∉ τ then zrOf H k else ζ k

theorem own_zr {k r : Nat} {t : TypeId} {cells : List Value} (h : Own H k r t cells) : ∃ z, zrOf H k = some z ∧ z.t = t ∧ z.cs = cells ∧ z.r = r ∧ FrzRow H k r z := by
  obtain ⟨t', ro, ex, thr, tip, h1⟩ := h.rowAt.at_
  have ht : t' = t := by
    rcases h.own with ⟨_, ex, thr, _, h2⟩ | ⟨_, ⟨thr, tip, h2⟩, _⟩ <;> (rw [h1] at h2; cases h2; rfl)
  subst ht
  exact ⟨⟨t', ex, cells, r⟩, by simp [zrOf, h1], rfl, rfl, rfl, h.lt, h.rowAt.le, ⟨_, _, _, h1⟩, h.rowAt.root⟩
theorem frz_root {k r r' : Nat} {z z' : Zr} (h : FrzRow H k r z) (h' : FrzRow H k r' z') : r = r' := by
  obtain ⟨_, _, _, h1⟩ := h.at_
  obtain ⟨_, _, _, h2⟩ := h'.at_
  rw [h1] at h2
  simp only [Option.some.injEq, AObj.cells.injEq] at h2
  exact h2.2.2.2.2.1

theorem zall_x (hg : RHg A ρ ζ L H g) (τ : List Nat) : ζ.X A (zall τ L ρ ζ H) := by
  refine ⟨fun k z hz => ?_, fun k z hz => ?_⟩
  · unfold zall
    split
    · rename_i hh
      obtain ⟨i, t, cs, h1, h2, h3⟩ := hh
      exfalso
      obtain ⟨a, b⟩ := hg.frz k z hz
      have hpr : prow L i = some (t, cs) := by simp [prow, h1]
      obtain ⟨_, r, cells, f', c2, c3, c4, c5, c6⟩ := hg.rowK hpr h2
      obtain ⟨z', _, _, _, _, d⟩ := own_zr c2
      have := frz_root a d
      have hi : i < L.length := (List.getElem?_eq_some_iff.1 h1).1
      have := sumN_le (g := fun i => g i z.r) hi
      have := c6 z.r
      simp_all
    · exact hz
  · unfold zall at hz
    split at hz
    · rename_i hh
      obtain ⟨i, t, cs, h1, h2, h3⟩ := hh
      have hpr : prow L i = some (t, cs) := by simp [prow, h1]
      obtain ⟨_, r, cells, f', c2, c3, c4, c5, c6⟩ := hg.rowK hpr h2
      obtain ⟨z', d1, _, _, d2, _⟩ := own_zr c2
      rw [d1] at hz; cases hz
      exact .inr (d2 ▸ c4)
    · exact .inl hz
theorem zall_row (hg : RHg A ρ ζ L H g) {τ : List Nat} {i : Nat} {t : TypeId} {cs : List PV} (hi : i ∉ τ) (hrow : prow L i = some (t, cs)) (hn : allNl cs) : (∃ k z, ρ i = some (some k) ∧ zall τ L ρ ζ H k = some z ∧ z.t = t ∧ VPL ρ ζ cs z.cs) ∨ (cs = [] ∧ ρ i = some none) := by
  obtain ⟨hlt, ⟨k, r, cells, f', h1, h2, h3, h4, h5, h6⟩ | h1⟩ := hg.row hrow
  case inr => exact .inr h1
  obtain ⟨z, d1, d2, d3, d4, d5⟩ := own_zr h2
  refine .inl ⟨k, z, h1, ?_, d2, d3 ▸ h5.vpl hn⟩
  unfold zall
  rw [if_pos ⟨i, t, cs, prow_some hrow, h1, hi⟩]
  exact d1

def rhoOf (τ : List Nat) (ρ : Rho) : Rho := fun j => τ[j]?.bind ρ
theorem Vw.ok (hg : RHg A ρ ζ L H g) {τ : List Nat} {p' : PV} (h : Vw τ L p p') : ∀ {x : Value}, VP ρ ζ p x → VP (rhoOf τ ρ) (zall τ L ρ ζ H) p' x := by
  induction h with
  | same hn => intro x hx; exact hx.noId (zall_x hg τ).le hn
  | nil => intro x hx; rw [hx.v_inv.1]; exact .fzN
  | ptr h => intro x hx; obtain ⟨k, hk, rfl⟩ := hx.ptr_inv; exact .ptr (by simp [rhoOf, h, hk])
  | nilr h h1 => intro x hx; rw [hx.v_inv.1]; have h2 := hg.objs _ _ h1; exact .slcN (by simp only [rhoOf, h]; exact h2)
  | slc h =>
    intro x hx
    rcases hx.slc_inv with ⟨k, hk, hl, rfl⟩ | ⟨hk, rfl, rfl, rfl, rfl⟩
    · exact .slc (by simp [rhoOf, h, hk]) hl
    · exact .slcN (by simp [rhoOf, h, hk])
  | mapr h => intro x hx; obtain ⟨k, hk, rfl⟩ := hx.mapr_inv; exact .mapr (by simp [rhoOf, h, hk])
  | yl h => intro x hx; cases hx with | yl hk => exact .yl (by simp [rhoOf, h, hk])
  | fn h1 _ h3 _ ih1 ih2 =>
    intro x hx
    cases hx with
    | fn g1 g2 g3 g4 => exact .fn (by omega) (fun i h h' => ih1 i (by omega) h (g2 i (by omega) h')) (by omega) (fun i h h' => ih2 i (by omega) h (g4 i (by omega) h'))
  | ifc _ ih => intro x hx; obtain ⟨y, rfl, hy⟩ := hx.ifc_inv; exact .ifc (ih hy)
  | agg h1 _ ih =>
    intro x hx
    cases hx with
    | agg g1 g2 => exact .agg (by omega) (fun i h h' => ih i (by omega) h (g2 i (by omega) h'))
  | tup h1 _ ih =>
    intro x hx
    cases hx with
    | tup g1 g2 => exact .tup (by omega) (fun i h h' => ih i (by omega) h (g2 i (by omega) h'))
  | fzs hi hrow hn ho hc hl _ ih =>
    rename_i i o n c t cs cs' cs'' _
    intro x hx
    rcases hx.slc_inv with ⟨k, hk, hlc, rfl⟩ | ⟨hk, rfl, rfl, rfl, rfl⟩
    case inr =>
      obtain ⟨_, rfl⟩ := hg.rowN hrow hk
      have hc' : cs'' = [] := by rw [hc]; simp
      subst hc'
      have : cs' = [] := List.eq_nil_of_length_eq_zero (by simpa using hl.symm)
      subst this
      exact .fzN
    rcases zall_row hg hi hrow hn with ⟨k', z, h1, h2, h3, h4⟩ | ⟨_, h1⟩
    case inr => rw [hk] at h1; cases h1
    rw [hk] at h1; cases h1
    have hv : VPL ρ ζ cs'' ((z.cs.drop o).take cs''.length) := by
      conv => arg 3; rw [hc]
      exact (h4.drop o).take _
    have hlen := hv.length
    refine .fz h2 (by rw [← h4.length]; exact ho) (.inr h3) rfl (by rw [← hl]; exact hlen) (fun j a b => ?_) hlc
    have := ih j (by omega) a (F2.idx hv j (by omega) (by omega))
    simp only [← hl]
    exact this
  | fzp hi hrow hn ho hc hl _ ih =>
    rename_i i o t cs cs' cs'' _
    intro x hx
    obtain ⟨k, hk, rfl⟩ := hx.ptr_inv
    rcases zall_row hg hi hrow hn with ⟨k', z, h1, h2, h3, h4⟩ | ⟨_, h1⟩
    case inr => rw [hk] at h1; cases h1
    rw [hk] at h1; cases h1
    have hv : VPL ρ ζ cs'' ((z.cs.drop o).take cs''.length) := by
      conv => arg 3; rw [hc]
      exact (h4.drop o).take _
    have hlen := hv.length
    refine .fp h2 (by rw [← h4.length]; exact ho) rfl (by rw [← hl]; exact hlen) (fun j a b => ?_)
    have := ih j (by omega) a (F2.idx hv j (by omega) (by omega))
    simp only [← hl]
    exact this
theorem Vw.okW (hg : RHg A ρ ζ L H g) {τ : List Nat} {x : Value} (hw : WP A ρ ζ H f p x) : ∀ {p' : PV}, Vw τ L p p' → WP A (rhoOf τ ρ) (zall τ L ρ ζ H) H f p' x := by
  have hz := (zall_x hg τ).le
  induction hw with
  | val hv => intro p' h; exact .val (h.ok hg hv)
  | ow g h1 h2 h3 h4 h5 h6 h7 ih =>
    intro p' h
    cases h with
    | same hn => exact WP.noId (ρ := ρ) hz (.ow g h1 h2 h3 h4 h5 h6 h7) hn
  | bx g h1 h2 h3 h5 h6 h7 ih =>
    intro p' h
    cases h with
    | same hn => exact WP.noId (ρ := ρ) hz (.bx g h1 h2 h3 h5 h6 h7) hn
  | ifc hw ih =>
    intro p' h
    cases h with
    | same hn => exact WP.noId (ρ := ρ) hz (.ifc hw) hn
    | ifc h => exact .ifc (ih h)
abbrev VwL (τ : List Nat) (L : List LObj) := F2 (Vw τ L)
theorem Vw.okWL (hg : RHg A ρ ζ L H g) {τ : List Nat} {cs cs' : List PV} {xs : List Value} (h : VwL τ L cs cs') (hw : WL A ρ ζ H f cs xs) : WL A (rhoOf τ ρ) (zall τ L ρ ζ H) H f cs' xs := by
  obtain ⟨g', h1, h2, h3⟩ := hw
  have hl := h.length
  refine ⟨g', by omega, fun i a b => Vw.okW hg (h2 i (by omega) b) (F2.idx h i (by omega) a), fun x => by rw [← hl]; exact h3 x⟩
inductive VwO (τ : List Nat) (L : List LObj) : LObj → LObj → Prop
  | row {t : TypeId} {cs cs' : List PV} : VwL τ L cs cs' → VwO τ L (.row t cs) (.row t cs')
  | map {es es' : List (Value × PV × Nat)} {c : Nat} : F2 (fun a b => a.1 = b.1 ∧ a.2.2 = b.2.2 ∧ Vw τ L a.2.1 b.2.1) es es' → VwO τ L (.map es c) (.map es' c)
  | loop {E E' : T PV} {ps : List Nat} {as bd : ICode} {st : Nat} {pend : Option Ex} : (∀ t p', E'.get t = some p' → ∃ p, E.get t = some p ∧ Vw τ L p p') → VwO τ L (.loop E ps as bd st pend) (.loop E' ps as bd st pend)
  | iter {s : ByteArray} {pos : Nat} : VwO τ L (.iter s pos) (.iter s pos)
  | nil : VwO τ L .nil .nil
  | nilr {t : TypeId} : VwO τ L .nil (.row t [])
  | dead {o : LObj} : VwO τ L o .dead

theorem sum_sub : ∀ (τ : List Nat) (n : Nat) (g : Nat → Nat), τ.Nodup → (∀ i ∈ τ, i < n) → (τ.map g).sum ≤ sumN n g := by
  intro τ
  induction τ with
  | nil => intro n g _ _; simp
  | cons i τ ih =>
    intro n g hn hl
    rw [List.nodup_cons] at hn
    have hi := hl i (by simp)
    have h1 := ih n (fun j => if j = i then 0 else g j) hn.2 (fun j hj => hl j (by simp [hj]))
    have h2 := sumN_upd (n := n) (i := i) (g := g) (y := 0) hi
    have h3 : τ.map (fun j => if j = i then 0 else g j) = τ.map g := List.map_congr_left fun j hj => by rw [if_neg]; rintro rfl; exact hn.1 hj
    rw [h3] at h1
    simp only [List.map_cons, List.sum_cons]
    omega
theorem sum_get (τ : List Nat) (d : Nat) (g : Nat → Nat) : sumN τ.length (fun j => g (τ.getD j d)) = (τ.map g).sum := by
  induction τ with
  | nil => rfl
  | cons i τ ih =>
    have h1 : sumN (1 + τ.length) (fun j => g ((i :: τ).getD j d)) = g i + sumN τ.length (fun j => g (τ.getD j d)) := by
      rw [sumN_add]
      congr 1
      · simp [sumN]
      · exact sumN_congr fun j hj => by simp [List.getD_eq_getElem?_getD, Nat.add_comm 1 j]
    simp only [List.length_cons, List.map_cons, List.sum_cons]
    rw [Nat.add_comm τ.length 1, h1, ih]

theorem Abs.view {n0 : Nat} (τ : List Nat) (hnd : τ.Nodup) (hlt : ∀ i ∈ τ, i < L.length) (hpin : ∀ i, i < n0 → τ[i]? = some i) (hlen : L'.length = τ.length) (hn0 : n0 ≤ τ.length)
    (hL : ∀ (j i : Nat) (o' : LObj), τ[j]? = some i → L'[j]? = some o' → ∃ o, L[i]? = some o ∧ VwO τ L o o') (hE : ∀ t p', E'.get t = some p' → ∃ p, E.get t = some p ∧ Vw τ L p p') : Abs n0 E L E' L' := by
  intro fx ρ ζ e H hs
  obtain ⟨g, hg⟩ := hs.rh
  have hx := zall_x hg τ
  refine ⟨rhoOf τ ρ, zall τ L ρ ζ H, ⟨⟨fun j => g (τ.getD j L.length), ?_, ?_, ?_, ?_, hg.acc, ?_, hg.wf⟩, ?_, hs.only, ?_, hs.dom, by rw [hlen]; exact hn0, hs.zet.trans hx⟩⟩
  · intro j o' hj
    have hjt : j < τ.length := by rw [← hlen]; exact (List.getElem?_eq_some_iff.1 hj).1
    have hti : τ[j]? = some (τ.getD j L.length) := by simp [List.getD_eq_getElem?_getD, hjt]
    obtain ⟨o, h1, h2⟩ := hL j _ o' hti hj
    have hop := hg.objs _ _ h1
    have hrho : ∀ k, ρ (τ.getD j L.length) = some k → rhoOf τ ρ j = some k := fun k hk => by unfold rhoOf; rw [hti]; exact hk
    cases h2 with
    | row hv =>
      rcases hop with ⟨k, r, cells, f', c1, c2, c3, c4, c5, c6⟩ | ⟨c1, c2⟩
      · exact .inl ⟨k, r, cells, f', hrho _ c1, c2, c3, c4, Vw.okWL hg hv c5, c6⟩
      · subst c1; exact .inr ⟨List.eq_nil_of_length_eq_zero (by simpa using hv.length.symm), hrho _ c2⟩
    | nil => exact hrho _ hop
    | nilr => exact .inr ⟨rfl, hrho _ hop⟩
    | map hv =>
      obtain ⟨k, es', f', c1, c0, c2, c3, ⟨c4, c5⟩, c6⟩ := hop
      refine ⟨k, es', f', hrho _ c1, c0, c2, c3, ⟨?_, Vw.okWL hg ?_ c5⟩, c6⟩
      · have := hv.length
        exact F2.of_idx (by rw [← this]; exact c4.length) fun i a b => by
          have d1 := F2.idx hv i (by omega) a
          have d2 := F2.idx c4 i (by omega) b
          exact ⟨d1.1.symm.trans d2.1, d1.2.1.symm.trans d2.2⟩
      · exact F2.of_idx (by simpa using hv.length) fun i a b => by
          simp only [List.getElem_map]
          exact (F2.idx hv i (by simpa using a) (by simpa using b)).2.2
    | iter =>
      obtain ⟨k, c1, c2, c3, c4, c5⟩ := hop
      exact ⟨k, hrho _ c1, c2, c3, c4, c5⟩
    | loop hv =>
      obtain ⟨k, e', c1, c2, c3, c4, c6, c5⟩ := hop
      refine ⟨k, e', hrho _ c1, c2, c3, c4, fun t p' hp' => ?_, c5⟩
      obtain ⟨p, d1, d2⟩ := hv t p' hp'
      obtain ⟨x, d3, d4⟩ := c6 t p d1
      exact ⟨x, d3, d2.ok hg d4⟩
    | dead => trivial
  · intro r
    rw [hlen, sum_get τ L.length (fun i => g i r)]
    exact Nat.le_trans (sum_sub τ L.length (fun i => g i r) hnd hlt) (hg.sum r)
  · intro k z hz
    rw [hlen, sum_get τ L.length (fun i => g i z.r)]
    unfold zall at hz
    split at hz
    · rename_i hh
      obtain ⟨i, t, cs, h1, h2, h3⟩ := hh
      have hpr : prow L i = some (t, cs) := by simp [prow, h1]
      obtain ⟨_, r, cells, f', c2, c3, c4, c5, c6⟩ := hg.rowK hpr h2
      obtain ⟨z', d1, _, _, d2, d3⟩ := own_zr c2
      rw [d1] at hz; cases hz
      rw [d2]
      have hi : i < L.length := (List.getElem?_eq_some_iff.1 h1).1
      have q1 := sum_sub (i :: τ) L.length (fun i => g i r) (List.nodup_cons.2 ⟨h3, hnd⟩) (fun j hj => (List.mem_cons.1 hj).elim (fun e => e ▸ hi) (hlt j))
      simp only [List.map_cons, List.sum_cons] at q1
      have q2 := hg.sum r
      have q3 := c6 r
      simp only [if_true] at q3
      exact ⟨d3, by omega⟩
    · obtain ⟨a, b⟩ := hg.frz k z hz
      exact ⟨a, Nat.eq_zero_of_le_zero (Nat.le_trans (sum_sub τ L.length (fun i => g i z.r) hnd hlt) (Nat.le_of_eq b))⟩
  · intro r hr
    rw [hlen, sum_get τ L.length (fun i => g i r)]
    exact Nat.eq_zero_of_le_zero (Nat.le_trans (sum_sub τ L.length (fun i => g i r) hnd hlt) (Nat.le_of_eq (hg.bnd r hr)))
  · intro i k hk
    unfold rhoOf at hk
    rw [hlen]
    cases hh : τ[i]? with
    | none => rw [hh] at hk; cases hk
    | some _ => exact (List.getElem?_eq_some_iff.1 hh).1
  · intro t p' hp'
    obtain ⟨p, h1, h2⟩ := hE t p' hp'
    obtain ⟨x, h3, h4⟩ := hs.env t p h1
    exact ⟨x, h3, h2.ok hg h4⟩
  · intro i k hk
    have hi := hs.dom i k hk
    unfold rhoOf
    rw [hpin i hi]
    exact hs.base i k hk
/-- a list that is nil becomes an object -/
theorem Abs.addNil (n0 : Nat) (E : PEnv) (L : List LObj) : Abs n0 E L E (L ++ [.nil]) := by
  intro fx ρ ζ e H hs
  obtain ⟨g, hg⟩ := hs.rh
  have hle := Rho.le_add (k := none) hg.fresh
  exact ⟨_, ζ, hg.pushN Rho.add_self, hs.env.mono hle (.refl _), hs.only, hs.base.trans hle, hs.dom, by have := hs.len; simp; omega, hs.zet⟩
end Go.Den
/- Pen, part I: a call that is given no objects. -/
namespace Go.Den
variable {ρ ρ' : Rho} {ζ ζ' : Zeta} {A A' : Nat → Prop} {H H' : AH} {f f' : Nat → Nat} {E E' : PEnv} {e : Env} {L L' : List LObj} {g : Nat → Nat → Nat} {p : PV} {q : Bool}

mutual
def ren (θ : Nat → Nat) : PV → PV
  | .v x => .v x
  | .ptr i o => .ptr (θ i) o
  | .slc i o n c => .slc (θ i) o n c
  | .mapr i => .mapr (θ i)
  | .yl i => .yl (θ i)
  | .fn f a c => .fn f (renL θ a) (renL θ c)
  | .ifc t p => .ifc t (ren θ p)
  | .agg cs => .agg (renL θ cs)
  | .tup cs => .tup (renL θ cs)
  | .fz t n cs => .fz t n (renL θ cs)
  | .fp cs => .fp (renL θ cs)
  | .ow t n c cs => .ow t n c (renL θ cs)
  | .bx t cs => .bx t (renL θ cs)
def renL (θ : Nat → Nat) : List PV → List PV
  | [] => []
  | p :: ps => ren θ p :: renL θ ps
end
theorem renL_map (θ : Nat → Nat) (l : List PV) : renL θ l = l.map (ren θ) := by
  induction l with
  | nil => rfl
  | cons a l ih => simp [renL, ih]
@[simp] theorem renL_length (θ : Nat → Nat) (l : List PV) : (renL θ l).length = l.length := by rw [renL_map]; simp
theorem renL_get (θ : Nat → Nat) (l : List PV) (i : Nat) (h : i < (renL θ l).length) : (renL θ l)[i] = ren θ (l[i]'(by simpa using h)) := by
  simp only [renL_map, List.getElem_map]
mutual
theorem ren_noId (θ : Nat → Nat) : ∀ p : PV, noId p = true → ren θ p = p
  | .v x, _ => rfl
  | .ptr i o, h => by simp [noId] at h
  | .slc i o n c, h => by simp [noId] at h
  | .mapr i, h => by simp [noId] at h
  | .yl i, h => by simp [noId] at h
  | .fn f a c, h => by simp only [noId, Bool.and_eq_true] at h; simp only [ren, renL_noId θ a h.1, renL_noId θ c h.2]
  | .ifc t p, h => by simp only [noId] at h; simp only [ren, ren_noId θ p h]
  | .agg cs, h => by simp only [noId] at h; simp only [ren, renL_noId θ cs h]
  | .tup cs, h => by simp only [noId] at h; simp only [ren, renL_noId θ cs h]
  | .fz t n cs, h => by simp only [noId] at h; simp only [ren, renL_noId θ cs h]
  | .fp cs, h => by simp only [noId] at h; simp only [ren, renL_noId θ cs h]
  | .ow t n c cs, h => by simp only [noId] at h; simp only [ren, renL_noId θ cs h]
  | .bx t cs, h => by simp only [noId] at h; simp only [ren, renL_noId θ cs h]
theorem renL_noId (θ : Nat → Nat) : ∀ l : List PV, noIdL l = true → renL θ l = l
  | [], _ => rfl
  | p :: ps, h => by simp only [noIdL, Bool.and_eq_true] at h; simp only [renL, ren_noId θ p h.1, renL_noId θ ps h.2]
end
def renO (θ : Nat → Nat) : LObj → LObj
  | .row t cs => .row t (renL θ cs)
  | .map es c => .map (es.map fun e => (e.1, ren θ e.2.1, e.2.2)) c
  | .iter s pos => .iter s pos
  | .loop .. => .dead
  | .nil => .nil
  | .dead => .dead

theorem VP.ren {θ : Nat → Nat} {x : Value} (h : VP (fun i => ρ (θ i)) ζ p x) : VP ρ ζ (Den.ren θ p) x := by
  induction h with
  | v h => exact .v h
  | ptr h => exact .ptr h
  | slc h h1 => exact .slc h h1
  | slcN h => exact .slcN h
  | mapr h => exact .mapr h
  | yl h => exact .yl h
  | fn h1 _ h3 _ ih1 ih2 => exact .fn (by simpa using h1) (fun i h h' => by rw [renL_get]; exact ih1 i (by simpa using h) h') (by simpa using h3) (fun i h h' => by rw [renL_get]; exact ih2 i (by simpa using h) h')
  | ifc _ ih => exact .ifc ih
  | agg h1 _ ih => exact .agg (by simpa using h1) (fun i h h' => by rw [renL_get]; exact ih i (by simpa using h) h')
  | tup h1 _ ih => exact .tup (by simpa using h1) (fun i h h' => by rw [renL_get]; exact ih i (by simpa using h) h')
  | fz h1 h0 h2 h3 h4 _ h6 ih => exact .fz h1 h0 h2 (by simpa using h3) (by simpa using h4) (fun i h h' => by rw [renL_get]; exact ih i (by simpa using h) h') h6
  | fz0 h => exact .fz0 h
  | fp h1 h0 h3 h4 _ ih => exact .fp h1 h0 (by simpa using h3) (by simpa using h4) (fun i h h' => by rw [renL_get]; exact ih i (by simpa using h) h')
theorem WP.ren {θ : Nat → Nat} {x : Value} (h : WP A (fun i => ρ (θ i)) ζ H f p x) : WP A ρ ζ H f (Den.ren θ p) x := by
  induction h with
  | val h => exact .val h.ren
  | ow g h1 h2 h3 h4 h5 _ h7 ih => exact .ow g h1 h2 h3 h4 (by simpa using h5) (fun i h h' => by rw [renL_get]; exact ih i (by simpa using h) h') (by simpa using h7)
  | bx g h1 h2 h3 h5 _ h7 ih => exact .bx g h1 h2 h3 (by simpa using h5) (fun i h h' => by rw [renL_get]; exact ih i (by simpa using h) h') (by simpa using h7)
  | ifc _ ih => exact .ifc ih
theorem WL.ren {θ : Nat → Nat} {cs : List PV} {xs : List Value} (h : WL A (fun i => ρ (θ i)) ζ H f cs xs) : WL A ρ ζ H f (renL θ cs) xs := by
  obtain ⟨g, a, b, c⟩ := h
  exact ⟨g, by simpa using a, fun i h h' => by rw [renL_get]; exact (b i (by simpa using h) h').ren, by simpa using c⟩
theorem OP.ren {θ : Nat → Nat} {i : Nat} {o : LObj} (h : OP A (fun i => ρ (θ i)) ζ H f i o) : OP A ρ ζ H f (θ i) (renO θ o) := by
  cases o with
  | row t cs =>
    rcases h with ⟨k, r, cells, f', h1, h2, h3, h4, h5, h6⟩ | ⟨h1, h2⟩
    · exact .inl ⟨k, r, cells, f', h1, h2, h3, h4, h5.ren, h6⟩
    · subst h1; exact .inr ⟨rfl, h2⟩
  | map es c =>
    obtain ⟨k, es', f', h1, h0, h2, h3, ⟨h4, h5⟩, h6⟩ := h
    refine ⟨k, es', f', h1, h0, h2, h3, ⟨?_, ?_⟩, h6⟩
    · exact F2.of_idx (by simpa using h4.length) fun i a b => by simpa using F2.idx h4 i (by simpa using a) b
    · have := h5.ren
      rw [renL_map] at this
      simpa [List.map_map, Function.comp_def] using this
  | iter s pos => exact h
  | loop => trivial
  | nil => exact h
  | dead => trivial

/-! ### only what is of families A counts -/
open Classical in
noncomputable def tg (A : Nat → Prop) (f : Nat → Nat) : Nat → Nat := fun r => if A r then f r else 0
theorem tg_sum (A : Nat → Prop) (n r : Nat) (hr : A r) (g : Nat → Nat → Nat) (f : Nat → Nat) (h : ∀ x, (if x = r then 1 else 0) + sumN n (fun i => g i x) ≤ f x) : ∀ x, (if x = r then 1 else 0) + sumN n (fun i => tg A (g i) x) ≤ tg A f x := by
  intro x
  unfold tg
  by_cases hx : A x
  · simp only [hx, if_true]; exact h x
  · have : x ≠ r := fun e => hx (e ▸ hr)
    simp only [hx, if_false, this]
    rw [sumN_zero (fun _ _ => rfl)]
    exact Nat.le_refl _
theorem tg_le (A : Nat → Prop) (n : Nat) (g : Nat → Nat → Nat) (f : Nat → Nat) (h : ∀ x, sumN n (fun i => g i x) ≤ f x) : ∀ x, sumN n (fun i => tg A (g i) x) ≤ tg A f x := by
  intro x
  unfold tg
  by_cases hx : A x
  · simp only [hx, if_true]; exact h x
  · simp only [hx, if_false]; rw [sumN_zero (fun _ _ => rfl)]; exact Nat.le_refl _
theorem WP.tight {x : Value} (h : WP A ρ ζ H f p x) : WP A ρ ζ H (tg A f) p x := by
  induction h with
  | val h => exact .val h
  | ow g h1 h2 h3 h4 h5 _ h7 ih => exact .ow (fun i => tg A (g i)) h1 h2 h3 h4 h5 ih (tg_sum A _ _ h3 g _ h7)
  | bx g h1 h2 h3 h5 _ h7 ih => exact .bx (fun i => tg A (g i)) h1 h2 h3 h5 ih (tg_sum A _ _ h3 g _ h7)
  | ifc _ ih => exact .ifc ih
theorem WL.tight {cs : List PV} {xs : List Value} (h : WL A ρ ζ H f cs xs) : WL A ρ ζ H (tg A f) cs xs := by
  obtain ⟨g, a, b, c⟩ := h
  exact ⟨fun i => tg A (g i), a, fun i h h' => (b i h h').tight, tg_le A _ g f c⟩
theorem tg_add (A : Nat → Prop) (r : Nat) (hr : A r) (f' f : Nat → Nat) (h : ∀ x, (if x = r then 1 else 0) + f' x ≤ f x) : ∀ x, (if x = r then 1 else 0) + tg A f' x ≤ tg A f x := by
  intro x
  unfold tg
  by_cases hx : A x
  · simp only [hx, if_true]; exact h x
  · have : x ≠ r := fun e => hx (e ▸ hr)
    simp [hx, this]
theorem OP.tight {i : Nat} {o : LObj} (h : OP A ρ ζ H f i o) : OP A ρ ζ H (tg A f) i o := by
  cases o with
  | row t cs =>
    rcases h with ⟨k, r, cells, f', h1, h2, h3, h4, h5, h6⟩ | h
    · exact .inl ⟨k, r, cells, tg A f', h1, h2, h3, h4, h5.tight, tg_add A r h4 f' f h6⟩
    · exact .inr h
  | map es c => obtain ⟨k, es', f', h1, h0, h2, h3, ⟨h4, h5⟩, h6⟩ := h; exact ⟨k, es', tg A f', h1, h0, h2, h3, ⟨h4, h5.tight⟩, tg_add A k h3 f' f h6⟩
  | iter s pos => obtain ⟨k, h1, h0, h2, h3, h4⟩ := h; exact ⟨k, h1, h0, h2, h3, by unfold tg; simp [h3, h4]⟩
  | loop E ps as bd st pend => obtain ⟨k, e, h1, h0, h2, h3, h5, h4⟩ := h; exact ⟨k, e, h1, h0, h2, h3, h5, by unfold tg; simp [h3, h4]⟩
  | nil => exact h
  | dead => trivial

theorem Kp.of_only {H H' : AH} (h : Only H H' (H.next ≤ ·)) : Kp H H' (fun _ => False) := by
  refine ⟨h.next, fun k r t cs _ ho => ?_, fun k r z _ hf => ?_, fun j o hj _ hg _ => ?_⟩
  · have := ho.lt; have := ho.rowAt.le
    exact ho.only h (by omega) (by omega)
  · have := hf.lt; have := hf.le
    exact hf.only h (by omega) (by omega)
  · rw [h.get j hj (by omega)]; exact hg

variable {F : FuncId → Option IFunc} {X0 X : Ext}
/-- **A call that is given no objects**: what it makes comes behind what is there. -/
theorem PF.frame0 {fv : PV} {args : List PV} {K : PV → List LObj → Prop} (hf : noId fv = true) (ha : noIdL args = true) (h : PF F X0 X q fv args [] K) (q' : Bool) (L : List LObj) :
    PF F X0 X q' fv args L (fun v L' => ∃ v0 L0, K v0 L0 ∧ v = ren (· + L.length) v0 ∧ L' = L ++ L0.map (renO (· + L.length))) := by
  intro A ρ ζ H dv dargs gz ⟨g, hg⟩ hv hargs
  have hz0 : ζ.Le ζ := .refl _
  refine (h (H.next ≤ ·) (fun _ => none) ζ H dv dargs gz ⟨fun _ _ => 0, fun i o hi => by simp at hi, fun r => by simp [sumN], fun k z hz => ⟨(hg.frz k z hz).1, by simp [sumN]⟩, fun r _ => by simp [sumN], fun j hj => hj, fun i k hk => (by cases hk), hg.wf⟩
    (hv.noId hz0 hf) (hargs.noId hz0 ha)).mono ?_
  rintro v' H' ⟨ρ', ζ', v0, L0, c1, c2, ⟨g0, hg0⟩, c4, c5, _, _, c8⟩
  have hA : ∀ j, H.next ≤ j → A j := hg.acc
  let ρ2 : Rho := fun i => if i < L.length then ρ i else ρ' (i - L.length)
  have hsh : (fun i => ρ2 (i + L.length)) = ρ' := by
    funext i
    show (if i + L.length < L.length then _ else _) = _
    rw [if_neg (by omega), Nat.add_sub_cancel]
  have hle : ρ.Le ρ2 := fun i k hk => by
    show (if i < L.length then _ else _) = _
    rw [if_pos (hg.dom i k hk)]; exact hk
  have hkp := Kp.of_only c5
  let g2 : Nat → Nat → Nat := fun i => if i < L.length then g i else tg (H.next ≤ ·) (g0 (i - L.length))
  have hlen : (L ++ L0.map (renO (· + L.length))).length = L.length + L0.length := by simp
  have hsum : ∀ r, sumN (L.length + L0.length) (fun i => g2 i r) = sumN L.length (fun i => g i r) + sumN L0.length (fun i => tg (H.next ≤ ·) (g0 i) r) := fun r => by
    rw [sumN_add]
    congr 1
    · exact sumN_congr fun i hi => by show (if i < L.length then g i else _) r = _; rw [if_pos hi]
    · exact sumN_congr fun i hi => by show (if L.length + i < L.length then _ else tg _ (g0 (L.length + i - L.length))) r = _; rw [if_neg (by omega), Nat.add_sub_cancel_left]
  have hlow : ∀ r, ¬ H.next ≤ r → sumN L0.length (fun i => tg (H.next ≤ ·) (g0 i) r) = 0 := fun r hr => sumN_zero fun i _ => by unfold tg; rw [if_neg hr]
  have hup : ∀ r, sumN L0.length (fun i => tg (H.next ≤ ·) (g0 i) r) ≤ sumN L0.length (fun i => g0 i r) := fun r => sumN_mono fun i _ => by unfold tg; split <;> omega
  refine ⟨ρ2, ζ', ren (· + L.length) v0, _, ⟨c1.le, fun k z hz => (c1.new k z hz).imp id (hA _)⟩, hle, ⟨g2, ?_, ?_, ?_, ?_, ?_, ?_, hg0.wf⟩, ?_, c5.mono (fun j hj => hA j hj), fun _ => c5, by simp, v0, L0, c8, rfl, rfl⟩
  · intro i o hi
    by_cases hlt : i < L.length
    · rw [List.getElem?_append_left hlt] at hi
      show OP A ρ2 ζ' H' (if i < L.length then g i else _) i o
      rw [if_pos hlt]
      exact (hg.objs i o hi).kp hkp hle c1.le (fun _ h => h) (fun _ h => h.elim)
    · rw [List.getElem?_append_right (by omega), List.getElem?_map] at hi
      cases ho : L0[i - L.length]? with
      | none => rw [ho] at hi; cases hi
      | some o0 =>
        rw [ho] at hi
        cases hi
        have h1 := (hg0.objs _ _ ho).tight
        rw [← hsh] at h1
        have h2 := h1.ren
        simp only [Nat.sub_add_cancel (show L.length ≤ i by omega)] at h2
        show OP A ρ2 ζ' H' (if i < L.length then g i else tg (H.next ≤ ·) (g0 (i - L.length))) i _
        rw [if_neg hlt]
        exact h2.kp (Kp.refl H' (fun _ => False)) (.refl _) (.refl _) hA (fun _ h => h.elim)
  · intro r
    rw [hlen, hsum]
    by_cases hr : H.next ≤ r
    · have := hg.bnd r hr; have := hup r; have := hg0.sum r; omega
    · have := hlow r hr; have := hg.sum r; omega
  · intro k z hz
    rw [hlen, hsum]
    obtain ⟨d1, d2⟩ := hg0.frz k z hz
    refine ⟨d1, ?_⟩
    have := hup z.r
    rcases c1.new k z hz with h1 | h1
    · have := (hg.frz k z h1).2; omega
    · have := hg.bnd z.r h1; omega
  · intro r hr
    rw [hlen, hsum]
    have := c5.next
    have := hg.bnd r (by omega)
    have := hg0.bnd r hr
    have := hup r
    omega
  · intro j hj
    exact hA j (Nat.le_trans c5.next hj)
  · intro i k hk
    rw [hlen]
    have hk' : (if i < L.length then ρ i else ρ' (i - L.length)) = some k := hk
    split at hk'
    · omega
    · have := hg0.dom _ _ hk'; omega
  · rw [← hsh] at c4
    exact c4.ren

/-- a call that depends on values alone, and makes values alone -/
def PP (F : FuncId → Option IFunc) (X0 X : Ext) (fv : PV) (args : List PV) (v : PV) : Prop := ∀ q L, PF F X0 X q fv args L (fun v' L' => v' = v ∧ L' = L)
theorem PP.of {fv : PV} {args : List PV} {v : PV} (hf : noId fv = true) (ha : noIdL args = true) (hv : noId v = true) (h : PF F X0 X q fv args [] (fun v' L' => v' = v ∧ L' = [])) : PP F X0 X fv args v := by
  intro q' L
  refine (PF.frame0 hf ha h q' L).mono ?_
  rintro v' L' ⟨v0, L0, ⟨rfl, rfl⟩, rfl, rfl⟩
  exact ⟨ren_noId _ _ hv, by simp⟩
theorem T.get_single0 {p : PV} : ((T.leaf : PEnv).set 0 p).get 0 = some p := by simp
/-- a function on values, by its code -/
theorem PP_code {f : FuncId} {fn : IFunc} {a c args : List PV} {v : PV} (hE : X0 f = none) (hX : X f = none) (hF : F f = some fn) (hf : noId (.fn f a c) = true) (ha : noIdL args = true) (hv : noId v = true)
    (h : PC F X0 X 0 fn.body (fun x E' L' => (x = .norm ∨ x = .ret) ∧ ∃ ps, press E' L' fn.results = some ps ∧ Vw [] L' (pone1 ps) v) (penv (funcArgs a args c)) []) : PP F X0 X (.fn f a c) args v := by
  refine PP.of hf ha hv (PF_code hE hX hF (PC.mono h ?_))
  rintro x E' L' ⟨hx, ps, hps, hw⟩
  refine ⟨hx, ps, hps, (T.leaf : PEnv).set 0 v, [], v, ?_, by simp, rfl, rfl⟩
  refine Abs.view [] List.nodup_nil (fun i h => by simp at h) (fun i h => by simp at h) rfl (Nat.le_refl _) (fun j i o h => by simp at h) (fun t p' hp => ?_)
  rw [T.get_set] at hp
  split at hp
  · rename_i ht; cases hp; subst ht
    exact ⟨pone1 ps, by rw [T.get_set, if_pos rfl], hw⟩
  · simp [T.get] at hp
end Go.Den
/- Pen, part J: running code on trees by simp. -/
namespace Go.Den
variable {F : FuncId → Option IFunc} {X0 X : Ext} {E E' : PEnv} {L L' : List LObj} {n0 : Nat} {Q : Ex → PEnv → List LObj → Prop}
theorem nrfl {α : Type} {a b : α} (h : a = b) : a = b := h
theorem PC_opsk {l : List Ins} (h : ∀ K : PEnv → List LObj → Prop, (∀ E' L', Q .norm E' L' → K E' L') → PO F X0 X l K E L) : PC F X0 X n0 (.ops l) Q E L := PC_ops (h _ fun _ _ h => h)
theorem PC_drawk {l l' : List Ins} (h : ∀ K : PEnv → List LObj → Prop, (∀ E' L', Q .norm E' L' → K E' L') → PQ F X0 X l (PO F X0 X l' K) E L) : PC F X0 X n0 (.draw l l') Q E L := PC_draw (h _ fun _ _ h => h)
theorem PC_if {c : Arg} {a b : ICode} {p : Prop} [Decidable p] (hc : pei E c = some (.bool (decide p))) (h1 : p → PC F X0 X n0 a Q E L) (h2 : ¬ p → PC F X0 X n0 b Q E L) : PC F X0 X n0 (.cond c a b) Q E L := by
  refine PC_cond hc ?_
  by_cases h : p
  · rw [if_pos (by simp [h])]; exact h1 h
  · rw [if_neg (by simp [h])]; exact h2 h
theorem T.get_leaf {α : Type} (k : Nat) : (T.leaf : T α).get k = none := rfl
/-- an environment of a list -/
def envOf (l : List (Nat × PV)) : PEnv := l.foldr (fun x E => E.set x.1 x.2) .leaf
theorem envOf_mem : ∀ {l : List (Nat × PV)} {t : Nat} {p : PV}, (envOf l).get t = some p → (t, p) ∈ l := by
  intro l
  induction l with
  | nil => intro t p h; simp [envOf, T.get] at h
  | cons a l ih =>
    intro t p h
    simp only [envOf, List.foldr_cons] at h
    rw [T.get_set] at h
    split at h
    · rename_i ht; cases h; subst ht; simp
    · exact List.mem_cons_of_mem _ (ih h)
theorem Abs.env (l : List (Nat × PV)) (h : ∀ x ∈ l, E.get x.1 = some x.2) : Abs n0 E L (envOf l) L := by
  intro fx ρ ζ e H hs
  exact ⟨ρ, ζ, hs.rh, fun t p hp => hs.env t p (h _ (envOf_mem hp)), hs.only, hs.base, hs.dom, hs.len, hs.zet⟩
theorem Abs.viewE (τ : List Nat) (l : List (Nat × PV)) (hnd : τ.Nodup) (hlt : ∀ i ∈ τ, i < L.length) (hpin : ∀ i, i < n0 → τ[i]? = some i) (hlen : L'.length = τ.length) (hn0 : n0 ≤ τ.length)
    (hL : ∀ (j i : Nat) (o' : LObj), τ[j]? = some i → L'[j]? = some o' → ∃ o, L[i]? = some o ∧ VwO τ L o o') (hE : ∀ x ∈ l, ∃ p, E.get x.1 = some p ∧ Vw τ L p x.2) : Abs n0 E L (envOf l) L' :=
  Abs.view τ hnd hlt hpin hlen hn0 hL (fun _ _ hp => hE _ (envOf_mem hp))

abbrev pin (n : Int) : PV := .v (.int .i64 n)
abbrev pbool (b : Bool) : PV := .v (.bool b)
theorem cut1 {α : Type} {l : List α} {f : α → PV} {i : Nat} (h : i < l.length) : cut (l.map f) i 1 = [f l[i]] := by
  unfold cut
  rw [← List.map_drop, ← List.map_take, List.drop_eq_getElem_cons h]
  rfl
theorem cut_take {α : Type} {l : List α} {f : α → PV} {n : Nat} : cut (l.map f) 0 n = (l.take n).map f := by simp [cut, List.map_take]
theorem cut_drop {α : Type} {l : List α} {f : α → PV} {o n : Nat} (h : o + n = l.length) : cut (l.map f) o n = (l.drop o).map f := by
  unfold cut
  rw [← List.map_drop, List.take_of_length_le (by simp; omega)]
theorem cutk {α : Type} {l : List α} {enc : α → List PV} {k i : Nat} (hk : ∀ x, (enc x).length = k) (h : i < l.length) : cut (l.flatMap enc) (i * k) k = enc l[i] := by
  induction l generalizing i with
  | nil => simp at h
  | cons a l ih =>
    cases i with
    | zero => simp [cut, ← hk a]
    | succ i =>
      have := ih (i := i) (by simpa using h)
      simp only [cut] at this ⊢
      rw [List.flatMap_cons, Nat.add_mul, Nat.one_mul, Nat.add_comm (i * k) k, ← List.drop_drop]
      rw [show List.drop k (enc a ++ List.flatMap enc l) = List.flatMap enc l by rw [← hk a]; simp]
      simpa using this
theorem flatMap_len {α : Type} {l : List α} {enc : α → List PV} {k : Nat} (hk : ∀ x, (enc x).length = k) : (l.flatMap enc).length = l.length * k := by
  induction l with
  | nil => simp
  | cons a l ih => simp [ih, hk, Nat.add_mul, Nat.add_comm]
theorem noIdL_append {a b : List PV} : noIdL (a ++ b) = true ↔ noIdL a = true ∧ noIdL b = true := by
  simp only [noIdL_iff, List.mem_append]
  exact ⟨fun h => ⟨fun p hp => h p (.inl hp), fun p hp => h p (.inr hp)⟩, fun h p hp => hp.elim (h.1 p) (h.2 p)⟩
theorem noIdL_mapI {α : Type} {l : List α} {f : α → PV} : noIdL (l.map f) = true ↔ ∀ x ∈ l, noId (f x) = true := by
  simp [noIdL_iff]
theorem noIdL_flatMapI {α : Type} {l : List α} {f : α → List PV} : noIdL (l.flatMap f) = true ↔ ∀ x ∈ l, noIdL (f x) = true := by
  simp only [noIdL_iff, List.mem_flatMap]
  exact ⟨fun h x hx p hp => h p ⟨x, hx, hp⟩, fun h p ⟨x, hx, hp⟩ => h x hx p hp⟩
theorem noIdL_take {l : List PV} {i : Nat} (h : noIdL l = true) : noIdL (l.take i) = true := noIdL_iff.2 fun p hp => noIdL_iff.1 h p (List.mem_of_mem_take hp)
theorem noIdL_drop {l : List PV} {i : Nat} (h : noIdL l = true) : noIdL (l.drop i) = true := noIdL_iff.2 fun p hp => noIdL_iff.1 h p (List.mem_of_mem_drop hp)
theorem noIdL_set {l : List PV} {i : Nat} {p : PV} (h : noIdL l = true) (hp : noId p = true) : noIdL (l.set i p) = true := noIdL_iff.2 fun q hq => (List.mem_or_eq_of_mem_set hq).elim (noIdL_iff.1 h q) (fun e => e ▸ hp)
attribute [simp] noIdL_append noIdL_mapI noIdL_flatMapI noIdL_take noIdL_drop noIdL_set
theorem noIdL_flatMap {α : Type} {l : List α} {enc : α → List PV} (h : ∀ x ∈ l, noIdL (enc x) = true) : noIdL (l.flatMap enc) = true := noIdL_iff.2 fun p hp => by
  obtain ⟨x, hx, hp⟩ := List.mem_flatMap.1 hp; exact noIdL_iff.1 (h x hx) p hp
/-- a list of records -/
def recs {α : Type} (t : TypeId) (enc : α → List PV) (l : List α) : PV := .fz t l.length (l.flatMap enc)
theorem noIdL_map {α : Type} {l : List α} {f : α → PV} (h : ∀ x ∈ l, noId (f x) = true) : noIdL (l.map f) = true := noIdL_iff.2 fun p hp => by
  obtain ⟨x, hx, rfl⟩ := List.mem_map.1 hp; exact h x hx
/-- numbers -/
def ints (t : TypeId) (l : List Int) : PV := .fz t l.length (l.map pin)
@[simp] theorem ints_noId {t : TypeId} {l : List Int} : noId (ints t l) = true := by simp only [ints, noId]; exact noIdL_map fun _ _ => rfl

/-! ### code, for simp: up to the loops -/
section
variable (F X0 X)
def PW (n0 : Nat) : ICode → (Ex → PEnv → List LObj → Prop) → PEnv → List LObj → Prop
  | .skip, Q, E, L => Q .norm E L
  | .ops l, Q, E, L => PO F X0 X l (Q .norm) E L
  | .draw l l', Q, E, L => PQ F X0 X l (PO F X0 X l' (Q .norm)) E L
  | .seq a b, Q, E, L => PW n0 a (pnext (PW n0 b Q) Q) E L
  | .cond c a b, Q, E, L => match pei E c with
    | some (.bool t) => (t = true → PW n0 a Q E L) ∧ (t = false → PW n0 b Q E L)
    | _ => False
  | .block id c, Q, E, L => PW n0 c (pout id Q) E L
  | .exit id, Q, E, L => Q (.exit id) E L
  | .ret, Q, E, L => Q .ret E L
  | c, Q, E, L => PC F X0 X n0 c Q E L
end
theorem PW_ok : ∀ (c : ICode) {Q : Ex → PEnv → List LObj → Prop} {E : PEnv} {L : List LObj}, PW F X0 X n0 c Q E L → PC F X0 X n0 c Q E L := by
  intro c
  induction c with
  | skip => intro Q E L h; exact PC_skip h
  | ops l => intro Q E L h; exact PC_ops h
  | draw l l' => intro Q E L h; exact PC_draw h
  | seq a b iha ihb =>
    intro Q E L h
    refine PC_seq ((iha h).mono fun x E L h => ?_)
    cases x <;> first | exact ihb h | exact h
  | cond c a b iha ihb =>
    intro Q E L h
    simp only [PW] at h
    split at h
    · rename_i t hc
      refine PC_cond hc ?_
      cases t
      · rw [if_neg (by simp)]; exact ihb (h.2 rfl)
      · rw [if_pos rfl]; exact iha (h.1 rfl)
    · exact h.elim
  | block id c ih => intro Q E L h; exact PC_block (ih h)
  | exit id => intro Q E L h; exact PC_exit h
  | ret => intro Q E L h; exact PC_ret h
  | loop c _ => intro Q E L h; exact h
  | rangeFunc f ps a b _ _ => intro Q E L h; exact h
  | bad w => intro Q E L h; exact h
@[congr] theorem PW_congr {c : ICode} {Q : Ex → PEnv → List LObj → Prop} {E E' : PEnv} {L L' : List LObj} (h : E = E') (h' : L = L') : PW F X0 X n0 c Q E L = PW F X0 X n0 c Q E' L' := by rw [h, h']
@[congr] theorem PC_congr {c : ICode} {Q : Ex → PEnv → List LObj → Prop} {E E' : PEnv} {L L' : List LObj} (h : E = E') (h' : L = L') : PC F X0 X n0 c Q E L = PC F X0 X n0 c Q E' L' := by rw [h, h']
@[congr] theorem PO_congr {l : List Ins} {Q : PEnv → List LObj → Prop} {E E' : PEnv} {L L' : List LObj} (h : E = E') (h' : L = L') : PO F X0 X l Q E L = PO F X0 X l Q E' L' := by rw [h, h']
@[congr] theorem PQ_congr {l : List Ins} {Q : PEnv → List LObj → Prop} {E E' : PEnv} {L L' : List LObj} (h : E = E') (h' : L = L') : PQ F X0 X l Q E L = PQ F X0 X l Q E' L' := by rw [h, h']
@[congr] theorem PF_congr {q : Bool} {fv fv' : PV} {as as' : List PV} {K : PV → List LObj → Prop} {L L' : List LObj} (h0 : fv = fv') (h : as = as') (h' : L = L') : PF F X0 X q fv as L K = PF F X0 X q fv' as' L' K := by rw [h0, h, h']
@[congr] theorem PI_congr {op : IOp} {K : PV → List LObj → Prop} {E E' : PEnv} {L L' : List LObj} (h : E = E') (h' : L = L') : PI F X0 X op K E L = PI F X0 X op K E' L' := by rw [h, h']
@[congr] theorem PJ_congr {op : IOp} {K : PV → List LObj → Prop} {E E' : PEnv} {L L' : List LObj} (h : E = E') (h' : L = L') : PJ F X0 X op K E L = PJ F X0 X op K E' L' := by rw [h, h']
@[congr] theorem pnext_congr {k : PEnv → List LObj → Prop} {Q : Ex → PEnv → List LObj → Prop} {x x' : Ex} {E E' : PEnv} {L L' : List LObj} (hx : x = x') (h : E = E') (h' : L = L') : pnext k Q x E L = pnext k Q x' E' L' := by rw [hx, h, h']
@[congr] theorem pout_congr {id : Nat} {Q : Ex → PEnv → List LObj → Prop} {x x' : Ex} {E E' : PEnv} {L L' : List LObj} (hx : x = x') (h : E = E') (h' : L = L') : pout id Q x E L = pout id Q x' E' L' := by rw [hx, h, h']
/-- a loop whose rounds need no other look at the objects -/
theorem PC_loop0 {c : ICode} (J : Nat → PEnv → List LObj → Prop) (round : ∀ k E L, J k E L → PW F X0 X n0 c (pnext (fun E' L' => ∃ k', k' < k ∧ J k' E' L') Q) E L) {k : Nat} (h : J k E L) : PC F X0 X n0 (.loop c) Q E L :=
  PC_loop J (fun k E L hj => (PW_ok _ (round k E L hj)).mono fun x E' L' h => by
    cases x <;> first | exact h | (obtain ⟨k', a, b⟩ := h; exact ⟨k', E', L', a, Abs.refl _ _ _, b⟩)) h
theorem PP.run {fv : PV} {args : List PV} {v : PV} (h : PP F X0 X fv args v) {q : Bool} {L : List LObj} {K : PV → List LObj → Prop} (hk : K v L) : PF F X0 X q fv args L K := (h q L).mono fun _ _ h => by rw [h.1, h.2]; exact hk
theorem Vw.decT {τ : List Nat} {p : Prop} [Decidable p] (h : p) : Vw τ L (.v (.bool true)) (.v (.bool (decide p))) := by rw [decide_eq_true h]; exact .same rfl
theorem Vw.decF {τ : List Nat} {p : Prop} [Decidable p] (h : ¬ p) : Vw τ L (.v (.bool false)) (.v (.bool (decide p))) := by rw [decide_eq_false h]; exact .same rfl
/-- a list that is handed back -/
theorem Vw.frz {i n c : Nat} {t : TypeId} {cs : List PV} {p' : PV} (h : prow L i = some (t, cs)) (hn : allNl cs) (hid : noIdL cs = true) (e : p' = .fz t n cs) : Vw [] L (.slc i 0 n c) p' := by
  subst e
  exact .fzs (cs'' := cs) (by simp) h hn (Nat.zero_le _) (by simp) rfl (fun i a b => .same (noIdL_get hid i a))
theorem Vw.eq {τ : List Nat} {p p' : PV} (h : p = p') (hn : noId p = true) : Vw τ L p p' := h ▸ .same hn
/-! ### conditions of operations -/
theorem nl_v {x : Value} : nl (.v x) = true := rfl
theorem allNl_nil : allNl [] := rfl
theorem allNl_cons {a : PV} {l : List PV} : allNl (a :: l) ↔ nl a = true ∧ allNl l := by simp [allNl]
theorem allNl_append {a b : List PV} : allNl (a ++ b) ↔ allNl a ∧ allNl b := by simp [allNl]
theorem allNl_map {α : Type} {l : List α} {f : α → PV} : allNl (l.map f) ↔ ∀ x ∈ l, nl (f x) = true := by simp [allNl]
theorem allNl_flatMap {α : Type} {l : List α} {f : α → List PV} : allNl (l.flatMap f) ↔ ∀ x ∈ l, allNl (f x) := by
  simp only [allNl, List.all_eq_true, List.mem_flatMap]
  exact ⟨fun h x hx p hp => h p ⟨x, hx, hp⟩, fun h p ⟨x, hx, hp⟩ => h x hx p hp⟩
theorem allNl_take {l : List PV} {i : Nat} (h : allNl l) : allNl (l.take i) := by
  simp only [allNl, List.all_eq_true] at h ⊢; exact fun p hp => h p (List.mem_of_mem_take hp)
theorem allNl_drop {l : List PV} {i : Nat} (h : allNl l) : allNl (l.drop i) := by
  simp only [allNl, List.all_eq_true] at h ⊢; exact fun p hp => h p (List.mem_of_mem_drop hp)
theorem allNl_cut {l : List PV} {i n : Nat} (h : allNl l) : allNl (cut l i n) := allNl_take (allNl_drop h)
theorem allNl_set {l : List PV} {i : Nat} {p : PV} (h : allNl l) (hp : nl p = true) : allNl (l.set i p) := by
  simp only [allNl, List.all_eq_true] at h ⊢
  intro q hq
  rcases List.mem_or_eq_of_mem_set hq with h1 | h1
  · exact h q h1
  · rw [h1]; exact hp
theorem allOne_nil : allOne [] := rfl
theorem allOne_cons {a : PV} {l : List PV} : allOne (a :: l) ↔ pone a = true ∧ allOne l := by simp [allOne]
theorem allOne_append {a b : List PV} : allOne (a ++ b) ↔ allOne a ∧ allOne b := by simp [allOne]
theorem allOne_map {α : Type} {l : List α} {f : α → PV} : allOne (l.map f) ↔ ∀ x ∈ l, pone (f x) = true := by simp [allOne]
theorem allOne_flatMap {α : Type} {l : List α} {f : α → List PV} : allOne (l.flatMap f) ↔ ∀ x ∈ l, allOne (f x) := by
  simp only [allOne, List.all_eq_true, List.mem_flatMap]
  exact ⟨fun h x hx p hp => h p ⟨x, hx, hp⟩, fun h p ⟨x, hx, hp⟩ => h x hx p hp⟩
theorem allOne_take {l : List PV} {i : Nat} (h : allOne l) : allOne (l.take i) := by
  simp only [allOne, List.all_eq_true] at h ⊢; exact fun p hp => h p (List.mem_of_mem_take hp)
theorem allOne_drop {l : List PV} {i : Nat} (h : allOne l) : allOne (l.drop i) := by
  simp only [allOne, List.all_eq_true] at h ⊢; exact fun p hp => h p (List.mem_of_mem_drop hp)
theorem allOne_cut {l : List PV} {i n : Nat} (h : allOne l) : allOne (cut l i n) := allOne_take (allOne_drop h)
theorem allOne_set {l : List PV} {i : Nat} {p : PV} (h : allOne l) (hp : pone p = true) : allOne (l.set i p) := by
  simp only [allOne, List.all_eq_true] at h ⊢
  intro q hq
  rcases List.mem_or_eq_of_mem_set hq with h1 | h1
  · exact h q h1
  · rw [h1]; exact hp
theorem psplice_one {l : List PV} {i : Nat} {p : PV} (h : i < l.length) : psplice l i [p] = l.set i p := by
  unfold psplice
  rw [List.set_eq_take_append_cons_drop, if_pos h]
  simp
theorem psplice_full {l vs : List PV} (h : vs.length = l.length) : psplice l 0 vs = vs := by simp [psplice, h]
theorem cut_zero {l : List PV} {o : Nat} : cut l o 0 = [] := by simp [cut]
theorem cut_cons0 {l : List PV} {a : PV} {n : Nat} : cut (a :: l) 0 (n + 1) = a :: cut l 0 n := by simp [cut]
theorem cut_consS {l : List PV} {a : PV} {o n : Nat} : cut (a :: l) (o + 1) n = cut l o n := by simp [cut]
theorem cut_all {l : List PV} {n : Nat} (h : n = l.length) : cut l 0 n = l := by subst h; simp [cut]
theorem cut_len {l : List PV} {o n : Nat} (h : o + n ≤ l.length) : (cut l o n).length = n := by simp [cut]; omega
attribute [simp] nl_v allNl_nil allNl_cons allNl_append allNl_map allNl_flatMap allNl_take allNl_drop allNl_cut allNl_set allOne_nil allOne_cons allOne_append allOne_map allOne_flatMap allOne_take allOne_drop allOne_cut allOne_set psplice_one psplice_full cut_zero cut_cons0 cut_consS cut_all cut_len
section
variable {x : Value} {i o n c k : Nat} {a b : List PV} {t : TypeId} {p : PV}
theorem pone_v : pone (.v x) = true := rfl
theorem pone_ptr : pone (.ptr i o) = true := rfl
theorem pone_slc : pone (.slc i o n c) = true := rfl
theorem pone_mapr : pone (.mapr i) = true := rfl
theorem pone_fn : pone (.fn i a b) = true := rfl
theorem pone_ifc : pone (.ifc t p) = true := rfl
theorem pone_fz : pone (.fz t n a) = true := rfl
theorem pone_fp : pone (.fp a) = true := rfl
theorem nl_ptr : nl (.ptr i o) = true := rfl
theorem nl_slc : nl (.slc i o n c) = true := rfl
theorem nl_mapr : nl (.mapr i) = true := rfl
theorem nl_fn : nl (.fn i a b) = true := rfl
theorem nl_ifc : nl (.ifc t p) = nl p := rfl
theorem nl_fz : nl (.fz t n a) = true := rfl
theorem nl_fp : nl (.fp a) = true := rfl
theorem nl_agg : nl (.agg a) = true := rfl
theorem nl_ow : nl (.ow t n c a) = false := rfl
theorem nl_bx : nl (.bx t a) = false := rfl
end
attribute [simp] pone_v pone_ptr pone_slc pone_mapr pone_fn pone_ifc pone_fz pone_fp nl_ptr nl_slc nl_mapr nl_fn nl_ifc nl_fz nl_fp nl_agg nl_ow nl_bx
section
variable {E : PEnv} {L : List LObj}
theorem pev_mov {x : Arg} : pev E L (.mov x) = (match pea E x with | some p => some (p, L, true) | none => none) := nrfl rfl
theorem pev_pick {c : Arg} {a : Arg} {b : Arg} : pev E L (.pick c a b) = (match pei E c with
    | some (.bool t) => match (bif t then pea E a else pea E b) with | some p => some (p, L, true) | none => none
    | _ => none) := nrfl rfl
theorem pev_box {t : TypeId} {x : Arg} : pev E L (.box t x) = (match pea E x with | some p => some (.ptr L.length 0, L ++ [.row t (pcells p)], true) | none => none) := nrfl rfl
theorem pev_build {zero : List Value} {ps : List (Nat × Nat × Arg)} : pev E L (.build zero ps) = (match peap E ps with
    | some ps => if zero.all one = true then match pfill (zero.map .v) ps with | some cs => some (.agg cs, L, true) | none => none else none
    | none => none) := nrfl rfl
theorem pev_buildSlice {t : TypeId} {len : Nat} {zero : List Value} {ps : List (Nat × Nat × Arg)} : pev E L (.buildSlice t len zero ps) = (match peap E ps with
    | some ps => if zero.all one = true then match pfill (zero.map .v) ps with | some cs => some (.slc L.length 0 len len, L ++ [.row t cs], true) | none => none else none
    | none => none) := nrfl rfl
theorem pev_load {agg : Option Nat} {a : Arg} : pev E L (.load agg a) = (match pea E a with | some p => pload L agg p | none => none) := nrfl rfl
theorem pev_store {n : Nat} {a : Arg} {v : Arg} : pev E L (.store n a v) = (match pea E a, pea E v with
    | some (.ptr i o), some p => match prow L i with
      | some (t, cs) => if (pcells p).length = n ∧ o + n ≤ cs.length ∧ allOne (pcells p) then some (.tup [], L.set i (.row t (psplice cs o (pcells p))), false) else none
      | none => none
    | _, _ => none) := nrfl rfl
theorem pev_nilCheck {x : Arg} : pev E L (.nilCheck x) = (match pea E x with
    | some (.ptr i o) => some (.ptr i o, L, true)
    | some (.fp cs) => some (.fp cs, L, true)
    | some (.fn f a c) => some (.fn f a c, L, true)
    | _ => none) := nrfl rfl
theorem pev_arith {op : BinOp} {x : Arg} {y : Arg} : pev E L (.arith op x y) = (match pei E x, pei E y with
    | some a, some b => match arithV op a b with | some r => if one r = true then some (.v r, L, true) else none | none => none
    | _, _ => none) := nrfl rfl
theorem pev_eqBool {neg : Bool} {x : Arg} {y : Arg} : pev E L (.eqBool neg x y) = (match pei E x, pei E y with
    | some (.bool a), some (.bool b) => some (.v (.bool ((a == b) != neg)), L, true)
    | _, _ => none) := nrfl rfl
theorem pev_eqNil {k : NilK} {neg : Bool} {x : Arg} {y : Arg} : pev E L (.eqNil k neg x y) = (match pea E x, pea E y with
    | some a, some b => match peqNil k a b with
      | some r => some (.v (.bool (r != neg)), L, true)
      | none => none
    | _, _ => none) := nrfl rfl
theorem pev_eqPtr {neg : Bool} {x : Arg} {y : Arg} : pev E L (.eqPtr neg x y) = (match pea E x, pea E y with
    | some (.ptr i o), some (.ptr j o') => if i = j then some (.v (.bool ((o == o') != neg)), L, true) else none
    | some a, some b => match peqNil .ptr a b with
      | some r => some (.v (.bool (r != neg)), L, true)
      | none => none
    | _, _ => none) := nrfl rfl
theorem pev_un {op : UnOp} {x : Arg} : pev E L (.un op x) = (match pei E x with
    | some a => match unV op a with | some r => if one r = true then some (.v r, L, true) else none | none => none
    | none => none) := nrfl rfl
theorem pev_toInt {k : IntKind} {x : Arg} : pev E L (.toInt k x) = (match pei E x with
    | some (.int _ n) => some (.v (.int k (k.wrap n)), L, true)
    | _ => none) := nrfl rfl
theorem pev_iface {t : TypeId} {x : Arg} : pev E L (.iface t x) = (match pea E x with
    | some p => some (.ifc t p, L, true)
    | none => none) := nrfl rfl
theorem pev_func {f : FuncId} {first : List Arg} {captured : List Arg} : pev E L (.func f first captured) = (match peas E first, peas E captured with
    | some a, some b => some (.fn f a b, L, true)
    | _, _ => none) := nrfl rfl
theorem pev_makeSlice {t : TypeId} {bytes : Nat} {zero : List Value} {l : Arg} {c : Arg} : pev E L (.makeSlice t bytes zero l c) = (match pei E l, pei E c with
    | some (.int _ l), some (.int _ c) => if (0 ≤ l ∧ l ≤ c ∧ c ≤ 9223372036854775807 ∧ (bytes : Int) * c ≤ 281474976710656) ∧ zero.all one = true then
        some (.slc L.length 0 l.toNat c.toNat, L ++ [.row t ((repl zero c.toNat).map .v)], true) else none
    | _, _ => none) := nrfl rfl
theorem pev_makeMap  : pev E L (.makeMap) = (some (.mapr L.length, L ++ [.map [] 0], true)) := nrfl rfl
theorem pev_slice {t : TypeId} {size : Nat} {x : Arg} {lo : Option Arg} {hi : Option Arg} {mx : Option Arg} : pev E L (.slice t size x lo hi mx) = (match peo E lo, peo E hi, peo E mx with
    | some lo, some hi, some mx => match pea E x with
      | some (.slc i o len cap) => match boundsV len cap lo hi mx with
        | some (l, h, m) => if l = 0 ∨ (prow L i).map (·.1) = some t then some (.slc i (o + l * size) (h - l) (m - l), L, true) else none
        | none => none
      | some (.fz t' n cs) => match mx with
        | none => match boundsV n n lo hi none with
          | some (l, h, _) => if t' = t ∧ h * size ≤ cs.length then some (.fz t' (h - l) (cut cs (l * size) ((h - l) * size)), L, true) else none
          | none => none
        | some _ => none
      | some (.v (.slice none len cap)) => match boundsV len cap lo hi mx with
        | some (l, h, m) => some (.v (.slice none (h - l) (m - l)), L, true)
        | none => none
      | _ => none
    | _, _, _ => none) := nrfl rfl
theorem pev_sliceStr {x : Arg} {lo : Option Arg} {hi : Option Arg} : pev E L (.sliceStr x lo hi) = (match pei E x, peo E lo, peo E hi with
    | some (.string s), some lo, some hi => match boundsV s.size s.size lo hi none with
      | some (l, h, _) => some (.v (.string (s.extract l h)), L, true)
      | none => none
    | _, _, _ => none) := nrfl rfl
theorem pev_sliceArr {n : Nat} {size : Nat} {x : Arg} {lo : Option Arg} {hi : Option Arg} {mx : Option Arg} : pev E L (.sliceArr n size x lo hi mx) = (match peo E lo, peo E hi, peo E mx with
    | some lo, some hi, some mx => match pea E x with
      | some (.ptr i o) => match boundsV n n lo hi mx with
        | some (l, h, m) => some (.slc i (o + l * size) (h - l) (m - l), L, true)
        | none => none
      | _ => none
    | _, _, _ => none) := nrfl rfl
theorem pev_fieldAddr {off : Nat} {x : Arg} : pev E L (.fieldAddr off x) = (match pea E x with
    | some (.ptr i o) => some (.ptr i (o + off), L, true)
    | some (.fp cs) => if off ≤ cs.length then some (.fp (cs.drop off), L, true) else none
    | _ => none) := nrfl rfl
theorem pev_field {off : Nat} {agg : Option Nat} {x : Arg} : pev E L (.field off agg x) = (match pea E x with
    | some (.agg cs) => aggOf' cs off agg L
    | _ => none) := nrfl rfl
theorem pev_indexAddr {size : Nat} {x : Arg} {i : Arg} : pev E L (.indexAddr size x i) = (match pea E x, pei E i with
    | some (.slc j o len _), some (.int _ n) => if 0 ≤ n ∧ n < (len : Int) then some (.ptr j (o + n.toNat * size), L, true) else none
    | some (.fz _ len cs), some (.int _ n) => if 0 ≤ n ∧ n < (len : Int) ∧ (cut cs (n.toNat * size) size).length = size then some (.fp (cut cs (n.toNat * size) size), L, true) else none
    | _, _ => none) := nrfl rfl
theorem pev_indexAddrArr {len : Nat} {size : Nat} {x : Arg} {i : Arg} : pev E L (.indexAddrArr len size x i) = (match pea E x, pei E i with
    | some (.ptr j o), some (.int _ n) => if 0 ≤ n ∧ n < (len : Int) then some (.ptr j (o + n.toNat * size), L, true) else none
    | some (.fp cs), some (.int _ n) => if 0 ≤ n ∧ n < (len : Int) ∧ n.toNat * size ≤ cs.length then some (.fp (cs.drop (n.toNat * size)), L, true) else none
    | _, _ => none) := nrfl rfl
theorem pev_indexStr {x : Arg} {i : Arg} : pev E L (.indexStr x i) = (match pei E x, pei E i with
    | some (.string s), some (.int _ n) => if 0 ≤ n then (match s[n.toNat]? with | some b => some (.v (.int .u8 b.toNat), L, true) | none => none) else none
    | _, _ => none) := nrfl rfl
theorem pev_indexArr {len : Nat} {size : Nat} {agg : Option Nat} {x : Arg} {i : Arg} : pev E L (.indexArr len size agg x i) = (match pea E x, pei E i with
    | some (.agg cs), some (.int _ n) => if 0 ≤ n ∧ n < (len : Int) then aggOf' cs (n.toNat * size) agg L else none
    | _, _ => none) := nrfl rfl
theorem pev_extract {x : Arg} {i : Nat} : pev E L (.extract x i) = (match pea E x with
    | some (.tup cs) => match cs[i]? with | some q => some (q, L, true) | none => none
    | _ => none) := nrfl rfl
theorem pev_lookup {kk : KeyK} {zero : Value} {ok : Bool} {m : Arg} {k : Arg} : pev E L (.lookup kk zero ok m k) = (match pea E m, pei E k, ofV zero with
    | some m, some k, some z => match pmap L m with
      | some (es, _) => if keyOk kk k = true then
          match pfind kk k es 0 with
          | some (some (_, q)) => if nl q = true then some (bif ok then .tup [q, .v (.bool true)] else q, L, true) else none
          | some none => some (bif ok then .tup [z, .v (.bool false)] else z, L, true)
          | none => none
        else none
      | none => none
    | _, _, _ => none) := nrfl rfl
theorem pev_mapUpdate {kk : KeyK} {m : Arg} {k : Arg} {v : Arg} : pev E L (.mapUpdate kk m k v) = (match pea E m, pei E k, pea E v with
    | some (.mapr i), some k, some p => match L[i]? with
      | some (.map es c) => if keyOk kk k = true then
          match pfind kk k es 0 with
          | some (some (j, _)) => some (.tup [], L.set i (.map (es.modify j fun e => (k, p, e.2.2)) c), false)
          | some none => some (.tup [], L.set i (.map (es ++ [(k, p, c)]) (c + 1)), false)
          | none => none
        else none
      | _ => none
    | _, _, _ => none) := nrfl rfl
theorem pev_assertTo {t : TypeId} {zero : Value} {ok : Bool} {x : Arg} : pev E L (.assertTo t zero ok x) = (match pea E x, ofV zero with
    | some (.ifc t' p), some z => if t = t' then some (bif ok then .tup [p, .v (.bool true)] else p, L, true) else bif ok then some (.tup [z, .v (.bool false)], L, true) else none
    | some (.v .nilIface), some z => bif ok then some (.tup [z, .v (.bool false)], L, true) else none
    | _, _ => none) := nrfl rfl
theorem pev_lenStr {x : Arg} : pev E L (.lenStr x) = (match pei E x with
    | some (.string s) => some (.v (mkInt s.size), L, true)
    | _ => none) := nrfl rfl
theorem pev_lenSl {x : Arg} : pev E L (.lenSl x) = (match pea E x with
    | some (.slc _ _ n _) => some (.v (mkInt n), L, true)
    | some (.fz _ n _) => some (.v (mkInt n), L, true)
    | some (.v (.slice none n _)) => some (.v (mkInt n), L, true)
    | _ => none) := nrfl rfl
theorem pev_lenMap {x : Arg} : pev E L (.lenMap x) = (match pea E x with
    | some m => match pmap L m with
      | some (es, _) => some (.v (mkInt es.length), L, true)
      | none => none
    | none => none) := nrfl rfl
theorem pev_lenArr {n : Nat} : pev E L (.lenArr n) = (some (.v (mkInt n), L, true)) := nrfl rfl
theorem pev_append {t : TypeId} {size : Nat} {bytes : Nat} {s : Arg} {x : Arg} : pev E L (.append t size bytes s x) = (match pea E s, pea E x with
    | some s, some x => pappend L t size bytes s x
    | _, _ => none) := nrfl rfl
theorem pev_minMax {mx : Bool} {x : Arg} {y : Arg} : pev E L (.minMax mx x y) = (match pei E x, pei E y with
    | some (.int k a), some (.int k' b) => if k = k' then some (.v (.int k (bif mx then (if b > a then b else a) else (if b < a then b else a))), L, true) else none
    | _, _ => none) := nrfl rfl
theorem pea_tmp {n : Nat} : pea E (.tmp n) = (E.get n) := nrfl rfl
theorem pea_val {x : Value} : pea E (.val x) = (ofV x) := nrfl rfl
theorem pei_def {a : Arg} : pei E a = (match pea E a with | some (.v x) => some x | _ => none) := nrfl rfl
theorem peas_nil  : peas E [] = (some []) := nrfl rfl
theorem peas_cons {a : Arg} {as : List Arg} : peas E (a :: as) = (match pea E a, peas E as with | some p, some ps => some (p :: ps) | _, _ => none) := nrfl rfl
theorem peap_nil  : peap E [] = (some []) := nrfl rfl
theorem peap_cons {o n : Nat} {a : Arg} {as : List (Nat × Nat × Arg)} : peap E ((o, n, a) :: as) = (match pea E a, peap E as with | some p, some ps => some ((o, n, p) :: ps) | _, _ => none) := nrfl rfl
theorem peo_none  : peo E none = (some none) := nrfl rfl
theorem peo_some {a : Arg} : peo E (some a) = (match pei E a with | some x => some (some x) | none => none) := nrfl rfl
theorem pfill_nil {cs : List PV} : pfill cs [] = (some cs) := nrfl rfl
theorem pfill_cons {cs : List PV} {o n : Nat} {p : PV} {rest : List (Nat × Nat × PV)} : pfill cs ((o, n, p) :: rest) = (if (pcells p).length = n ∧ o + n ≤ cs.length then pfill (psplice cs o (pcells p)) rest else none) := nrfl rfl
theorem psetD_some {n : Nat} {p : PV} : psetD E (some n) p = (E.set n p) := nrfl rfl
theorem psetD_none {p : PV} : psetD E none p = (E) := nrfl rfl
theorem pcells_v {x : Value} : pcells (.v x) = ([.v x]) := nrfl rfl
theorem pcells_ptr {i o : Nat} : pcells (.ptr i o) = ([.ptr i o]) := nrfl rfl
theorem pcells_slc {i o n c : Nat} : pcells (.slc i o n c) = ([.slc i o n c]) := nrfl rfl
theorem pcells_mapr {i : Nat} : pcells (.mapr i) = ([.mapr i]) := nrfl rfl
theorem pcells_fn {f : FuncId} {a c : List PV} : pcells (.fn f a c) = ([.fn f a c]) := nrfl rfl
theorem pcells_ifc {t : TypeId} {p : PV} : pcells (.ifc t p) = ([.ifc t p]) := nrfl rfl
theorem pcells_tup {cs : List PV} : pcells (.tup cs) = ([.tup cs]) := nrfl rfl
theorem pcells_fz {t : TypeId} {n : Nat} {cs : List PV} : pcells (.fz t n cs) = ([.fz t n cs]) := nrfl rfl
theorem pcells_fp {cs : List PV} : pcells (.fp cs) = ([.fp cs]) := nrfl rfl
theorem pcells_yl {i : Nat} : pcells (.yl i) = ([.yl i]) := nrfl rfl
theorem pcells_agg {cs : List PV} : pcells (.agg cs) = (cs) := nrfl rfl
theorem prow_def {i : Nat} : prow L i = (match L[i]? with | some (.row t cs) => some (t, cs) | _ => none) := nrfl rfl
theorem pload_e0 {agg : Option Nat} {i : Nat} {o : Nat} : pload L agg (.ptr i o) = (match prow L i with
    | some (t, cs) => match agg with
      | none => match cs[o]? with
        | some q => if nl q = true then some (q, L, true) else match unp q L.length with
          | some (q', ob) => some (q', L.set i (.row t (psplice cs o [q'])) ++ [ob], true)
          | none => none
        | none => none
      | some n => if o + n ≤ cs.length ∧ allNl (cut cs o n) then some (.agg (cut cs o n), L, true) else none
    | none => none) := nrfl rfl
theorem pload_e1 {agg : Option Nat} {cs : List PV} : pload L agg (.fp cs) = (match agg with
    | none => match cs with | q :: _ => some (q, L, true) | [] => none
    | some n => if 0 < n ∧ n ≤ cs.length then some (.agg (cs.take n), L, true) else none) := nrfl rfl
theorem psrc_e0 {size : Nat} {n : Nat} {y0 : Nat} : psrc L size (.v (.slice none n y0)) = (if n = 0 then some ([], 0) else none) := nrfl rfl
theorem psrc_e1 {size : Nat} {i : Nat} {o : Nat} {n : Nat} {y0 : Nat} : psrc L size (.slc i o n y0) = (match prow L i with
    | some (_, cs) => if o + n * size ≤ cs.length ∧ allNl (cut cs o (n * size)) then some (cut cs o (n * size), n) else none
    | none => none) := nrfl rfl
theorem psrc_e2 {size : Nat} {y0 : Nat} {n : Nat} {cs : List PV} : psrc L size (.fz y0 n cs) = (if cs.length = n * size then some (cs, n) else none) := nrfl rfl
theorem psrc_e3 {size : Nat} {s : ByteArray} : psrc L size (.v (.string s)) = (if size = 1 then some (s.data.toList.map fun b => .v (.int .u8 b.toNat), s.size) else none) := nrfl rfl
theorem pmap_e0  {i : Nat} : pmap L (.mapr i) = (match L[i]? with
    | some (.map es c) => some (es, c)
    | _ => none) := nrfl rfl
theorem pmap_e1   : pmap L (.v (.map none)) = (some ([], 0)) := nrfl rfl
theorem pappend_def {t : TypeId} {size bytes : Nat} {s x : PV} : pappend L t size bytes s x = (match psrc L size x with
  | none => none
  | some (new, m) => match s with
    | .v (.slice none len cap) => if len = 0 ∧ cap = 0 ∧ 1 ≤ size ∧ roomy m bytes ∧ allOne new then some (.slc L.length 0 m m, L ++ [.row t new], true) else none
    | .fz t' n cs => if m = 0 then some (.fz t' n cs, L, true) else none
    | .slc i o len cap => match prow L i with
      | some (t', cs) => if allOne new ∧ o = 0 ∧ len = cap ∧ t' = t ∧ cs.length = len * size ∧ 1 ≤ size ∧ roomy (len + m) bytes then
          some (.slc L.length 0 (len + m) (len + m), L.set i .dead ++ [.row t (cs ++ new)], true)
        else if m = 0 then some (.slc i o len cap, L, true)
        else if allOne new then
          if len + m ≤ cap then (if o + len * size + new.length ≤ cs.length then some (.slc i o (len + m) cap, L.set i (.row t' (psplice cs (o + len * size) new)), false) else none)
          else if t' = t ∧ roomy (len + m) bytes ∧ o + len * size ≤ cs.length ∧ 1 ≤ size then
            some (.slc L.length 0 (len + m) (len + m), L.set i .dead ++ [.row t (cut cs o (len * size) ++ new)], decide (o + len * size = cs.length ∧ len = cap)) else none
        else none
      | none => none
    | _ => none) := nrfl rfl
theorem pval_some {x : Value} : pval L (some x) = (some (.v x, L, true)) := nrfl rfl
theorem pval_none  : pval L none = (none) := nrfl rfl
theorem aggOf_def {cs : List PV} {o : Nat} {agg : Option Nat} : aggOf' cs o agg L = (match agg with
  | none => match cs[o]? with | some q => some (q, L, true) | none => none
  | some n => some (.agg (cut cs o n), L, true)) := nrfl rfl
theorem pfind_nil {kk : KeyK} {k : Value} {i : Nat} : pfind kk k [] i = (some none) := nrfl rfl
theorem pfind_cons {kk : KeyK} {k : Value} {i : Nat} {e : Value × PV × Nat} {es : List (Value × PV × Nat)} : pfind kk k (e :: es) i = (match keyEq kk k e.1 with | some true => some (some (i, e.2.1)) | some false => pfind kk k es (i + 1) | none => none) := nrfl rfl
attribute [simp] pev_mov pev_pick pev_box pev_build pev_buildSlice pev_load pev_store pev_nilCheck pev_arith pev_eqBool pev_eqNil pev_eqPtr pev_un pev_toInt pev_iface pev_func pev_makeSlice pev_makeMap pev_slice pev_sliceStr pev_sliceArr pev_fieldAddr pev_field pev_indexAddr pev_indexAddrArr pev_indexStr pev_indexArr pev_extract pev_lookup pev_mapUpdate pev_assertTo pev_lenStr pev_lenSl pev_lenMap pev_lenArr pev_append pev_minMax pea_tmp pea_val pei_def peas_nil peas_cons peap_nil peap_cons peo_none peo_some pfill_nil pfill_cons psetD_some psetD_none pcells_v pcells_ptr pcells_slc pcells_mapr pcells_fn pcells_ifc pcells_tup pcells_fz pcells_fp pcells_yl pcells_agg prow_def pload_e0 pload_e1 psrc_e0 psrc_e1 psrc_e2 psrc_e3 pmap_e0 pmap_e1 pappend_def pval_some pval_none aggOf_def pfind_nil pfind_cons
end
attribute [simp] pwanted ofV press pres pone1 ploadv penv funcArgs noId noIdL one peqNil unp
theorem int_beq (a b : Int) : (a == b) = decide (a = b) := by by_cases h : a = b <;> simp [h]
theorem int_bne (a b : Int) : (a != b) = !decide (a = b) := by by_cases h : a = b <;> simp [h]
/-! ### the rules for simp: what comes later is data, so that it stays as it is -/
section
variable {k : PEnv → List LObj → Prop} {R : PEnv → List LObj → Prop} {id j : Nat} {l l' : List Ins} {a b : ICode} {c : Arg} {p : PV} {q : Bool} {f : Arg} {as : List Arg} {ps : List Nat} {d : Option Nat} {g : Option (Nat × Bool)} {op : IOp}
section
variable (F X0 X)
def PIk (op : IOp) (l : List Ins) (R : PEnv → List LObj → Prop) (d : Option Nat) (E : PEnv) (L : List LObj) : Prop := PI F X0 X op (fun p L' => PO F X0 X l R (psetD E d p) L') E L
def PJk (op : IOp) (l : List Ins) (R : PEnv → List LObj → Prop) (d : Option Nat) (E : PEnv) (L : List LObj) : Prop := PJ F X0 X op (fun p L' => PQ F X0 X l R (psetD E d p) L') E L
def PFk (fv : PV) (args : List PV) (l : List Ins) (R : PEnv → List LObj → Prop) (d : Option Nat) (E : PEnv) (L : List LObj) : Prop := PF F X0 X false fv args L (fun p L' => PO F X0 X l R (psetD E d p) L')
def PGk (fv : PV) (args : List PV) (l : List Ins) (R : PEnv → List LObj → Prop) (d : Option Nat) (E : PEnv) (L : List LObj) : Prop := PF F X0 X true fv args L (fun p L' => PQ F X0 X l R (psetD E d p) L')
def pKk (l : List Ins) (R : PEnv → List LObj → Prop) (d : Option Nat) (E : PEnv) : PRes → Prop
  | some (p, L', _) => PO F X0 X l R (psetD E d p) L'
  | none => False
def pKj (l : List Ins) (R : PEnv → List LObj → Prop) (d : Option Nat) (E : PEnv) : PRes → Prop
  | some (p, L', true) => PQ F X0 X l R (psetD E d p) L'
  | _ => False
def pCk (l : List Ins) (R : PEnv → List LObj → Prop) (d : Option Nat) (E : PEnv) (L : List LObj) : Option PV → Option (List PV) → Prop
  | some fv, some args => PFk F X0 X fv args l R d E L
  | _, _ => False
def pCj (l : List Ins) (R : PEnv → List LObj → Prop) (d : Option Nat) (E : PEnv) (L : List LObj) : Option PV → Option (List PV) → Prop
  | some fv, some args => PGk F X0 X fv args l R d E L
  | _, _ => False
def pNk (l : List Ins) (R : PEnv → List LObj → Prop) (d : Option Nat) (E : PEnv) (L : List LObj) (r : PRes) (x y : Option PV) : Prop := pnilK (fun p L' => PO F X0 X l R (psetD E d p) L') L r x y
def pcondK (n0 : Nat) (a b : ICode) (Q : Ex → PEnv → List LObj → Prop) (E : PEnv) (L : List LObj) : Option Value → Prop
  | some (.bool t) => (t = true → PW F X0 X n0 a Q E L) ∧ (t = false → PW F X0 X n0 b Q E L)
  | _ => False
end
theorem PW_skip : PW F X0 X n0 .skip Q E L = Q .norm E L := nrfl rfl
theorem PW_ops : PW F X0 X n0 (.ops l) Q E L = PO F X0 X l (Q .norm) E L := nrfl rfl
theorem PW_draw : PW F X0 X n0 (.draw l l') Q E L = PQ F X0 X l (PO F X0 X l' (Q .norm)) E L := nrfl rfl
theorem PW_seq : PW F X0 X n0 (.seq a b) Q E L = PW F X0 X n0 a (pnext (PW F X0 X n0 b Q) Q) E L := nrfl rfl
theorem PW_cond : PW F X0 X n0 (.cond c a b) Q E L = pcondK F X0 X n0 a b Q E L (pei E c) := by
  simp only [PW, pcondK]
theorem pcondK_bool {t : Bool} : pcondK F X0 X n0 a b Q E L (some (.bool t)) = ((t = true → PW F X0 X n0 a Q E L) ∧ (t = false → PW F X0 X n0 b Q E L)) := nrfl rfl
theorem PW_block : PW F X0 X n0 (.block id a) Q E L = PW F X0 X n0 a (pout id Q) E L := nrfl rfl
theorem PW_exit : PW F X0 X n0 (.exit id) Q E L = Q (.exit id) E L := nrfl rfl
theorem PW_ret : PW F X0 X n0 .ret Q E L = Q .ret E L := nrfl rfl
theorem PW_loop : PW F X0 X n0 (.loop a) Q E L = PC F X0 X n0 (.loop a) Q E L := nrfl rfl
theorem PW_range : PW F X0 X n0 (.rangeFunc f ps a b) Q E L = PC F X0 X n0 (.rangeFunc f ps a b) Q E L := nrfl rfl
theorem PO_nil : PO F X0 X [] R E L = R E L := nrfl rfl
theorem PO_cons : PO F X0 X (⟨d, g, op⟩ :: l) R E L = if pwanted E g = some true then PIk F X0 X op l R d E L else if pwanted E g = some false then PO F X0 X l R (psetD E d (.tup [])) L else False := nrfl rfl
theorem PQ_nil : PQ F X0 X [] R E L = R E L := nrfl rfl
theorem PQ_cons : PQ F X0 X (⟨d, g, op⟩ :: l) R E L = if pwanted E g = some true then PJk F X0 X op l R d E L else if pwanted E g = some false then PQ F X0 X l R (psetD E d (.tup [])) L else False := nrfl rfl
theorem PIk_call : PIk F X0 X (.call f as) l R d E L = pCk F X0 X l R d E L (pea E f) (peas E as) := by
  unfold PIk pCk PI PFk
  simp only
  split
  · rename_i h1 h2; rw [h1, h2]; simp
  · rename_i h1
    refine eq_false ?_
    rintro ⟨fv, h2, args, h3, _⟩
    exact h1 fv args h2 h3
theorem PJk_call : PJk F X0 X (.call f as) l R d E L = pCj F X0 X l R d E L (pea E f) (peas E as) := by
  unfold PJk pCj PJ PGk
  simp only
  split
  · rename_i h1 h2; rw [h1, h2]; simp
  · rename_i h1
    refine eq_false ?_
    rintro ⟨fv, h2, args, h3, _⟩
    exact h1 fv args h2 h3
theorem pCk_some {fv : PV} {args : List PV} : pCk F X0 X l R d E L (some fv) (some args) = PFk F X0 X fv args l R d E L := nrfl rfl
theorem pCj_some {fv : PV} {args : List PV} : pCj F X0 X l R d E L (some fv) (some args) = PGk F X0 X fv args l R d E L := nrfl rfl
theorem PIk_nil {neg : Bool} {x y : Arg} : PIk F X0 X (.eqNil .slice neg x y) l R d E L = pNk F X0 X l R d E L (pev E L (.eqNil .slice neg x y)) (pea E x) (pea E y) := nrfl rfl
theorem pNk_some {x y : Option PV} : pNk F X0 X l R d E L (some (p, L', q)) x y = PO F X0 X l R (psetD E d p) L' := by cases x <;> cases y <;> exact nrfl rfl
theorem both (P : Bool → Prop) : (∀ b, P b) = (P true ∧ P false) := propext ⟨fun h => ⟨h true, h false⟩, fun h b => by cases b; exact h.2; exact h.1⟩
theorem pNk_fz {t : TypeId} {cs : List PV} {n m : Nat} : pNk F X0 X l R d E L none (some (.fz t 0 cs)) (some (.v (.slice none n m))) = (PO F X0 X l R (psetD E d (.v (.bool true))) L ∧ PO F X0 X l R (psetD E d (.v (.bool false))) L) := both _
theorem pNk_slc {i o c n m : Nat} : pNk F X0 X l R d E L none (some (.slc i o 0 c)) (some (.v (.slice none n m))) = (PO F X0 X l R (psetD E d (.v (.bool true))) L ∧ PO F X0 X l R (psetD E d (.v (.bool false))) L) := both _
theorem pKk_some : pKk F X0 X l R d E (some (p, L', q)) = PO F X0 X l R (psetD E d p) L' := nrfl rfl
theorem pKj_some : pKj F X0 X l R d E (some (p, L', true)) = PQ F X0 X l R (psetD E d p) L' := nrfl rfl
theorem pnext_norm : pnext k Q .norm E L = k E L := nrfl rfl
theorem pnext_exit : pnext k Q (.exit id) E L = Q (.exit id) E L := nrfl rfl
theorem pnext_ret : pnext k Q .ret E L = Q .ret E L := nrfl rfl
theorem pout_norm : pout id Q .norm E L = Q .norm E L := nrfl rfl
theorem pout_exit : pout id Q (.exit j) E L = if j = id then Q .norm E L else Q (.exit j) E L := nrfl rfl
theorem pout_ret : pout id Q .ret E L = Q .ret E L := nrfl rfl
theorem PP.runk {fv : PV} {args : List PV} {v : PV} (h : PP F X0 X fv args v) (hk : PO F X0 X l R (psetD E d v) L) : PFk F X0 X fv args l R d E L := h.run hk
theorem PP.runj {fv : PV} {args : List PV} {v : PV} (h : PP F X0 X fv args v) (hk : PQ F X0 X l R (psetD E d v) L) : PGk F X0 X fv args l R d E L := h.run hk
theorem PIk_mov {x0 : Arg} : PIk F X0 X (.mov x0) l R d E L = pKk F X0 X l R d E (pev E L (.mov x0)) := nrfl rfl
theorem PJk_mov {x0 : Arg} : PJk F X0 X (.mov x0) l R d E L = pKj F X0 X l R d E (pev E L (.mov x0)) := nrfl rfl
theorem PIk_pick {x0 : Arg} {x1 : Arg} {x2 : Arg} : PIk F X0 X (.pick x0 x1 x2) l R d E L = pKk F X0 X l R d E (pev E L (.pick x0 x1 x2)) := nrfl rfl
theorem PJk_pick {x0 : Arg} {x1 : Arg} {x2 : Arg} : PJk F X0 X (.pick x0 x1 x2) l R d E L = pKj F X0 X l R d E (pev E L (.pick x0 x1 x2)) := nrfl rfl
theorem PIk_box {x0 : TypeId} {x1 : Arg} : PIk F X0 X (.box x0 x1) l R d E L = pKk F X0 X l R d E (pev E L (.box x0 x1)) := nrfl rfl
theorem PJk_box {x0 : TypeId} {x1 : Arg} : PJk F X0 X (.box x0 x1) l R d E L = pKj F X0 X l R d E (pev E L (.box x0 x1)) := nrfl rfl
theorem PIk_build {x0 : List Value} {x1 : List (Nat × Nat × Arg)} : PIk F X0 X (.build x0 x1) l R d E L = pKk F X0 X l R d E (pev E L (.build x0 x1)) := nrfl rfl
theorem PJk_build {x0 : List Value} {x1 : List (Nat × Nat × Arg)} : PJk F X0 X (.build x0 x1) l R d E L = pKj F X0 X l R d E (pev E L (.build x0 x1)) := nrfl rfl
theorem PIk_buildSlice {x0 : TypeId} {x1 : Nat} {x2 : List Value} {x3 : List (Nat × Nat × Arg)} : PIk F X0 X (.buildSlice x0 x1 x2 x3) l R d E L = pKk F X0 X l R d E (pev E L (.buildSlice x0 x1 x2 x3)) := nrfl rfl
theorem PJk_buildSlice {x0 : TypeId} {x1 : Nat} {x2 : List Value} {x3 : List (Nat × Nat × Arg)} : PJk F X0 X (.buildSlice x0 x1 x2 x3) l R d E L = pKj F X0 X l R d E (pev E L (.buildSlice x0 x1 x2 x3)) := nrfl rfl
theorem PIk_load {x0 : Option Nat} {x1 : Arg} : PIk F X0 X (.load x0 x1) l R d E L = pKk F X0 X l R d E (pev E L (.load x0 x1)) := nrfl rfl
theorem PJk_load {x0 : Option Nat} {x1 : Arg} : PJk F X0 X (.load x0 x1) l R d E L = pKj F X0 X l R d E (pev E L (.load x0 x1)) := nrfl rfl
theorem PIk_store {x0 : Nat} {x1 : Arg} {x2 : Arg} : PIk F X0 X (.store x0 x1 x2) l R d E L = pKk F X0 X l R d E (pev E L (.store x0 x1 x2)) := nrfl rfl
theorem PJk_store {x0 : Nat} {x1 : Arg} {x2 : Arg} : PJk F X0 X (.store x0 x1 x2) l R d E L = pKj F X0 X l R d E (pev E L (.store x0 x1 x2)) := nrfl rfl
theorem PIk_nilCheck {x0 : Arg} : PIk F X0 X (.nilCheck x0) l R d E L = pKk F X0 X l R d E (pev E L (.nilCheck x0)) := nrfl rfl
theorem PJk_nilCheck {x0 : Arg} : PJk F X0 X (.nilCheck x0) l R d E L = pKj F X0 X l R d E (pev E L (.nilCheck x0)) := nrfl rfl
theorem PIk_arith {x0 : BinOp} {x1 : Arg} {x2 : Arg} : PIk F X0 X (.arith x0 x1 x2) l R d E L = pKk F X0 X l R d E (pev E L (.arith x0 x1 x2)) := nrfl rfl
theorem PJk_arith {x0 : BinOp} {x1 : Arg} {x2 : Arg} : PJk F X0 X (.arith x0 x1 x2) l R d E L = pKj F X0 X l R d E (pev E L (.arith x0 x1 x2)) := nrfl rfl
theorem PIk_eqBool {x0 : Bool} {x1 : Arg} {x2 : Arg} : PIk F X0 X (.eqBool x0 x1 x2) l R d E L = pKk F X0 X l R d E (pev E L (.eqBool x0 x1 x2)) := nrfl rfl
theorem PJk_eqBool {x0 : Bool} {x1 : Arg} {x2 : Arg} : PJk F X0 X (.eqBool x0 x1 x2) l R d E L = pKj F X0 X l R d E (pev E L (.eqBool x0 x1 x2)) := nrfl rfl
theorem PIk_eqNilmap {x0 : Bool} {x1 : Arg} {x2 : Arg} : PIk F X0 X (.eqNil .map x0 x1 x2) l R d E L = pKk F X0 X l R d E (pev E L (.eqNil .map x0 x1 x2)) := nrfl rfl
theorem PJk_eqNilmap {x0 : Bool} {x1 : Arg} {x2 : Arg} : PJk F X0 X (.eqNil .map x0 x1 x2) l R d E L = pKj F X0 X l R d E (pev E L (.eqNil .map x0 x1 x2)) := nrfl rfl
theorem PIk_eqNilfunc {x0 : Bool} {x1 : Arg} {x2 : Arg} : PIk F X0 X (.eqNil .func x0 x1 x2) l R d E L = pKk F X0 X l R d E (pev E L (.eqNil .func x0 x1 x2)) := nrfl rfl
theorem PJk_eqNilfunc {x0 : Bool} {x1 : Arg} {x2 : Arg} : PJk F X0 X (.eqNil .func x0 x1 x2) l R d E L = pKj F X0 X l R d E (pev E L (.eqNil .func x0 x1 x2)) := nrfl rfl
theorem PIk_eqNilptr {x0 : Bool} {x1 : Arg} {x2 : Arg} : PIk F X0 X (.eqNil .ptr x0 x1 x2) l R d E L = pKk F X0 X l R d E (pev E L (.eqNil .ptr x0 x1 x2)) := nrfl rfl
theorem PJk_eqNilptr {x0 : Bool} {x1 : Arg} {x2 : Arg} : PJk F X0 X (.eqNil .ptr x0 x1 x2) l R d E L = pKj F X0 X l R d E (pev E L (.eqNil .ptr x0 x1 x2)) := nrfl rfl
theorem PIk_eqPtr {x0 : Bool} {x1 : Arg} {x2 : Arg} : PIk F X0 X (.eqPtr x0 x1 x2) l R d E L = pKk F X0 X l R d E (pev E L (.eqPtr x0 x1 x2)) := nrfl rfl
theorem PJk_eqPtr {x0 : Bool} {x1 : Arg} {x2 : Arg} : PJk F X0 X (.eqPtr x0 x1 x2) l R d E L = pKj F X0 X l R d E (pev E L (.eqPtr x0 x1 x2)) := nrfl rfl
theorem PIk_eqFlat {x0 : Bool} {x1 : Arg} {x2 : Arg} : PIk F X0 X (.eqFlat x0 x1 x2) l R d E L = pKk F X0 X l R d E (pev E L (.eqFlat x0 x1 x2)) := nrfl rfl
theorem PJk_eqFlat {x0 : Bool} {x1 : Arg} {x2 : Arg} : PJk F X0 X (.eqFlat x0 x1 x2) l R d E L = pKj F X0 X l R d E (pev E L (.eqFlat x0 x1 x2)) := nrfl rfl
theorem PIk_un {x0 : UnOp} {x1 : Arg} : PIk F X0 X (.un x0 x1) l R d E L = pKk F X0 X l R d E (pev E L (.un x0 x1)) := nrfl rfl
theorem PJk_un {x0 : UnOp} {x1 : Arg} : PJk F X0 X (.un x0 x1) l R d E L = pKj F X0 X l R d E (pev E L (.un x0 x1)) := nrfl rfl
theorem PIk_toInt {x0 : IntKind} {x1 : Arg} : PIk F X0 X (.toInt x0 x1) l R d E L = pKk F X0 X l R d E (pev E L (.toInt x0 x1)) := nrfl rfl
theorem PJk_toInt {x0 : IntKind} {x1 : Arg} : PJk F X0 X (.toInt x0 x1) l R d E L = pKj F X0 X l R d E (pev E L (.toInt x0 x1)) := nrfl rfl
theorem PIk_iface {x0 : TypeId} {x1 : Arg} : PIk F X0 X (.iface x0 x1) l R d E L = pKk F X0 X l R d E (pev E L (.iface x0 x1)) := nrfl rfl
theorem PJk_iface {x0 : TypeId} {x1 : Arg} : PJk F X0 X (.iface x0 x1) l R d E L = pKj F X0 X l R d E (pev E L (.iface x0 x1)) := nrfl rfl
theorem PIk_func {x0 : FuncId} {x1 : List Arg} {x2 : List Arg} : PIk F X0 X (.func x0 x1 x2) l R d E L = pKk F X0 X l R d E (pev E L (.func x0 x1 x2)) := nrfl rfl
theorem PJk_func {x0 : FuncId} {x1 : List Arg} {x2 : List Arg} : PJk F X0 X (.func x0 x1 x2) l R d E L = pKj F X0 X l R d E (pev E L (.func x0 x1 x2)) := nrfl rfl
theorem PIk_makeSlice {x0 : TypeId} {x1 : Nat} {x2 : List Value} {x3 : Arg} {x4 : Arg} : PIk F X0 X (.makeSlice x0 x1 x2 x3 x4) l R d E L = pKk F X0 X l R d E (pev E L (.makeSlice x0 x1 x2 x3 x4)) := nrfl rfl
theorem PJk_makeSlice {x0 : TypeId} {x1 : Nat} {x2 : List Value} {x3 : Arg} {x4 : Arg} : PJk F X0 X (.makeSlice x0 x1 x2 x3 x4) l R d E L = pKj F X0 X l R d E (pev E L (.makeSlice x0 x1 x2 x3 x4)) := nrfl rfl
theorem PIk_slice {x0 : TypeId} {x1 : Nat} {x2 : Arg} {x3 : Option Arg} {x4 : Option Arg} {x5 : Option Arg} : PIk F X0 X (.slice x0 x1 x2 x3 x4 x5) l R d E L = pKk F X0 X l R d E (pev E L (.slice x0 x1 x2 x3 x4 x5)) := nrfl rfl
theorem PJk_slice {x0 : TypeId} {x1 : Nat} {x2 : Arg} {x3 : Option Arg} {x4 : Option Arg} {x5 : Option Arg} : PJk F X0 X (.slice x0 x1 x2 x3 x4 x5) l R d E L = pKj F X0 X l R d E (pev E L (.slice x0 x1 x2 x3 x4 x5)) := nrfl rfl
theorem PIk_sliceStr {x0 : Arg} {x1 : Option Arg} {x2 : Option Arg} : PIk F X0 X (.sliceStr x0 x1 x2) l R d E L = pKk F X0 X l R d E (pev E L (.sliceStr x0 x1 x2)) := nrfl rfl
theorem PJk_sliceStr {x0 : Arg} {x1 : Option Arg} {x2 : Option Arg} : PJk F X0 X (.sliceStr x0 x1 x2) l R d E L = pKj F X0 X l R d E (pev E L (.sliceStr x0 x1 x2)) := nrfl rfl
theorem PIk_sliceArr {x0 : Nat} {x1 : Nat} {x2 : Arg} {x3 : Option Arg} {x4 : Option Arg} {x5 : Option Arg} : PIk F X0 X (.sliceArr x0 x1 x2 x3 x4 x5) l R d E L = pKk F X0 X l R d E (pev E L (.sliceArr x0 x1 x2 x3 x4 x5)) := nrfl rfl
theorem PJk_sliceArr {x0 : Nat} {x1 : Nat} {x2 : Arg} {x3 : Option Arg} {x4 : Option Arg} {x5 : Option Arg} : PJk F X0 X (.sliceArr x0 x1 x2 x3 x4 x5) l R d E L = pKj F X0 X l R d E (pev E L (.sliceArr x0 x1 x2 x3 x4 x5)) := nrfl rfl
theorem PIk_fieldAddr {x0 : Nat} {x1 : Arg} : PIk F X0 X (.fieldAddr x0 x1) l R d E L = pKk F X0 X l R d E (pev E L (.fieldAddr x0 x1)) := nrfl rfl
theorem PJk_fieldAddr {x0 : Nat} {x1 : Arg} : PJk F X0 X (.fieldAddr x0 x1) l R d E L = pKj F X0 X l R d E (pev E L (.fieldAddr x0 x1)) := nrfl rfl
theorem PIk_field {x0 : Nat} {x1 : Option Nat} {x2 : Arg} : PIk F X0 X (.field x0 x1 x2) l R d E L = pKk F X0 X l R d E (pev E L (.field x0 x1 x2)) := nrfl rfl
theorem PJk_field {x0 : Nat} {x1 : Option Nat} {x2 : Arg} : PJk F X0 X (.field x0 x1 x2) l R d E L = pKj F X0 X l R d E (pev E L (.field x0 x1 x2)) := nrfl rfl
theorem PIk_indexAddr {x0 : Nat} {x1 : Arg} {x2 : Arg} : PIk F X0 X (.indexAddr x0 x1 x2) l R d E L = pKk F X0 X l R d E (pev E L (.indexAddr x0 x1 x2)) := nrfl rfl
theorem PJk_indexAddr {x0 : Nat} {x1 : Arg} {x2 : Arg} : PJk F X0 X (.indexAddr x0 x1 x2) l R d E L = pKj F X0 X l R d E (pev E L (.indexAddr x0 x1 x2)) := nrfl rfl
theorem PIk_indexAddrArr {x0 : Nat} {x1 : Nat} {x2 : Arg} {x3 : Arg} : PIk F X0 X (.indexAddrArr x0 x1 x2 x3) l R d E L = pKk F X0 X l R d E (pev E L (.indexAddrArr x0 x1 x2 x3)) := nrfl rfl
theorem PJk_indexAddrArr {x0 : Nat} {x1 : Nat} {x2 : Arg} {x3 : Arg} : PJk F X0 X (.indexAddrArr x0 x1 x2 x3) l R d E L = pKj F X0 X l R d E (pev E L (.indexAddrArr x0 x1 x2 x3)) := nrfl rfl
theorem PIk_indexStr {x0 : Arg} {x1 : Arg} : PIk F X0 X (.indexStr x0 x1) l R d E L = pKk F X0 X l R d E (pev E L (.indexStr x0 x1)) := nrfl rfl
theorem PJk_indexStr {x0 : Arg} {x1 : Arg} : PJk F X0 X (.indexStr x0 x1) l R d E L = pKj F X0 X l R d E (pev E L (.indexStr x0 x1)) := nrfl rfl
theorem PIk_indexArr {x0 : Nat} {x1 : Nat} {x2 : Option Nat} {x3 : Arg} {x4 : Arg} : PIk F X0 X (.indexArr x0 x1 x2 x3 x4) l R d E L = pKk F X0 X l R d E (pev E L (.indexArr x0 x1 x2 x3 x4)) := nrfl rfl
theorem PJk_indexArr {x0 : Nat} {x1 : Nat} {x2 : Option Nat} {x3 : Arg} {x4 : Arg} : PJk F X0 X (.indexArr x0 x1 x2 x3 x4) l R d E L = pKj F X0 X l R d E (pev E L (.indexArr x0 x1 x2 x3 x4)) := nrfl rfl
theorem PIk_extract {x0 : Arg} {x1 : Nat} : PIk F X0 X (.extract x0 x1) l R d E L = pKk F X0 X l R d E (pev E L (.extract x0 x1)) := nrfl rfl
theorem PJk_extract {x0 : Arg} {x1 : Nat} : PJk F X0 X (.extract x0 x1) l R d E L = pKj F X0 X l R d E (pev E L (.extract x0 x1)) := nrfl rfl
theorem PIk_lookup {x0 : KeyK} {x1 : Value} {x2 : Bool} {x3 : Arg} {x4 : Arg} : PIk F X0 X (.lookup x0 x1 x2 x3 x4) l R d E L = pKk F X0 X l R d E (pev E L (.lookup x0 x1 x2 x3 x4)) := nrfl rfl
theorem PJk_lookup {x0 : KeyK} {x1 : Value} {x2 : Bool} {x3 : Arg} {x4 : Arg} : PJk F X0 X (.lookup x0 x1 x2 x3 x4) l R d E L = pKj F X0 X l R d E (pev E L (.lookup x0 x1 x2 x3 x4)) := nrfl rfl
theorem PIk_mapUpdate {x0 : KeyK} {x1 : Arg} {x2 : Arg} {x3 : Arg} : PIk F X0 X (.mapUpdate x0 x1 x2 x3) l R d E L = pKk F X0 X l R d E (pev E L (.mapUpdate x0 x1 x2 x3)) := nrfl rfl
theorem PJk_mapUpdate {x0 : KeyK} {x1 : Arg} {x2 : Arg} {x3 : Arg} : PJk F X0 X (.mapUpdate x0 x1 x2 x3) l R d E L = pKj F X0 X l R d E (pev E L (.mapUpdate x0 x1 x2 x3)) := nrfl rfl
theorem PIk_rangeStr {x0 : Arg} : PIk F X0 X (.rangeStr x0) l R d E L = pKk F X0 X l R d E (pev E L (.rangeStr x0)) := nrfl rfl
theorem PJk_rangeStr {x0 : Arg} : PJk F X0 X (.rangeStr x0) l R d E L = pKj F X0 X l R d E (pev E L (.rangeStr x0)) := nrfl rfl
theorem PIk_nextStr {x0 : Arg} : PIk F X0 X (.nextStr x0) l R d E L = pKk F X0 X l R d E (pev E L (.nextStr x0)) := nrfl rfl
theorem PJk_nextStr {x0 : Arg} : PJk F X0 X (.nextStr x0) l R d E L = pKj F X0 X l R d E (pev E L (.nextStr x0)) := nrfl rfl
theorem PIk_toBytes {x0 : TypeId} {x1 : Arg} : PIk F X0 X (.toBytes x0 x1) l R d E L = pKk F X0 X l R d E (pev E L (.toBytes x0 x1)) := nrfl rfl
theorem PJk_toBytes {x0 : TypeId} {x1 : Arg} : PJk F X0 X (.toBytes x0 x1) l R d E L = pKj F X0 X l R d E (pev E L (.toBytes x0 x1)) := nrfl rfl
theorem PIk_ofBytes {x0 : Arg} : PIk F X0 X (.ofBytes x0) l R d E L = pKk F X0 X l R d E (pev E L (.ofBytes x0)) := nrfl rfl
theorem PJk_ofBytes {x0 : Arg} : PJk F X0 X (.ofBytes x0) l R d E L = pKj F X0 X l R d E (pev E L (.ofBytes x0)) := nrfl rfl
theorem PIk_assertTo {x0 : TypeId} {x1 : Value} {x2 : Bool} {x3 : Arg} : PIk F X0 X (.assertTo x0 x1 x2 x3) l R d E L = pKk F X0 X l R d E (pev E L (.assertTo x0 x1 x2 x3)) := nrfl rfl
theorem PJk_assertTo {x0 : TypeId} {x1 : Value} {x2 : Bool} {x3 : Arg} : PJk F X0 X (.assertTo x0 x1 x2 x3) l R d E L = pKj F X0 X l R d E (pev E L (.assertTo x0 x1 x2 x3)) := nrfl rfl
theorem PIk_lenStr {x0 : Arg} : PIk F X0 X (.lenStr x0) l R d E L = pKk F X0 X l R d E (pev E L (.lenStr x0)) := nrfl rfl
theorem PJk_lenStr {x0 : Arg} : PJk F X0 X (.lenStr x0) l R d E L = pKj F X0 X l R d E (pev E L (.lenStr x0)) := nrfl rfl
theorem PIk_lenSl {x0 : Arg} : PIk F X0 X (.lenSl x0) l R d E L = pKk F X0 X l R d E (pev E L (.lenSl x0)) := nrfl rfl
theorem PJk_lenSl {x0 : Arg} : PJk F X0 X (.lenSl x0) l R d E L = pKj F X0 X l R d E (pev E L (.lenSl x0)) := nrfl rfl
theorem PIk_lenMap {x0 : Arg} : PIk F X0 X (.lenMap x0) l R d E L = pKk F X0 X l R d E (pev E L (.lenMap x0)) := nrfl rfl
theorem PJk_lenMap {x0 : Arg} : PJk F X0 X (.lenMap x0) l R d E L = pKj F X0 X l R d E (pev E L (.lenMap x0)) := nrfl rfl
theorem PIk_lenArr {x0 : Nat} : PIk F X0 X (.lenArr x0) l R d E L = pKk F X0 X l R d E (pev E L (.lenArr x0)) := nrfl rfl
theorem PJk_lenArr {x0 : Nat} : PJk F X0 X (.lenArr x0) l R d E L = pKj F X0 X l R d E (pev E L (.lenArr x0)) := nrfl rfl
theorem PIk_append {x0 : TypeId} {x1 : Nat} {x2 : Nat} {x3 : Arg} {x4 : Arg} : PIk F X0 X (.append x0 x1 x2 x3 x4) l R d E L = pKk F X0 X l R d E (pev E L (.append x0 x1 x2 x3 x4)) := nrfl rfl
theorem PJk_append {x0 : TypeId} {x1 : Nat} {x2 : Nat} {x3 : Arg} {x4 : Arg} : PJk F X0 X (.append x0 x1 x2 x3 x4) l R d E L = pKj F X0 X l R d E (pev E L (.append x0 x1 x2 x3 x4)) := nrfl rfl
theorem PIk_copy {x0 : Nat} {x1 : Arg} {x2 : Arg} : PIk F X0 X (.copy x0 x1 x2) l R d E L = pKk F X0 X l R d E (pev E L (.copy x0 x1 x2)) := nrfl rfl
theorem PJk_copy {x0 : Nat} {x1 : Arg} {x2 : Arg} : PJk F X0 X (.copy x0 x1 x2) l R d E L = pKj F X0 X l R d E (pev E L (.copy x0 x1 x2)) := nrfl rfl
theorem PIk_clear {x0 : List Value} {x1 : Arg} : PIk F X0 X (.clear x0 x1) l R d E L = pKk F X0 X l R d E (pev E L (.clear x0 x1)) := nrfl rfl
theorem PJk_clear {x0 : List Value} {x1 : Arg} : PJk F X0 X (.clear x0 x1) l R d E L = pKj F X0 X l R d E (pev E L (.clear x0 x1)) := nrfl rfl
theorem PIk_clearMap {x0 : Arg} : PIk F X0 X (.clearMap x0) l R d E L = pKk F X0 X l R d E (pev E L (.clearMap x0)) := nrfl rfl
theorem PJk_clearMap {x0 : Arg} : PJk F X0 X (.clearMap x0) l R d E L = pKj F X0 X l R d E (pev E L (.clearMap x0)) := nrfl rfl
theorem PIk_delete {x0 : KeyK} {x1 : Arg} {x2 : Arg} : PIk F X0 X (.delete x0 x1 x2) l R d E L = pKk F X0 X l R d E (pev E L (.delete x0 x1 x2)) := nrfl rfl
theorem PJk_delete {x0 : KeyK} {x1 : Arg} {x2 : Arg} : PJk F X0 X (.delete x0 x1 x2) l R d E L = pKj F X0 X l R d E (pev E L (.delete x0 x1 x2)) := nrfl rfl
theorem PIk_minMax {x0 : Bool} {x1 : Arg} {x2 : Arg} : PIk F X0 X (.minMax x0 x1 x2) l R d E L = pKk F X0 X l R d E (pev E L (.minMax x0 x1 x2)) := nrfl rfl
theorem PJk_minMax {x0 : Bool} {x1 : Arg} {x2 : Arg} : PJk F X0 X (.minMax x0 x1 x2) l R d E L = pKj F X0 X l R d E (pev E L (.minMax x0 x1 x2)) := nrfl rfl
theorem PIk_panic {x0 : Arg} : PIk F X0 X (.panic x0) l R d E L = pKk F X0 X l R d E (pev E L (.panic x0)) := nrfl rfl
theorem PJk_panic {x0 : Arg} : PJk F X0 X (.panic x0) l R d E L = pKj F X0 X l R d E (pev E L (.panic x0)) := nrfl rfl
theorem PIk_bad {x0 : String} : PIk F X0 X (.bad x0) l R d E L = pKk F X0 X l R d E (pev E L (.bad x0)) := nrfl rfl
theorem PJk_bad {x0 : String} : PJk F X0 X (.bad x0) l R d E L = pKj F X0 X l R d E (pev E L (.bad x0)) := nrfl rfl
theorem PJk_eqNilslice {x0 : Bool} {x1 x2 : Arg} : PJk F X0 X (.eqNil .slice x0 x1 x2) l R d E L = pKj F X0 X l R d E (pev E L (.eqNil .slice x0 x1 x2)) := nrfl rfl
end
attribute [simp] PW_skip PW_ops PW_draw PW_seq PW_cond pcondK_bool PW_block PW_exit PW_ret PW_loop PW_range PO_nil PO_cons PQ_nil PQ_cons PIk_call PJk_call pCk_some pCj_some PIk_nil pNk_some pNk_fz pNk_slc pKk_some pKj_some pnext_norm pnext_exit pnext_ret pout_norm pout_exit pout_ret PIk_mov PJk_mov PIk_pick PJk_pick PIk_box PJk_box PIk_build PJk_build PIk_buildSlice PJk_buildSlice PIk_load PJk_load PIk_store PJk_store PIk_nilCheck PJk_nilCheck PIk_arith PJk_arith PIk_eqBool PJk_eqBool PIk_eqNilmap PJk_eqNilmap PIk_eqNilfunc PJk_eqNilfunc PIk_eqNilptr PJk_eqNilptr PIk_eqPtr PJk_eqPtr PIk_eqFlat PJk_eqFlat PIk_un PJk_un PIk_toInt PJk_toInt PIk_iface PJk_iface PIk_func PJk_func PIk_makeSlice PJk_makeSlice PIk_slice PJk_slice PIk_sliceStr PJk_sliceStr PIk_sliceArr PJk_sliceArr PIk_fieldAddr PJk_fieldAddr PIk_field PJk_field PIk_indexAddr PJk_indexAddr PIk_indexAddrArr PJk_indexAddrArr PIk_indexStr PJk_indexStr PIk_indexArr PJk_indexArr PIk_extract PJk_extract PIk_lookup PJk_lookup PIk_mapUpdate PJk_mapUpdate PIk_rangeStr PJk_rangeStr PIk_nextStr PJk_nextStr PIk_toBytes PJk_toBytes PIk_ofBytes PJk_ofBytes PIk_assertTo PJk_assertTo PIk_lenStr PJk_lenStr PIk_lenSl PJk_lenSl PIk_lenMap PJk_lenMap PIk_lenArr PJk_lenArr PIk_append PJk_append PIk_copy PJk_copy PIk_clear PJk_clear PIk_clearMap PJk_clearMap PIk_delete PJk_delete PIk_minMax PJk_minMax PIk_panic PJk_panic PIk_bad PJk_bad PJk_eqNilslice
attribute [simp] Nat.add_one_le_iff int_beq int_bne
attribute [simp] unV mkInt boundsV boundV arithV arithInt T.get_leaf
end Go.Den
/- Pen, part K: range over functions. -/
namespace Go.Den
variable {ρ ρ' : Rho} {ζ ζ' : Zeta} {A A' : Nat → Prop} {H H' : AH} {f f' : Nat → Nat} {E E' : PEnv} {e : Env} {L L' : List LObj} {g : Nat → Nat → Nat} {p : PV} {q : Bool} {n0 : Nat}
variable {F : FuncId → Option IFunc} {X0 X : Ext} {Q : Ex → PEnv → List LObj → Prop}

def psetAll (E : PEnv) : List Nat → List PV → Option PEnv
  | [], [] => some E
  | t :: ts, p :: ps => psetAll (E.set t p) ts ps
  | _, _ => none
theorem psetAll_ok : ∀ {ts : List Nat} {ps : List PV} {xs : List Value} {E E' : PEnv} {e : Env}, EnvP ρ ζ E e → VPL ρ ζ ps xs → psetAll E ts ps = some E' → ∃ e', setAll e ts xs = some e' ∧ EnvP ρ ζ E' e' := by
  intro ts
  induction ts with
  | nil =>
    intro ps xs E E' e he hv h
    cases hv with
    | nil => cases h; exact ⟨e, rfl, he⟩
    | cons _ _ => cases h
  | cons t ts ih =>
    intro ps xs E E' e he hv h
    cases hv with
    | nil => cases h
    | cons h1 h2 => exact ih (he.set h1) h2 h

theorem RH.loop (h : RH A ρ ζ L H) {i k : Nat} {E : PEnv} {ps : List Nat} {as bd : ICode} {st : Nat} {pend : Option Ex} (hL : L[i]? = some (.loop E ps as bd st pend)) (hk : ρ i = some (some k)) :
    ∃ e, H.get k = some (.loop e ps as bd st pend) ∧ EnvP ρ ζ E e ∧ (∀ st' pend', RH A ρ ζ (L.set i (.loop E ps as bd st' pend')) (H.put k (.loop e ps as bd st' pend'))) ∧
      (∀ st' pend', RH A ρ ζ (L.set i .dead) (H.put k (.loop e ps as bd st' pend'))) ∧ ∀ o, Only H (H.put k o) A := by
  obtain ⟨g, hg⟩ := h
  obtain ⟨k', e, h1, h2, h3, h4, h5, h6⟩ := hg.objs _ _ hL
  rw [hk] at h1; cases h1
  have hi : i < L.length := (List.getElem?_eq_some_iff.1 hL).1
  have hwf : ∀ o j ob, (H.put k o).get j = some ob → j < (H.put k o).next := by
    intro o j ob hj
    rw [AH.get_put] at hj
    show j < H.next
    split at hj
    · omega
    · exact hg.wf _ _ hj
  refine ⟨e, h3, h5, fun st' pend' => ⟨g, hg.set hi h6 (Kp.putObj h3 noRow_loop) rfl (hwf _) ⟨k, e, hk, h2, by rw [AH.get_put, if_pos rfl], h4, h5, h6⟩⟩, fun st' pend' => ⟨g, hg.set hi h6 (Kp.putObj h3 noRow_loop) rfl (hwf _) trivial⟩, fun o => (Only.put H k o).mono (fun j hj => by subst hj; exact h4)⟩

theorem VP.yl_inv {i : Nat} {x : Value} (h : VP ρ ζ (.yl i) x) : ∃ k, ρ i = some (some k) ∧ x = .func (.yield k) #[] #[] := by cases h with | yl h => exact ⟨_, h, rfl⟩

/-- a round of a loop over an iterator -/
theorem PF_yield {i : Nat} {args : List PV} {K : PV → List LObj → Prop} {E E1 : PEnv} {ps : List Nat} {as bd : ICode} {pend : Option Ex} (hL : L[i]? = some (.loop E ps as bd 0 pend)) (hs : psetAll E ps args = some E1)
    (h : PC F X0 X L.length as (fun x E2 L2 => x = .norm ∧ ∃ E' ps' as' bd' pend', L2[i]? = some (.loop E' ps' as' bd' 0 pend') ∧
      PC F X0 X L.length bd (fun x E3 L3 => ∃ E' ps' as' bd' st' pend', L3[i]? = some (.loop E' ps' as' bd' st' pend') ∧
        (match x with
        | .norm => K (.v (.bool true)) (L3.set i (.loop E' ps' as' bd' 0 none))
        | .pan _ => False
        | x => K (.v (.bool false)) (L3.set i (.loop E' ps' as' bd' 2 (some x))))) E2 (L2.set i (.loop E' ps' as' bd' 1 pend'))) E1 L) :
    PF F X0 X false (.yl i) args L K := by
  intro A ρ ζ H dv dargs gz hr hv ha
  obtain ⟨k, hk, rfl⟩ := hv.yl_inv
  obtain ⟨e, h1, h2, _, _, _⟩ := hr.loop hL hk
  obtain ⟨e1, h3, h4⟩ := psetAll_ok h2 ha hs
  have hs0 : RS L.length ⟨A, H, ρ, ζ, gz⟩ ρ ζ E1 L e1 H := ⟨hr, h4, Only.refl _ _, .refl _, let ⟨g, hg⟩ := hr; hg.dom, Nat.le_refl _, .refl _ _⟩
  refine wpF_yield h1 h3 ((h _ _ _ _ _ hs0).mono ?_)
  rintro x e2 H2 ⟨ρ2, ζ2, E2, L2, hs2, rfl, E', ps', as', bd', pend', hL2, hb⟩
  have hk2 := hs2.base _ _ hk
  obtain ⟨e', g1, g2, g3, _, g4⟩ := hs2.rh.loop hL2 hk2
  refine ⟨rfl, e', ps', as', bd', pend', g1, ?_⟩
  have hs3 : RS L.length ⟨A, H, ρ, ζ, gz⟩ ρ2 ζ2 E2 (L2.set i (.loop E' ps' as' bd' 1 pend')) e2 (H2.put k (.loop e' ps' as' bd' 1 pend')) := ⟨g3 _ _, hs2.env, hs2.only.transA (g4 _), hs2.base, hs2.dom, by simpa using hs2.len, hs2.zet⟩
  refine (hb _ _ _ _ _ hs3).mono ?_
  rintro x e3 H3 ⟨ρ3, ζ3, E3, L3, hs4, E4, ps4, as4, bd4, st4, pend4, hL3, hk4⟩
  have hk3 := hs4.base _ _ hk
  obtain ⟨e4, q1, q2, q3, _, q4⟩ := hs4.rh.loop hL3 hk3
  refine ⟨e4, ps4, as4, bd4, st4, pend4, q1, ?_⟩
  have fin : ∀ (b : Bool) (st' : Nat) (pend' : Option Ex), K (.v (.bool b)) (L3.set i (.loop E4 ps4 as4 bd4 st' pend')) → ∃ ρ' ζ' v L', ζ.X A ζ' ∧ ρ.Le ρ' ∧ RH A ρ' ζ' L' (H3.put k (.loop e4 ps4 as4 bd4 st' pend')) ∧ VP ρ' ζ' v (.bool b) ∧ Only H (H3.put k (.loop e4 ps4 as4 bd4 st' pend')) A ∧ (false = true → Only H (H3.put k (.loop e4 ps4 as4 bd4 st' pend')) (H.next ≤ ·)) ∧ L.length ≤ L'.length ∧ K v L' :=
    fun b st' pend' hK => ⟨ρ3, ζ3, _, _, hs4.zet, hs4.base, q3 _ _, .v rfl, hs4.only.transA (q4 _), (fun h => by cases h), by simpa using hs4.len, hK⟩
  cases x with
  | norm => exact fin true 0 none hk4
  | pan v => exact hk4
  | exit j => exact fin false 2 _ hk4
  | ret => exact fin false 2 _ hk4

def yK (K : PV → List LObj → Prop) (i : Nat) (E : PEnv) (ps : List Nat) (as bd : ICode) : Ex → List LObj → Prop
  | .norm, L => K (.v (.bool true)) (L.set i (.loop E ps as bd 0 none))
  | .pan _, _ => False
  | x, L => K (.v (.bool false)) (L.set i (.loop E ps as bd 2 (some x)))
/-- a round, for simp -/
theorem PF_yield1 {i : Nat} {args : List PV} {K : PV → List LObj → Prop} {E E1 : PEnv} {ps : List Nat} {as bd : ICode} {pend : Option Ex} (hL : L[i]? = some (.loop E ps as bd 0 pend)) (hs : psetAll E ps args = some E1)
    (h : PW F X0 X L.length as (fun x E2 L2 => x = .norm ∧ L2[i]? = some (.loop E ps as bd 0 pend) ∧
      PW F X0 X L.length bd (fun x _ L3 => L3[i]? = some (.loop E ps as bd 1 pend) ∧ yK K i E ps as bd x L3) E2 (L2.set i (.loop E ps as bd 1 pend))) E1 L) :
    PF F X0 X false (.yl i) args L K := by
  refine PF_yield hL hs ((PW_ok _ h).mono ?_)
  rintro x E2 L2 ⟨hx, h1, h2⟩
  refine ⟨hx, _, _, _, _, _, h1, (PW_ok _ h2).mono ?_⟩
  rintro x E3 L3 ⟨h3, h4⟩
  refine ⟨_, _, _, _, _, _, h3, ?_⟩
  cases x <;> exact h4
attribute [simp] yK psetAll
/-- a loop over an iterator that is a function of the program -/
theorem PC_rangeFunc {fa : Arg} {ps : List Nat} {as bd : ICode} {gid : FuncId} {a c : List PV} (hf : pea E fa = some (.fn gid a c))
    (h : PF F X0 X false (.fn gid a c) [.yl L.length] (L ++ [.loop E ps as bd 0 none]) (fun _ L' => ∃ E' ps' as' bd' st pend, L'[L.length]? = some (.loop E' ps' as' bd' st pend) ∧ st ≠ 1 ∧ Q (pend.getD .norm) E (L'.set L.length .dead))) :
    PC F X0 X n0 (.rangeFunc fa ps as bd) Q E L := by
  intro fx ρ ζ e H hs
  obtain ⟨dv, h1, h2⟩ := pea_ok hs.env hf
  obtain ⟨a', c', rfl, _, _⟩ := h2.fn_inv
  refine wpC_rangeFunc h1 ?_
  obtain ⟨g, hg⟩ := hs.rh
  have hle := Rho.le_add (k := some H.next) hg.fresh
  have hr1 : RH fx.A (ρ.add L.length (some H.next)) ζ (L ++ [.loop E ps as bd 0 none]) (H.push (.loop e ps as bd 0 none)) :=
    hg.push ⟨H.next, e, Rho.add_self, Nat.lt_succ_self _, by rw [AH.get_push, if_pos rfl], hg.acc _ (Nat.le_refl _), hs.env.mono hle (.refl _), by simp⟩
  refine (h fx.A _ ζ _ _ _ hs.gz hr1 (h2.mono hle (.refl _)) (.cons (.yl Rho.add_self) .nil)).mono ?_
  rintro v' H' ⟨ρ', ζ', v, L', c1, c2, c3, c4, c5, _, c7, E', ps', as', bd', st, pend, hL, hst, hq⟩
  have hk' := c2 _ _ (Rho.add_self (ρ := ρ) (i := L.length) (k := some H.next))
  obtain ⟨e', q1, q2, _, q3, q4⟩ := c3.loop hL hk'
  refine ⟨e', ps', as', bd', st, pend, q1, hst, ρ', ζ', E, _, ⟨q3 3 pend, hs.env.mono (hle.trans c2) c1.le, ((hs.only.transA (Only.push H _ _)).transA c5).transA (q4 _), (hs.base.trans hle).trans c2, hs.dom, ?_, hs.zet.trans c1⟩, hq⟩
  have := hs.len
  simp at c7 ⊢
  omega
/-- a function by its code; its run ends with things seen as they are -/
theorem PF_code0 {f : FuncId} {fn : IFunc} {a c args : List PV} {K : PV → List LObj → Prop} (hE : X0 f = none) (hX : X f = none) (hF : F f = some fn)
    (h : PC F X0 X L.length fn.body (fun x E' L' => (x = .norm ∨ x = .ret) ∧ ∃ ps, press E' L' fn.results = some ps ∧ K (pone1 ps) L') (penv (funcArgs a args c)) L) : PF F X0 X false (.fn f a c) args L K := by
  refine PF_code hE hX hF (h.mono ?_)
  rintro x E' L' ⟨hx, ps, hps, hk⟩
  exact ⟨hx, ps, hps, _, _, pone1 ps, Abs.refl _ _ _, by rw [T.get_set, if_pos rfl], hk⟩
theorem VwL.same {τ : List Nat} {cs : List PV} (h : noIdL cs = true) : VwL τ L cs cs := F2.of_idx rfl fun i a _ => .same (noIdL_get h i a)
theorem Abs.viewL (τ : List Nat) (l : List (Nat × PV)) (hnd : τ.Nodup) (hlt : ∀ i ∈ τ, i < L.length) (hpin : ∀ i, i < n0 → τ[i]? = some i) (hn0 : n0 ≤ τ.length)
    (hL : F2 (fun i o' => ∃ o, L[i]? = some o ∧ VwO τ L o o') τ L') (hE : ∀ x ∈ l, ∃ p, E.get x.1 = some p ∧ Vw τ L p x.2) : Abs n0 E L (envOf l) L' :=
  Abs.viewE τ l hnd hlt hpin hL.length.symm hn0 (fun j i o' h1 h2 => by
    obtain ⟨o, h3, h4⟩ := hL.get h1
    rw [h2] at h3; cases h3; exact h4) hE
end Go.Den
