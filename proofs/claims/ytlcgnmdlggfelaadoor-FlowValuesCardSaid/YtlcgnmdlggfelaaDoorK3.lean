/- Part 3 of the proof: an executor over a compiled form of the functions of this program, that it is right, and what it computes (see the last part). -/
import Derived.Test.YtlcgnmdlggfelaaDoorK2
set_option linter.all false
/- Pen, part F: every operation on trees is right. -/
namespace Go.Den
variable {ρ ρ' : Rho} {ζ ζ' : Zeta} {A A' : Nat → Prop} {H H' : AH} {f f' : Nat → Nat} {E : PEnv} {e : Env} {L L' : List LObj} {g : Nat → Nat → Nat} {p : PV} {q : Bool}
theorem aggOf_ok (hr : RH A ρ ζ L H) {cs : List PV} {a : Array Value} (hv : VPL ρ ζ cs a.toList) {o : Nat} {agg : Option Nat} {op : IOp} (h : aggOf' cs o agg L = some (p, L', q))
  (hev : ∀ inv x, (match agg with | none => a.toList[o]? | some n => some (.agg ((a.toList.drop o).take n).toArray)) = some x → ev inv e H op = some (.ret x, H)) : Res A ρ ζ H e op p L' q := by
 unfold aggOf' at h
 split at h
 ·split at h
  ·rename_i hq
   cases h
   obtain ⟨c, hc, hw⟩ := hv.get hq
   exact .pure hr (fun inv => hev inv c hc) hw
  ·cases h
 ·cases h
  exact .pure hr (fun inv => hev inv _ rfl) (VP.agg' (hv.cut _ _))
theorem modify_map {α β : Type} (g : α → β) (f : α → α) (y : β) (hy : ∀ a, g (f a) = y) : ∀ (l : List α) (j : Nat), j < l.length → (l.modify j f).map g = (l.map g).take j ++ [y] ++ (l.map g).drop (j + 1) := by
 intro l
 induction l with
 | nil => intro j h; simp at h
 | cons a l ih =>
  intro j h
  cases j with
  | zero => simp [hy]
  | succ j =>
   have := ih j (by simpa using h)
   simpa using this
set_option maxHeartbeats 1000000 in
theorem pev_ok (gz : GZ ζ) (hg : RHg A ρ ζ L H g) (he : EnvP ρ ζ E e) {op : IOp} (h : pev E L op = some (p, L', q)) : Res A ρ ζ H e op p L' q := by
 have hr : RH A ρ ζ L H := ⟨g, hg⟩
 cases op with
 | mov x =>
  simp only [pev] at h
  split at h
  ·rename_i hx; cases h
   obtain ⟨y, h1, h2⟩ := pea_ok he hx
   exact .pure hr (fun inv => by simp only [ev, h1, okO]) h2
  ·cases h
 | pick c a b =>
  simp only [pev] at h
  split at h
  ·rename_i t hc
   obtain ⟨h1, _⟩ := pei_ok he hc
   split at h
   ·rename_i hx; cases h
    cases t with
    | true =>
     obtain ⟨y, h2, h3⟩ := pea_ok he (by simpa only [cond_true] using hx)
     exact .pure hr (fun inv => by simp only [ev, h1, h2, okO, cond_true]) h3
    | false =>
     obtain ⟨y, h2, h3⟩ := pea_ok he (by simpa only [cond_false] using hx)
     exact .pure hr (fun inv => by simp only [ev, h1, h2, okO, cond_false]) h3
   ·cases h
  ·cases h
 | box t x =>
  simp only [pev] at h
  split at h
  ·rename_i hx; cases h
   obtain ⟨y, h1, h2⟩ := pea_ok he hx
   obtain ⟨a, b⟩ := hg.newRow (t := t) true h2.cells
   exact ⟨_, _, _, fun inv => by simp only [ev, h1]; rfl, Rho.le_add hg.fresh, a, .ptr Rho.add_self, b, fun _ _ h _ => h⟩
  ·cases h
 | build zero ps =>
  simp only [pev] at h
  split at h
  ·rename_i hx
   obtain ⟨ys, h1, h2⟩ := peap_ok he hx
   split at h
   ·rename_i hz
    split at h
    ·rename_i hf; cases h
     obtain ⟨l', a, b⟩ := pfill_ok h2 (vl_map hz) hf
     exact .pure hr (fun inv => by simp only [ev, h1, a, ok1]) (VP.agg' b)
    ·cases h
   ·cases h
  ·cases h
 | buildSlice t len zero ps =>
  simp only [pev] at h
  split at h
  ·rename_i hx
   obtain ⟨ys, h1, h2⟩ := peap_ok he hx
   split at h
   ·rename_i hz
    split at h
    ·rename_i hf; cases h
     obtain ⟨l', a, b⟩ := pfill_ok h2 (vl_map hz) hf
     obtain ⟨c, d⟩ := hg.newRow (t := t) true b
     exact ⟨_, _, _, fun inv => by simp only [ev, h1, a]; rfl, Rho.le_add hg.fresh, c, .slc Rho.add_self (Nat.le_refl _), d, fun _ _ h _ => h⟩
    ·cases h
   ·cases h
  ·cases h
 | load agg a =>
  simp only [pev] at h
  split at h
  ·rename_i hx
   obtain ⟨y, h1, h2⟩ := pea_ok he hx
   exact pload_ok hg h1 h2 h
  ·cases h
 | store n a v =>
  simp only [pev] at h
  split at h
  ·rename_i i o pv h1 h2
   obtain ⟨y, a1, a2⟩ := pea_ok he h1
   obtain ⟨z, b1, b2⟩ := pea_ok he h2
   split at h
   ·rename_i hrow
    split at h
    ·rename_i hc
     cases h
     exact pstore_ok hg a1 a2 b1 b2 hrow hc.1 hc.2.1 hc.2.2
    ·cases h
   ·cases h
  ·cases h
 | nilCheck x =>
  simp only [pev] at h
  split at h
  ·rename_i hx; cases h
   obtain ⟨y, h1, h2⟩ := pea_ok he hx
   obtain ⟨k, hk, rfl⟩ := h2.ptr_inv
   exact .pure hr (fun inv => by simp only [ev, h1, ok1]) h2
  ·rename_i hx; cases h
   obtain ⟨y, h1, h2⟩ := pea_ok he hx
   obtain ⟨k, o, z, _, _, _, rfl⟩ := h2.fp_inv
   exact .pure hr (fun inv => by simp only [ev, h1, ok1]) h2
  ·rename_i hx; cases h
   obtain ⟨y, h1, h2⟩ := pea_ok he hx
   obtain ⟨a, c, rfl, _⟩ := h2.fn_inv
   exact .pure hr (fun inv => by simp only [ev, h1, ok1]) h2
  ·cases h
 | arith op x y =>
  simp only [pev] at h
  split at h
  ·rename_i hx hy
   obtain ⟨h1, _⟩ := pei_ok he hx
   obtain ⟨h2, _⟩ := pei_ok he hy
   split at h
   ·rename_i r hr'
    split at h
    ·rename_i ho; cases h
     exact .pure hr (fun inv => by simp only [ev, h1, h2, hr', okO]) (.v ho)
    ·cases h
   ·cases h
  ·cases h
 | eqBool neg x y =>
  simp only [pev] at h
  split at h
  ·rename_i hx hy
   obtain ⟨h1, _⟩ := pei_ok he hx
   obtain ⟨h2, _⟩ := pei_ok he hy
   cases h
   exact .pure hr (fun inv => by simp only [ev, h1, h2, ok1]) (.v rfl)
  ·cases h
 | eqNil k neg x y =>
  simp only [pev] at h
  split at h
  ·rename_i hx hy
   obtain ⟨a, h1, h3⟩ := pea_ok he hx
   obtain ⟨b, h2, h4⟩ := pea_ok he hy
   split at h
   ·rename_i r hr'; cases h
    exact .pure hr (fun inv => by simp only [ev, h1, h2, peqNil_ok h3 h4 hr', ok1]) (.v rfl)
   ·cases h
  ·cases h
 | eqPtr neg x y =>
  simp only [pev] at h
  split at h
  ·rename_i i o j o' hx hy
   obtain ⟨a, h1, h3⟩ := pea_ok he hx
   obtain ⟨b, h2, h4⟩ := pea_ok he hy
   split at h
   ·rename_i hij; cases h; subst hij
    obtain ⟨k, hk, rfl⟩ := h3.ptr_inv
    obtain ⟨k', hk', rfl⟩ := h4.ptr_inv
    rw [hk] at hk'; cases hk'
    refine .pure hr (x := .bool ((o == o') != neg)) (fun inv => ?_) (.v rfl)
    simp only [ev, h1, h2, ok1, Nat.beq_refl, cond_true]
    congr 4
    by_cases ho : o = o'
    ·subst ho; simp
    ·have : (({ block := k, off := o, spot := none } : Addr) == { block := k, off := o', spot := none }) = false := by
      apply beq_eq_false_iff_ne.2; intro hh; cases hh; exact ho rfl
     rw [this]; rw [show (o == o') = false from beq_eq_false_iff_ne.2 ho]
   ·cases h
  ·rename_i hno hx hy
   obtain ⟨a, h1, h3⟩ := pea_ok he hx
   obtain ⟨b, h2, h4⟩ := pea_ok he hy
   split at h
   ·rename_i r hr'; cases h
    have hq := peqNil_ok h3 h4 hr'
    refine .pure hr (x := .bool (r != neg)) (fun inv => ?_) (.v rfl)
    simp only [ev, h1, h2]
    split
    ·rename_i a' b' e1 e2
     cases e1; cases e2
     simp [eqNilV] at hq
    ·rename_i e1 e2; cases e1; cases e2; simp only [hq, ok1]
    ·rename_i hno' ; exact absurd rfl (hno' _ _ rfl)
   ·cases h
  ·cases h
 | un op x =>
  simp only [pev] at h
  split at h
  ·rename_i hx
   obtain ⟨h1, _⟩ := pei_ok he hx
   split at h
   ·rename_i r hr'
    split at h
    ·rename_i ho; cases h
     exact .pure hr (fun inv => by simp only [ev, h1, hr', okO]) (.v ho)
    ·cases h
   ·cases h
  ·cases h
 | toInt k x =>
  simp only [pev] at h
  split at h
  ·rename_i hx
   obtain ⟨h1, _⟩ := pei_ok he hx
   cases h
   exact .pure hr (fun inv => by simp only [ev, h1, ok1]) (.v rfl)
  ·cases h
 | iface t x =>
  simp only [pev] at h
  split at h
  ·rename_i hx; cases h
   obtain ⟨y, h1, h2⟩ := pea_ok he hx
   exact .pure hr (fun inv => by simp only [ev, h1, ok1]) (.ifc h2)
  ·cases h
 | func fn first captured =>
  simp only [pev] at h
  split at h
  ·rename_i a b hx hy; cases h
   obtain ⟨xs, h1, h3⟩ := peas_ok he hx
   obtain ⟨ys, h2, h4⟩ := peas_ok he hy
   have g1 := VPL.to_arr (a' := xs.toArray) (by simpa using h3)
   have g2 := VPL.to_arr (a' := ys.toArray) (by simpa using h4)
   exact .pure hr (fun inv => by simp only [ev, h1, h2, ok1]) (.fn g1.1 g1.2 g2.1 g2.2)
  ·cases h
 | makeSlice t bytes zero l c =>
  simp only [pev] at h
  split at h
  ·rename_i l' c' hx hy
   obtain ⟨h1, _⟩ := pei_ok he hx
   obtain ⟨h2, _⟩ := pei_ok he hy
   split at h
   ·rename_i hc; cases h
    obtain ⟨a, b⟩ := hg.newRow (t := t) true (vl_map (repl_one hc.2 c'.toNat))
    exact ⟨_, _, _, fun inv => by simp only [ev, h1, h2, hc.1, and_self, if_true]; rfl, Rho.le_add hg.fresh, a, .slc Rho.add_self (by omega), b, fun _ _ h _ => h⟩
   ·cases h
  ·cases h
 | makeMap =>
  simp only [pev] at h
  cases h
  exact ⟨_, _, _, fun inv => rfl, Rho.le_add hg.fresh, hg.push ⟨H.next, [], fun _ => 0, by simp, Nat.lt_succ_self _, by rw [AH.get_push, if_pos rfl], hg.acc _ (Nat.le_refl _), ⟨.nil, WL.of_vpl .nil⟩, fun x => by simp⟩, .mapr Rho.add_self, Only.push _ _ _, fun _ _ h _ => h⟩
 | slice t size x lo hi mx =>
  simp only [pev] at h
  split at h
  ·rename_i lo' hi' mx' e1 e2 e3
   have k1 := peo_ok he e1
   have k2 := peo_ok he e2
   have k3 := peo_ok he e3
   split at h
   ·rename_i i o len cap hx
    obtain ⟨y, h1, h2⟩ := pea_ok he hx
    rcases h2.slc_inv with ⟨k, hk, hlc, rfl⟩ | ⟨hk, rfl, rfl, rfl, rfl⟩
    case inr =>
     split at h
     ·rename_i l h' m hb
      obtain ⟨b1, b2, b3⟩ := boundsV_le (Nat.le_refl 0) hb
      have : l = 0 ∧ h' = 0 ∧ m = 0 := by omega
      obtain ⟨rfl, rfl, rfl⟩ := this
      split at h
      ·cases h
       refine .pure hr (x := .slice none 0 0) (fun inv => ?_) (by simpa using VP.slcN hk)
       simp only [ev, h1, k1, k2, k3, hb, ok1, Nat.sub_self]
      ·cases h
     ·cases h
    split at h
    ·rename_i l h' m hb
     obtain ⟨b1, b2, b3⟩ := boundsV_le hlc hb
     split at h
     ·rename_i hc; cases h
      refine .pure hr (fun inv => ?_) (.slc hk (by omega))
      have : (Nat.beq l 0 || H.tyOk k t) = true := by
       rcases hc with rfl | hc
       ·simp
       ·cases hrow : prow L i with
        | none => rw [hrow] at hc; simp at hc
        | some tc =>
         rw [hrow] at hc
         obtain ⟨t', cs⟩ := tc
         simp at hc; subst hc
         obtain ⟨hi, r, cells, f', g2, _⟩ := hg.rowK hrow hk
         simp [own_ty g2]
      simp only [ev, h1, k1, k2, k3, hb, this, Option.isNone_none, Bool.and_self, cond_true, ok1, Option.isSome_none, Bool.false_and, cond_false]
     ·cases h
    ·cases h
   ·rename_i t' n cs hx
    obtain ⟨y, h1, h2⟩ := pea_ok he hx
    split at h
    ·split at h
     ·rename_i l h' m hb
      split at h
      ·rename_i hc; cases h
       obtain ⟨rfl, hc⟩ := hc
       obtain ⟨b1, b2, b3⟩ := boundsV_le (Nat.le_refl n) hb
       rcases h2.fz_inv with ⟨rfl, rfl, a, rfl, ha⟩ | ⟨k, o, z, cap, hz, ho, ht, hvl, hn, rfl⟩
       ·have : l = 0 ∧ h' = 0 ∧ m = 0 := by omega
        obtain ⟨rfl, rfl, rfl⟩ := this
        refine .pure hr (x := .slice a 0 0) (fun inv => ?_) (by simp only [cut, List.drop_nil, List.take_nil, Nat.sub_self]; exact .fz0 ha)
        cases a with
        | none => simp only [ev, h1, k1, k2, k3, hb, ok1, Nat.sub_self]
        | some b => simp only [ev, h1, k1, k2, k3, hb, ok1, Nat.sub_self, ha b rfl, beq_self_eq_true, Bool.and_self, cond_true]
       ·obtain ⟨b4, _⟩ := boundsV_up hn hb
        have hle := window_le hvl ho
        have hlh : l * size ≤ h' * size := Nat.mul_le_mul_right _ b1
        have w := window hvl (l * size) ((h' - l) * size)
        refine .pure hr (x := .slice (some ⟨k, o + l * size, none⟩) (h' - l) (cap - l)) (fun inv => ?_) (.fz hz (by omega) ht rfl w.length (fun i a b => F2.idx w i a b) (by omega))
        simp only [ev, h1, k1, k2, k3, b4, frz_ty hg hz ht, Option.isNone_none, Bool.or_true, Bool.and_self, cond_true, ok1, Option.isSome_none, Bool.false_and, cond_false]
      ·cases h
     ·cases h
    ·cases h
   ·rename_i len cap hx
    obtain ⟨y, h1, h2⟩ := pea_ok he hx
    obtain ⟨rfl, _⟩ := h2.v_inv
    split at h
    ·rename_i l h' m hb; cases h
     exact .pure hr (fun inv => by simp only [ev, h1, k1, k2, k3, hb, ok1]) (.v rfl)
    ·cases h
   ·cases h
  ·cases h
 | sliceStr x lo hi =>
  simp only [pev] at h
  split at h
  ·rename_i s lo' hi' e0 e1 e2
   obtain ⟨h1, _⟩ := pei_ok he e0
   have k1 := peo_ok he e1
   have k2 := peo_ok he e2
   split at h
   ·rename_i hb; cases h
    exact .pure hr (fun inv => by simp only [ev, h1, k1, k2, hb, ok1]) (.v rfl)
   ·cases h
  ·cases h
 | sliceArr n size x lo hi mx =>
  simp only [pev] at h
  split at h
  ·rename_i lo' hi' mx' e1 e2 e3
   have k1 := peo_ok he e1
   have k2 := peo_ok he e2
   have k3 := peo_ok he e3
   split at h
   ·rename_i i o hx
    obtain ⟨y, h1, h2⟩ := pea_ok he hx
    obtain ⟨k, hk, rfl⟩ := h2.ptr_inv
    split at h
    ·rename_i l h' m hb; cases h
     obtain ⟨b1, b2, b3⟩ := boundsV_le (Nat.le_refl n) hb
     exact .pure hr (fun inv => by simp only [ev, h1, k1, k2, k3, hb, Option.isNone_none, cond_true, ok1]) (.slc hk (by omega))
    ·cases h
   ·cases h
  ·cases h
 | fieldAddr off x =>
  simp only [pev] at h
  split at h
  ·rename_i i o hx; cases h
   obtain ⟨y, h1, h2⟩ := pea_ok he hx
   obtain ⟨k, hk, rfl⟩ := h2.ptr_inv
   exact .pure hr (fun inv => by simp only [ev, h1, addrV, Option.isNone_none, cond_true, okO]) (.ptr hk)
  ·rename_i cs hx
   split at h
   ·rename_i hoff; cases h
    obtain ⟨y, h1, h2⟩ := pea_ok he hx
    obtain ⟨k, o, z, hz, ho, hvl, rfl⟩ := h2.fp_inv
    have hle := window_le hvl ho
    have w := window_drop hvl off
    exact .pure hr (fun inv => by simp only [ev, h1, addrV, Option.isNone_none, cond_true, okO]) (.fp hz (by omega) rfl w.length (fun i a b => F2.idx w i a b))
   ·cases h
  ·cases h
 | field off agg x =>
  simp only [pev] at h
  split at h
  ·rename_i hx
   obtain ⟨y, h1, h2⟩ := pea_ok he hx
   obtain ⟨a, rfl, hv⟩ := h2.agg_inv
   refine aggOf_ok hr hv h (fun inv x hx => ?_)
   cases agg <;> (simp only [ev, h1]; simp only at hx; rw [hx]; rfl)
  ·cases h
 | indexAddr size x i =>
  simp only [pev] at h
  split at h
  ·rename_i j o len cap k0 n hx hi
   obtain ⟨y, h1, h2⟩ := pea_ok he hx
   obtain ⟨h3, _⟩ := pei_ok he hi
   rcases h2.slc_inv with ⟨k, hk, hlc, rfl⟩ | ⟨hk, rfl, rfl, rfl, rfl⟩
   case inr =>
    split at h
    ·rename_i hc; omega
    ·cases h
   split at h
   ·rename_i hc; cases h
    exact .pure hr (fun inv => by simp only [ev, h1, h3, hc.1, hc.2, and_self, if_true, Option.isNone_none, cond_true, ok1]) (.ptr hk)
   ·cases h
  ·rename_i t len cs k0 n hx hi
   obtain ⟨y, h1, h2⟩ := pea_ok he hx
   obtain ⟨h3, _⟩ := pei_ok he hi
   split at h
   ·rename_i hc; cases h
    obtain ⟨c1, c2, c3⟩ := hc
    rcases h2.fz_inv with ⟨rfl, rfl, a9, rfl, ha9⟩ | ⟨k, o, z, cap, hz, ho, ht, hvl, hn, rfl⟩
    ·omega
    ·have hle := window_le hvl ho
     have w := window hvl (n.toNat * size) size
     have hob : o + n.toNat * size ≤ z.cs.length := by
      simp [cut] at c3
      rcases Nat.eq_zero_or_pos size with rfl | hs
      ·simpa using ho
      ·omega
     exact .pure hr (fun inv => by simp only [ev, h1, h3, c1, c2, and_self, if_true, Option.isNone_none, cond_true, ok1]) (.fp hz hob rfl w.length (fun i a b => F2.idx w i a b))
   ·cases h
  ·cases h
 | indexAddrArr len size x i =>
  simp only [pev] at h
  split at h
  ·rename_i j o k0 n hx hi
   obtain ⟨y, h1, h2⟩ := pea_ok he hx
   obtain ⟨h3, _⟩ := pei_ok he hi
   obtain ⟨k, hk, rfl⟩ := h2.ptr_inv
   split at h
   ·rename_i hc; cases h
    exact .pure hr (fun inv => by simp only [ev, h1, h3, hc.1, hc.2, and_self, if_true, Option.isNone_none, cond_true, ok1]) (.ptr hk)
   ·cases h
  ·rename_i cs k0 n hx hi
   obtain ⟨y, h1, h2⟩ := pea_ok he hx
   obtain ⟨h3, _⟩ := pei_ok he hi
   split at h
   ·rename_i hc; cases h
    obtain ⟨c1, c2, c3⟩ := hc
    obtain ⟨k, o, z, hz, ho, hvl, rfl⟩ := h2.fp_inv
    have hle := window_le hvl ho
    have w := window_drop hvl (n.toNat * size)
    exact .pure hr (fun inv => by simp only [ev, h1, h3, c1, c2, and_self, if_true, Option.isNone_none, cond_true, ok1]) (.fp hz (by omega) rfl w.length (fun i a b => F2.idx w i a b))
   ·cases h
  ·rename_i a k0 n hx hi
   obtain ⟨y, h1, h2⟩ := pea_ok he hx
   obtain ⟨h3, _⟩ := pei_ok he hi
   obtain ⟨rfl, _⟩ := h2.v_inv
   split at h
   ·rename_i z hz
    split at h
    ·rename_i hc; cases h
     obtain ⟨c0, c4, c1, c2, c3⟩ := hc
     obtain ⟨ab, ao, asp⟩ := a
     cases c0
     cases c4
     have hone := glZ_one hz
     refine .pure hr (fun inv => by simp only [ev, h1, h3, c1, c2, and_self, if_true, Option.isNone_none, cond_true, ok1]) (.fp (gz _ _ hz) (o := 0 + n.toNat * size) (by omega) rfl (by simp) (fun i a b => ?_))
     simp only [List.getElem_map, List.getElem_take, List.getElem_drop, Nat.zero_add]
     exact .v (List.all_eq_true.1 hone _ (List.getElem_mem _))
    ·cases h
   ·cases h
  ·cases h
 | indexStr x i =>
  simp only [pev] at h
  split at h
  ·rename_i s k0 n hx hi
   obtain ⟨h1, _⟩ := pei_ok he hx
   obtain ⟨h3, _⟩ := pei_ok he hi
   split at h
   ·rename_i hc
    split at h
    ·rename_i b hb; cases h
     exact .pure hr (fun inv => by simp only [ev, h1, h3, hc, if_true, hb, ok1]) (.v rfl)
    ·cases h
   ·cases h
  ·cases h
 | indexArr len size agg x i =>
  simp only [pev] at h
  split at h
  ·rename_i cs k0 n hx hi
   obtain ⟨y, h1, h2⟩ := pea_ok he hx
   obtain ⟨h3, _⟩ := pei_ok he hi
   obtain ⟨a, rfl, hv⟩ := h2.agg_inv
   split at h
   ·rename_i hc
    refine aggOf_ok hr hv h (fun inv x hx => ?_)
    cases agg <;> (simp only [ev, h1, h3, hc.1, hc.2, and_self, if_true]; simp only at hx; rw [hx]; rfl)
   ·cases h
  ·cases h
 | extract x i =>
  simp only [pev] at h
  split at h
  ·rename_i cs hx
   obtain ⟨y, h1, h2⟩ := pea_ok he hx
   obtain ⟨a, rfl, hv⟩ := h2.tup_inv
   split at h
   ·rename_i hq; cases h
    obtain ⟨c, hc, hw⟩ := hv.get hq
    exact .pure hr (fun inv => by simp only [ev, h1, hc, okO]) hw
   ·cases h
  ·cases h
 | lookup kk zero ok m k =>
  simp only [pev] at h
  split at h
  ·rename_i m' k' z hm hk hz
   obtain ⟨y, h1, h2⟩ := pea_ok he hm
   obtain ⟨h3, _⟩ := pei_ok he hk
   have h4 := ofV_ok (ρ := ρ) (ζ := ζ) hz
   split at h
   ·rename_i es c hmap
    obtain ⟨es', f', h5, h6, h7⟩ := pmap_ok hg h2 hmap
    split at h
    ·rename_i hko
     split at h
     ·rename_i j x0 hf
      rcases pfind_ok h6 hf with ⟨hn, _⟩ | ⟨d, a, x, hr', g1, g2, g3⟩
      ·cases hn
      ·cases hr'
       split at h
       ·rename_i hnl; cases h
        obtain ⟨x', g4, g5⟩ := h7.get g1
        rw [g2] at g4; cases g4
        have g6 := g5.nl hnl
        cases ok with
        | true => exact .pure hr (x := .tuple #[x, .bool true]) (fun inv => by simp only [ev, h1, h3, h5, hko, g3, cond_true, ok1]) (VP.tup' (b := [x, .bool true]) (.cons g6 (.cons (.v rfl) .nil)))
        | false => exact .pure hr (fun inv => by simp only [ev, h1, h3, h5, hko, g3, cond_true, cond_false, ok1]) g6
       ·cases h
     ·rename_i hf; cases h
      rcases pfind_ok h6 hf with ⟨_, g3⟩ | ⟨d, a, x, hr', _⟩
      ·cases ok with
       | true => exact .pure hr (x := .tuple #[zero, .bool false]) (fun inv => by simp only [ev, h1, h3, h5, hko, g3, cond_true, ok1]) (VP.tup' (b := [zero, .bool false]) (.cons h4 (.cons (.v rfl) .nil)))
       | false => exact .pure hr (fun inv => by simp only [ev, h1, h3, h5, hko, g3, cond_true, cond_false, ok1]) h4
      ·cases hr'
     ·cases h
    ·cases h
   ·cases h
  ·cases h
 | assertTo t zero ok x =>
  simp only [pev] at h
  split at h
  ·rename_i t' p' z hx hz
   obtain ⟨y, h1, h2⟩ := pea_ok he hx
   obtain ⟨y', rfl, h3⟩ := h2.ifc_inv
   have h4 := ofV_ok (ρ := ρ) (ζ := ζ) hz
   split at h
   ·rename_i ht; cases h; subst ht
    cases ok with
    | true => exact .pure hr (x := .tuple #[y', .bool true]) (fun inv => by simp only [ev, h1, Nat.beq_refl, cond_true, ok1]) (VP.tup' (b := [y', .bool true]) (.cons h3 (.cons (.v rfl) .nil)))
    | false => exact .pure hr (fun inv => by simp only [ev, h1, Nat.beq_refl, cond_true, cond_false, ok1]) h3
   ·rename_i ht
    have hb : Nat.beq t t' = false := by cases hh : Nat.beq t t' <;> first | rfl | exact absurd (Nat.eq_of_beq_eq_true hh) ht
    cases ok with
    | true => simp only [cond_true] at h; cases h; exact .pure hr (x := .tuple #[zero, .bool false]) (fun inv => by simp only [ev, h1, hb, cond_true, cond_false, ok1]) (VP.tup' (b := [zero, .bool false]) (.cons h4 (.cons (.v rfl) .nil)))
    | false => simp only [cond_false] at h; cases h
  ·rename_i z hx hz
   obtain ⟨y, h1, h2⟩ := pea_ok he hx
   obtain ⟨rfl, _⟩ := h2.v_inv
   have h4 := ofV_ok (ρ := ρ) (ζ := ζ) hz
   cases ok with
   | true => simp only [cond_true] at h; cases h; exact .pure hr (x := .tuple #[zero, .bool false]) (fun inv => by simp only [ev, h1, cond_true, ok1]) (VP.tup' (b := [zero, .bool false]) (.cons h4 (.cons (.v rfl) .nil)))
   | false => simp only [cond_false] at h; cases h
  ·cases h
 | lenStr x =>
  simp only [pev] at h
  split at h
  ·rename_i hx; cases h
   obtain ⟨h1, _⟩ := pei_ok he hx
   exact .pure hr (fun inv => by simp only [ev, h1, ok1]) (.v rfl)
  ·cases h
 | lenSl x =>
  simp only [pev] at h
  split at h
  ·rename_i hx; cases h
   obtain ⟨y, h1, h2⟩ := pea_ok he hx
   rcases h2.slc_inv with ⟨k, hk, hlc, rfl⟩ | ⟨hk, rfl, rfl, rfl, rfl⟩
   ·exact .pure hr (fun inv => by simp only [ev, h1, ok1]) (.v rfl)
   ·exact .pure hr (fun inv => by simp only [ev, h1, ok1]) (.v rfl)
  ·rename_i hx; cases h
   obtain ⟨y, h1, h2⟩ := pea_ok he hx
   rcases h2.fz_inv with ⟨rfl, rfl, a9, rfl, ha9⟩ | ⟨k, o, z, cap, hz, ho, ht, hvl, hn, rfl⟩
   ·exact .pure hr (fun inv => by simp only [ev, h1, ok1]) (.v rfl)
   ·exact .pure hr (fun inv => by simp only [ev, h1, ok1]) (.v rfl)
  ·rename_i hx; cases h
   obtain ⟨y, h1, h2⟩ := pea_ok he hx
   obtain ⟨rfl, _⟩ := h2.v_inv
   exact .pure hr (fun inv => by simp only [ev, h1, ok1]) (.v rfl)
  ·cases h
 | lenMap x =>
  simp only [pev] at h
  split at h
  ·rename_i m' hm
   obtain ⟨y, h1, h2⟩ := pea_ok he hm
   split at h
   ·rename_i es c hmap; cases h
    obtain ⟨es', f', h5, h6, h7⟩ := pmap_ok hg h2 hmap
    exact .pure hr (fun inv => by simp only [ev, h1, h5, ok1, h6.length]) (.v rfl)
   ·cases h
  ·cases h
 | lenArr n => simp only [pev] at h; cases h; exact .pure hr (fun inv => rfl) (.v rfl)
 | append t size bytes s x =>
  simp only [pev] at h
  split at h
  ·rename_i hs hx
   obtain ⟨y, h1, h2⟩ := pea_ok he hs
   obtain ⟨z, h3, h4⟩ := pea_ok he hx
   exact pappend_ok hg h1 h3 h2 h4 h
  ·cases h
 | minMax mx x y =>
  simp only [pev] at h
  split at h
  ·rename_i hx hy
   obtain ⟨h1, _⟩ := pei_ok he hx
   obtain ⟨h2, _⟩ := pei_ok he hy
   split at h
   ·rename_i hc; cases h
    exact .pure hr (fun inv => by simp only [ev, h1, h2, hc, if_true, ok1]) (.v rfl)
   ·cases h
  ·cases h
 | mapUpdate kk m k v =>
  simp only [pev] at h
  split at h
  ·rename_i i k' p' hm hk hv
   obtain ⟨y, h1, h2⟩ := pea_ok he hm
   obtain ⟨h3, _⟩ := pei_ok he hk
   obtain ⟨z, h4, h5⟩ := pea_ok he hv
   obtain ⟨kd, hkd, rfl⟩ := h2.mapr_inv
   split at h
   ·rename_i es c hL
    have hi : i < L.length := (List.getElem?_eq_some_iff.1 hL).1
    obtain ⟨k0, es', f', g1, g2, g3, g4, ⟨g5, g6⟩, g7⟩ := hg.objs _ _ hL
    rw [hkd] at g1; cases g1
    have hg0 : f' kd = 0 ∧ 1 ≤ g i kd := by
     have := hg.sum kd; have := sumN_le (g := fun i => g i kd) hi; have := g7 kd; simp at this; omega
    have put : ∀ (es1 : List (Value × PV × Nat)) (es2 : List MapEntry) (c' : Nat), EL A ρ ζ H f' es1 es2 → RH A ρ ζ (L.set i (.map es1 c')) (H.put kd (.map es2 c')) ∧ Only H (H.put kd (.map es2 c')) A := by
     intro es1 es2 c' hel
     have hkp := Kp.putObj (o' := .map es2 c') g3 noRow_map
     refine ⟨⟨g, hg.set hi hg0.2 hkp rfl (fun j o hj => ?_) ⟨kd, es2, f', hkd, g2, by rw [AH.get_put, if_pos rfl], g4, ⟨hel.1, hel.2.kp hkp (.refl _) (.refl _) (fun _ h => h) (fun x hx => by subst hx; exact hg0.1)⟩, g7⟩⟩, (Only.put H kd _).mono (fun j hj => by subst hj; exact g4)⟩
     rw [AH.get_put] at hj
     show j < H.next
     split at hj
     ·omega
     ·exact hg.wf _ _ hj
    split at h
    ·rename_i hko
     split at h
     ·rename_i j x0 hf; cases h
      rcases pfind_ok g5 hf with ⟨hn, _⟩ | ⟨d, a, x, hr', q1, q2, q3⟩
      ·cases hn
      ·cases hr'
       have hel : EL A ρ ζ H f' (es.modify (0 + d) fun e => (k', p', e.2.2)) (es'.modify (0 + d) fun e => { e with key := k', val := z }) := by
        refine ⟨?_, ?_⟩
        ·refine F2.of_idx (by simp [g5.length]) (fun i a b => ?_)
         simp only [List.getElem_modify]
         split
         ·exact ⟨rfl, (F2.idx g5 i (by simpa using a) (by simpa using b)).2⟩
         ·exact F2.idx g5 i (by simpa using a) (by simpa using b)
        ·have hd1 : 0 + d < es.length := by have := (List.getElem?_eq_some_iff.1 q1).1; simp at this; omega
         have hd2 : 0 + d < es'.length := by have := (List.getElem?_eq_some_iff.1 q2).1; simp at this; omega
         have e1 := modify_map (fun x : Value × PV × Nat => x.2.1) (fun e => (k', p', e.2.2)) p' (fun _ => rfl) es (0 + d) hd1
         have e2 := modify_map (fun x : MapEntry => x.val) (fun e => { e with key := k', val := z }) z (fun _ => rfl) es' (0 + d) hd2
         rw [e1, e2]
         have := g6.splice (o := 0 + d) (.cons h5 .nil : VPL ρ ζ [p'] [z])
         simpa [Den.splice] using this
       obtain ⟨hA, hB⟩ := put _ _ c hel
       exact ⟨undefV, _, ρ, fun inv => by simp only [ev, h1, h3, h4, g3, hko, q3, cond_true, ok1], .refl _, hA, VP.tup (a := []) (a' := #[]) rfl (fun i h => by simp at h), hB, fun h => by cases h⟩
     ·rename_i hf; cases h
      rcases pfind_ok g5 hf with ⟨_, q3⟩ | ⟨d, a, x, hr', _⟩
      ·obtain ⟨hA, hB⟩ := put (es ++ [(k', p', c)]) (es' ++ [{ key := k', val := z, born := c }]) (c + 1) ⟨g5.append (.cons ⟨rfl, rfl⟩ .nil), by
        rw [List.map_append, List.map_append]
        exact (g6.append (WL.of_vpl (f := fun _ => 0) (.cons h5 .nil))).le (fun x => by simp)⟩
       exact ⟨undefV, _, ρ, fun inv => by simp only [ev, h1, h3, h4, g3, hko, q3, cond_true, ok1], .refl _, hA, VP.tup (a := []) (a' := #[]) rfl (fun i h => by simp at h), hB, fun h => by cases h⟩
      ·cases hr'
     ·cases h
    ·cases h
   ·cases h
  ·cases h
 | rangeStr x =>
  simp only [pev] at h
  split at h
  ·rename_i s hx; cases h
   obtain ⟨h1, _⟩ := pei_ok he hx
   exact ⟨_, _, _, fun inv => by simp only [ev, h1]; rfl, Rho.le_add hg.fresh, hg.push ⟨H.next, Rho.add_self, Nat.lt_succ_self _, by rw [AH.get_push, if_pos rfl], hg.acc _ (Nat.le_refl _), by simp⟩, .ptr Rho.add_self, Only.push _ _ _, fun _ _ h _ => h⟩
  ·cases h
 | nextStr x =>
  simp only [pev] at h
  split at h
  ·rename_i i hx
   obtain ⟨y, h1, h2⟩ := pea_ok he hx
   obtain ⟨k, hk, rfl⟩ := h2.ptr_inv
   split at h
   ·rename_i s pos hL
    have hi : i < L.length := (List.getElem?_eq_some_iff.1 hL).1
    obtain ⟨k0, g1, g2, g3, g4, g5⟩ := hg.objs _ _ hL
    rw [hk] at g1; cases g1
    split at h
    ·rename_i hc; cases h
     have hkp := Kp.putObj (o' := .iter s (pos + (Utf8.decode s pos).2)) g3 noRow_iter
     refine ⟨_, _, ρ, fun inv => by simp only [ev, h1, g3, Nat.ble_eq_true_of_le hc, cond_true]; rfl, .refl _, ⟨g, hg.set hi g5 hkp rfl (fun j o hj => ?_) ⟨k, hk, g2, by rw [AH.get_put, if_pos rfl], g4, g5⟩⟩, VP.tup' (.cons (.v rfl) (.cons (.v rfl) (.cons (.v rfl) .nil))), (Only.put H k _).mono (fun j hj => by subst hj; exact g4), fun h => by cases h⟩
     rw [AH.get_put] at hj
     show j < H.next
     split at hj
     ·omega
     ·exact hg.wf _ _ hj
    ·rename_i hc; cases h
     have hb : Nat.ble (pos + 1) s.size = false := by
      cases hh : Nat.ble (pos + 1) s.size
      ·rfl
      ·exact absurd (Nat.le_of_ble_eq_true hh) hc
     exact .pure hr (fun inv => by simp only [ev, h1, g3, hb, cond_false]; rfl) (VP.tup' (.cons (.v rfl) .nil))
   ·cases h
  ·cases h
 | clear zero x =>
  simp only [pev] at h
  split at h
  ·rename_i i o len cap hx
   obtain ⟨y, a1, hv⟩ := pea_ok he hx
   split at h
   ·rename_i hz; cases h
    subst hz
    rcases hv.slc_inv with ⟨k, hk, _, rfl⟩ | ⟨hk, _, _, _, rfl⟩
    ·exact .pure hr (fun inv => by simp only [ev, a1, beq_self_eq_true, cond_true]; rfl) (VP.tup (a := []) (a' := #[]) rfl (fun i h => by simp at h))
    ·exact .pure hr (fun inv => by simp only [ev, a1, beq_self_eq_true, cond_true]; rfl) (VP.tup (a := []) (a' := #[]) rfl (fun i h => by simp at h))
   ·rename_i hz
    split at h
    ·rename_i t cs hrow
     split at h
     ·rename_i hc; cases h
      rcases hv.slc_inv with ⟨k, hk, _, rfl⟩ | ⟨hk, _, h0, _, rfl⟩
      case inr => exact absurd h0 hz
      obtain ⟨hi, r, cells, f', g2, g3, g4, g5, g6⟩ := hg.rowK hrow hk
      obtain ⟨H1, a, b, c, d⟩ := g2.write (splice cells o (repl zero len))
      have hkp := Kp.of_own g2 c
      have hg0 : f' r = 0 ∧ 1 ≤ g i r := by
       have := hg.sum r; have := sumN_le (g := fun i => g i r) hi; have := g6 r; simp at this; omega
      have hvs : VPL ρ ζ ((repl zero len).map .v) (repl zero len) := F2.of_idx (by simp) fun i h1 h2 => by
       simp only [List.getElem_map]
       exact .v (List.all_eq_true.1 (repl_one hc.2 len) _ (List.getElem_mem _))
      refine ⟨_, H1, ρ, fun inv => ?_, .refl _, ⟨g, hg.set hi hg0.2 hkp d (write_wf a hg.wf) (.inl ⟨k, r, _, f', hk, b, g3, g4, ?_, g6⟩)⟩, VP.tup (a := []) (a' := #[]) rfl (fun i h => by simp at h), c.mono ?_, fun h => by cases h⟩
      ·have e2 : Nat.ble (o + len * zero.length) cells.length = true := Nat.ble_eq_true_of_le (by rw [← g5.length]; exact hc.1)
       have e3 : (len == 0) = false := by simpa using hz
       simp only [ev, a1, e3, cond_false, g2.rowAt.row, e2, hc.2, Option.isNone_none, Bool.and_self, cond_true, a, ok1]
      ·exact (g5.kp hkp (.refl _) (.refl _) (fun _ h => h) (fun x hx => by subst hx; exact hg0.1)).splice hvs
      ·rintro j (rfl | rfl)
       ·exact g4
       ·exact g3
     ·cases h
    ·cases h
  ·cases h
 | _ => simp only [pev] at h; cases h
end Go.Den
/- Pen, part G: code and calls on trees. -/
namespace Go.Den
variable {ρ ρ' : Rho} {ζ ζ' : Zeta} {A A' : Nat → Prop} {H H' : AH} {f f' : Nat → Nat} {E E' : PEnv} {e : Env} {L L' : List LObj} {g : Nat → Nat → Nat} {p : PV} {q : Bool}
structure Fx where
 A : Nat → Prop
 H0 : AH
 ρ0 : Rho
 ζ0 : Zeta
 gz : GZ ζ0
structure RS (n0 : Nat) (fx : Fx) (ρ : Rho) (ζ : Zeta) (E : PEnv) (L : List LObj) (e : Env) (H : AH) : Prop where
 rh : RH fx.A ρ ζ L H
 env : EnvP ρ ζ E e
 only : Only fx.H0 H fx.A
 base : fx.ρ0.Le ρ
 dom : ∀ i k, fx.ρ0 i = some k → i < n0
 len : n0 ≤ L.length
 zet : fx.ζ0.X fx.A ζ
theorem RS.gz {n0 : Nat} {fx : Fx} (hs : RS n0 fx ρ ζ E L e H) : GZ ζ := fun k z h => hs.zet.le k z (fx.gz k z h)
theorem Only.transA {H H1 H2 : AH} {S : Nat → Prop} (h : Only H H1 S) (h' : Only H1 H2 S) : Only H H2 S := h.trans h' (fun _ hj => .inl hj)
def psetD (E : PEnv) (d : Option Nat) (p : PV) : PEnv := match d with | some t => E.set t p | none => E
def pwanted (E : PEnv) : Option (Nat × Bool) → Option Bool
 | none => some true
 | some (t, b) => match E.get t with
  | some (.v (.bool c)) => some (c == b)
  | some _ => some false
  | none => none
variable (F : FuncId → Option IFunc) (X0 X : Ext)
def PF (q : Bool) (fv : PV) (args : List PV) (L : List LObj) (K : PV → List LObj → Prop) : Prop :=
 ∀ (A : Nat → Prop) (ρ : Rho) (ζ : Zeta) (H : AH) (dv : Value) (dargs : List Value), GZ ζ → RH A ρ ζ L H → VP ρ ζ fv dv → VPL ρ ζ args dargs →
  wpF F X0 X dv dargs (fun v' H' => ∃ ρ' ζ' v L', ζ.X A ζ' ∧ ρ.Le ρ' ∧ RH A ρ' ζ' L' H' ∧ VP ρ' ζ' v v' ∧ Only H H' A ∧ (q = true → Only H H' (H.next ≤ ·)) ∧ L.length ≤ L'.length ∧ K v L') H
def PC (n0 : Nat) (c : ICode) (Q : Ex → PEnv → List LObj → Prop) (E : PEnv) (L : List LObj) : Prop :=
 ∀ (fx : Fx) (ρ : Rho) (ζ : Zeta) (e : Env) (H : AH), RS n0 fx ρ ζ E L e H → wpC F X0 X c (fun x e' H' => ∃ ρ' ζ' E' L', RS n0 fx ρ' ζ' E' L' e' H' ∧ Q x E' L') e H
def pK (K : PV → List LObj → Prop) : PRes → Prop
 | some (p, L', _) => K p L'
 | none => False
def pKq (K : PV → List LObj → Prop) : PRes → Prop
 | some (p, L', true) => K p L'
 | _ => False
def pnilK (K : PV → List LObj → Prop) (L : List LObj) : PRes → Option PV → Option PV → Prop
 | some (p, L', _), _, _ => K p L'
 | none, some (.fz _ 0 _), some (.v (.slice none _ _)) => ∀ b, K (.v (.bool b)) L
 | none, some (.slc _ _ 0 _), some (.v (.slice none _ _)) => ∀ b, K (.v (.bool b)) L
 | none, _, _ => False
def PI (op : IOp) (K : PV → List LObj → Prop) (E : PEnv) (L : List LObj) : Prop :=
 match op with
 | .call f as => ∃ fv, pea E f = some fv ∧ ∃ args, peas E as = some args ∧ PF F X0 X false fv args L K
 | .eqNil .slice neg x y => pnilK K L (pev E L (.eqNil .slice neg x y)) (pea E x) (pea E y)
 | op => pK K (pev E L op)
def PJ (op : IOp) (K : PV → List LObj → Prop) (E : PEnv) (L : List LObj) : Prop :=
 match op with
 | .call f as => ∃ fv, pea E f = some fv ∧ ∃ args, peas E as = some args ∧ PF F X0 X true fv args L K
 | op => pKq K (pev E L op)
def PO : List Ins → (PEnv → List LObj → Prop) → PEnv → List LObj → Prop
 | [], Q, E, L => Q E L
 | i :: l, Q, E, L => if pwanted E i.guard = some true then PI F X0 X i.op (fun p L' => PO l Q (psetD E i.dst p) L') E L
  else if pwanted E i.guard = some false then PO l Q (psetD E i.dst (.tup [])) L else False
def PQ : List Ins → (PEnv → List LObj → Prop) → PEnv → List LObj → Prop
 | [], Q, E, L => Q E L
 | i :: l, Q, E, L => if pwanted E i.guard = some true then PJ F X0 X i.op (fun p L' => PQ l Q (psetD E i.dst p) L') E L
  else if pwanted E i.guard = some false then PQ l Q (psetD E i.dst (.tup [])) L else False
variable {F X0 X}
theorem PF.mono {fv : PV} {args : List PV} {K K' : PV → List LObj → Prop} (h : PF F X0 X q fv args L K) (hk : ∀ v L, K v L → K' v L) : PF F X0 X q fv args L K' := by
 intro A ρ ζ H dv dargs h0 h1 h2 h3
 exact (h A ρ ζ H dv dargs h0 h1 h2 h3).mono fun v' H' ⟨ρ', ζ', v, L', a, b, c, d, e, f, g, k⟩ => ⟨ρ', ζ', v, L', a, b, c, d, e, f, g, hk _ _ k⟩
theorem PC.mono {n0 : Nat} {c : ICode} {Q Q' : Ex → PEnv → List LObj → Prop} (h : PC F X0 X n0 c Q E L) (hq : ∀ x E L, Q x E L → Q' x E L) : PC F X0 X n0 c Q' E L := by
 intro fx ρ ζ e H hs
 exact (h fx ρ ζ e H hs).mono fun x e' H' ⟨ρ', ζ', E', L', a, b⟩ => ⟨ρ', ζ', E', L', a, hq _ _ _ b⟩
theorem pwanted_ok (he : EnvP ρ ζ E e) {gd : Option (Nat × Bool)} {b : Bool} (h : pwanted E gd = some b) : wantedI e gd = some b := by
 cases gd with
 | none => exact h
 | some tb =>
  obtain ⟨t, b0⟩ := tb
  simp only [pwanted] at h
  simp only [wantedI]
  split at h
  ·rename_i c hc
   obtain ⟨x, h1, h2⟩ := he t _ hc
   obtain ⟨rfl, _⟩ := h2.v_inv
   rw [h1]; exact h
  ·rename_i p hno hp
   obtain ⟨x, h1, h2⟩ := he t _ hp
   rw [h1]
   cases h
   cases x <;> first | rfl | skip
   rename_i c
   exfalso
   cases h2 with
   | v _ => exact hno c rfl
  ·cases h
theorem RS.step {n0 : Nat} {fx : Fx} (hs : RS n0 fx ρ ζ E L e H) {d : Option Nat} {x : Value} (hr : ρ.Le ρ') (hz : ζ.X fx.A ζ') (h : RH fx.A ρ' ζ' L' H') (hv : VP ρ' ζ' p x) (ho : Only H H' fx.A) (hl : L.length ≤ L'.length) :
  RS n0 fx ρ' ζ' (psetD E d p) L' (setD e d x) H' := by
 refine ⟨h, ?_, hs.only.transA ho, hs.base.trans hr, hs.dom, Nat.le_trans hs.len hl, hs.zet.trans hz⟩
 cases d with
 | none => exact hs.env.mono hr hz.le
 | some d => exact (hs.env.mono hr hz.le).set hv
theorem VP.undef : VP ρ ζ (.tup []) undefV := VP.tup (a := []) (a' := #[]) rfl (fun i h => by simp at h)
theorem pload_len {agg : Option Nat} {a : PV} (h : pload L agg a = some (p, L', q)) : L.length ≤ L'.length := by
 unfold pload at h
 repeat' (split at h)
 all_goals first | cases h | skip
 all_goals first | exact Nat.le_refl _ | simp
theorem pappend_len {t : TypeId} {size bytes : Nat} {s x : PV} (h : pappend L t size bytes s x = some (p, L', q)) : L.length ≤ L'.length := by
 unfold pappend at h
 repeat' (split at h)
 all_goals first | cases h | skip
 all_goals first | exact Nat.le_refl _ | simp
theorem aggOf_len {cs : List PV} {o : Nat} {agg : Option Nat} (h : aggOf' cs o agg L = some (p, L', q)) : L.length ≤ L'.length := by
 unfold aggOf' at h
 repeat' (split at h)
 all_goals first | cases h | skip
 all_goals exact Nat.le_refl _
theorem pev_len {op : IOp} (h : pev E L op = some (p, L', q)) : L.length ≤ L'.length := by
 unfold pev at h
 repeat' (split at h)
 all_goals first | cases h | skip
 all_goals first
  | exact Nat.le_refl _
  | exact pload_len h
  | exact pappend_len h
  | exact aggOf_len h
  | (simp only [cond_eq_ite] at h; split at h <;> cases h <;> exact Nat.le_refl _)
  | (simp; done)
theorem PO_ok {n0 : Nat} {fx : Fx} {Q : PEnv → List LObj → Prop} : ∀ (l : List Ins) {ρ : Rho} {ζ : Zeta} {E : PEnv} {L : List LObj} {e : Env} {H : AH}, RS n0 fx ρ ζ E L e H → PO F X0 X l Q E L → wpO F X0 X l (fun e' H' => ∃ ρ' ζ' E' L', RS n0 fx ρ' ζ' E' L' e' H' ∧ Q E' L') e H := by
 intro l
 induction l with
 | nil => intro ρ ζ E L e H hs h; exact ⟨ρ, ζ, E, L, hs, h⟩
 | cons i l ih =>
  intro ρ ζ E L e H hs h
  simp only [PO] at h
  split at h
  ·rename_i hw
   refine ⟨true, pwanted_ok hs.env hw, ?_⟩
   rw [if_pos rfl]
   unfold PI at h
   split at h
   ·rename_i fa as hop
    obtain ⟨fv, h1, args, h2, h3⟩ := h
    obtain ⟨dv, a1, a2⟩ := pea_ok hs.env h1
    obtain ⟨dargs, b1, b2⟩ := peas_ok hs.env h2
    rw [hop]
    refine wpI_call a1 b1 ((h3 fx.A ρ ζ H dv dargs hs.gz hs.rh a2 b2).mono ?_)
    rintro v' H' ⟨ρ', ζ', v, L', c1, c2, c3, c4, c5, c6, c7, c8⟩
    exact ih (hs.step c2 c1 c3 c4 c5 c7) c8
   ·rename_i neg x y hop
    rw [hop]
    have plain : ∀ {p L' q}, pev E L (.eqNil .slice neg x y) = some (p, L', q) → PO F X0 X l Q (psetD E i.dst p) L' → wpI F X0 X (.eqNil .slice neg x y) (fun v H' => wpO F X0 X l (fun e' H' => ∃ ρ' ζ' E' L', RS n0 fx ρ' ζ' E' L' e' H' ∧ Q E' L') (setD e i.dst v) H') e H := by
     intro p L' q hp h
     obtain ⟨g, hg⟩ := hs.rh
     obtain ⟨x, H', ρ', c1, c2, c3, c4, c5, c6⟩ := pev_ok hs.gz hg hs.env hp
     exact ⟨x, H', .all fun m => c1 _, ih (hs.step c2 (.refl _ _) c3 c4 c5 (pev_len hp)) h⟩
    unfold pnilK at h
    split at h
    ·rename_i hp; exact plain hp h
    ·rename_i hp hx hy
     obtain ⟨a, a1, a2⟩ := pea_ok hs.env hx
     obtain ⟨b, b1, b2⟩ := pea_ok hs.env hy
     have key : ∃ r, eqNilV .slice a b = some r := by
      rw [b2.v_inv.1]
      rcases a2.fz_inv with ⟨_, rfl, a9, rfl, _⟩ | ⟨k, o, z, cap, _, _, _, _, _, rfl⟩
      ·cases a9 <;> exact ⟨_, rfl⟩
      ·exact ⟨_, rfl⟩
     obtain ⟨r, hr⟩ := key
     exact ⟨.bool (r != neg), H, .all fun m => by simp only [ev, a1, b1, hr, ok1], ih (hs.step (.refl _) (.refl _ _) hs.rh (.v rfl) (Only.refl _ _) (Nat.le_refl _)) (h _)⟩
    ·rename_i hp hx hy
     obtain ⟨a, a1, a2⟩ := pea_ok hs.env hx
     obtain ⟨b, b1, b2⟩ := pea_ok hs.env hy
     have key : ∃ r, eqNilV .slice a b = some r := by
      rw [b2.v_inv.1]
      rcases a2.slc_inv with ⟨k, _, _, rfl⟩ | ⟨_, _, _, _, rfl⟩
      ·exact ⟨_, rfl⟩
      ·exact ⟨_, rfl⟩
     obtain ⟨r, hr⟩ := key
     exact ⟨.bool (r != neg), H, .all fun m => by simp only [ev, a1, b1, hr, ok1], ih (hs.step (.refl _) (.refl _ _) hs.rh (.v rfl) (Only.refl _ _) (Nat.le_refl _)) (h _)⟩
    ·exact h.elim
   ·unfold pK at h
    split at h
    ·rename_i p L' q hp
     obtain ⟨g, hg⟩ := hs.rh
     obtain ⟨x, H', ρ', c1, c2, c3, c4, c5, c6⟩ := pev_ok hs.gz hg hs.env hp
     exact ⟨x, H', .all fun m => c1 _, ih (hs.step c2 (.refl _ _) c3 c4 c5 (pev_len hp)) h⟩
    ·exact h.elim
  ·split at h
   ·rename_i hw
    refine ⟨false, pwanted_ok hs.env hw, ?_⟩
    rw [if_neg (by simp)]
    exact ih (hs.step (.refl _) (.refl _ _) hs.rh VP.undef (Only.refl _ _) (Nat.le_refl _)) h
   ·exact h.elim
theorem Kp.low (H : AH) (l : Nat) : Kp H ⟨H.objs, H.next, l⟩ (fun _ => False) :=
 ⟨Nat.le_refl _, fun _ _ _ _ _ h => ⟨h.lt, h.own⟩, fun _ _ _ _ h => ⟨h.lt, h.le, h.at_, h.root⟩, fun _ _ _ _ h _ => h⟩
theorem RHg.low (h : RHg A ρ ζ L H g) (l : Nat) : RHg A ρ ζ L ⟨H.objs, H.next, l⟩ g :=
 ⟨fun i o hi => (h.objs i o hi).kp (Kp.low H l) (.refl _) (.refl _) (fun _ h => h) (fun _ h => h.elim), h.sum, fun k z hz => let ⟨a, b⟩ := h.frz k z hz; ⟨(Kp.low H l).frz _ _ _ id a, b⟩, h.bnd, h.acc, h.dom, h.wf⟩
theorem RH.low (h : RH A ρ ζ L H) (l : Nat) : RH A ρ ζ L ⟨H.objs, H.next, l⟩ := let ⟨g, x⟩ := h; ⟨g, x.low l⟩
theorem PQ_ok {n0 : Nat} {fx : Fx} {Q : PEnv → List LObj → Prop} : ∀ (l : List Ins) {ρ : Rho} {ζ : Zeta} {E : PEnv} {L : List LObj} {e : Env} {H : AH}, RS n0 fx ρ ζ E L e H → PQ F X0 X l Q E L → wpQ F X0 X l (fun e' H' => ∃ ρ' ζ' E' L', RS n0 fx ρ' ζ' E' L' e' H' ∧ Q E' L') e H := by
 intro l
 induction l with
 | nil => intro ρ ζ E L e H hs h; exact ⟨ρ, ζ, E, L, hs, h⟩
 | cons i l ih =>
  intro ρ ζ E L e H hs h
  simp only [PQ] at h
  split at h
  ·rename_i hw
   refine ⟨true, pwanted_ok hs.env hw, ?_⟩
   rw [if_pos rfl]
   have back : ∀ {H' : AH} {S : Nat → Prop}, Only ⟨H.objs, H.next, H.next⟩ H' S → Only H ⟨H'.objs, H'.next, H.low⟩ S := fun ho => ⟨ho.next, ho.get, fun b h1 _ _ => h1⟩
   unfold PJ at h
   split at h
   ·rename_i fa as hop
    obtain ⟨fv, h1, args, h2, h3⟩ := h
    obtain ⟨dv, a1, a2⟩ := pea_ok hs.env h1
    obtain ⟨dargs, b1, b2⟩ := peas_ok hs.env h2
    rw [hop]
    refine wpI_call a1 b1 ((h3 fx.A ρ ζ _ dv dargs hs.gz (hs.rh.low H.next) a2 b2).mono ?_)
    rintro v' H' ⟨ρ', ζ', v, L', c1, c2, c3, c4, c5, c6, c7, c8⟩
    refine ⟨(c6 rfl).low _ (Nat.le_refl _) (Nat.le_refl _) (fun j hj => hj), ?_⟩
    exact ih (hs.step c2 c1 (c3.low _) c4 (back c5) c7) c8
   ·unfold pKq at h
    split at h
    ·rename_i p L' hp
     obtain ⟨g, hg⟩ := hs.rh
     obtain ⟨x, H', ρ', c1, c2, c3, c4, c5, c6⟩ := pev_ok hs.gz (hg.low H.next) hs.env hp
     exact ⟨x, H', .all fun m => c1 _, c6 rfl _ (Nat.le_refl _) (Nat.le_refl _), ih (hs.step c2 (.refl _ _) (c3.low _) c4 (back c5) (pev_len hp)) h⟩
    ·exact h.elim
  ·split at h
   ·rename_i hw
    refine ⟨false, pwanted_ok hs.env hw, ?_⟩
    rw [if_neg (by simp)]
    exact ih (hs.step (.refl _) (.refl _ _) hs.rh VP.undef (Only.refl _ _) (Nat.le_refl _)) h
   ·exact h.elim
variable {n0 : Nat} {Q : Ex → PEnv → List LObj → Prop}
theorem PC_skip (h : Q .norm E L) : PC F X0 X n0 .skip Q E L := fun _ _ _ _ _ hs => wpC_skip ⟨_, _, _, _, hs, h⟩
theorem PC_exit {id : Nat} (h : Q (.exit id) E L) : PC F X0 X n0 (.exit id) Q E L := fun _ _ _ _ _ hs => wpC_exit ⟨_, _, _, _, hs, h⟩
theorem PC_ret (h : Q .ret E L) : PC F X0 X n0 .ret Q E L := fun _ _ _ _ _ hs => wpC_ret ⟨_, _, _, _, hs, h⟩
theorem PC_ops {l : List Ins} (h : PO F X0 X l (Q .norm) E L) : PC F X0 X n0 (.ops l) Q E L := fun _ _ _ _ _ hs => wpC_ops (PO_ok l hs h)
theorem PC_draw {l l' : List Ins} (h : PQ F X0 X l (PO F X0 X l' (Q .norm)) E L) : PC F X0 X n0 (.draw l l') Q E L := fun _ _ _ _ _ hs =>
 wpC_draw (wpQ_to l (fun _ _ ⟨_, _, _, _, hs, h⟩ => PO_ok l' hs h) (PQ_ok l hs h))
def pnext (k : PEnv → List LObj → Prop) (Q : Ex → PEnv → List LObj → Prop) : Ex → PEnv → List LObj → Prop
 | .norm, E, L => k E L
 | x, E, L => Q x E L
theorem PC_seq {a b : ICode} (h : PC F X0 X n0 a (pnext (PC F X0 X n0 b Q) Q) E L) : PC F X0 X n0 (.seq a b) Q E L := by
 intro fx ρ ζ e H hs
 refine wpC_seq ((h fx ρ ζ e H hs).mono ?_)
 rintro x e' H' ⟨ρ', ζ', E', L', hs', h'⟩
 cases x with
 | norm => exact h' fx ρ' ζ' e' H' hs'
 | _ => exact ⟨_, _, _, _, hs', h'⟩
theorem PC_cond {c : Arg} {a b : ICode} {t : Bool} (hc : pei E c = some (.bool t)) (h : if t = true then PC F X0 X n0 a Q E L else PC F X0 X n0 b Q E L) : PC F X0 X n0 (.cond c a b) Q E L := by
 intro fx ρ ζ e H hs
 refine wpC_cond (pei_ok hs.env hc).1 ?_
 cases t
 ·rw [if_neg (by simp)] at h ⊢; exact h _ _ _ _ _ hs
 ·rw [if_pos rfl] at h ⊢; exact h _ _ _ _ _ hs
def pout (id : Nat) (Q : Ex → PEnv → List LObj → Prop) : Ex → PEnv → List LObj → Prop
 | .exit j, E, L => if j = id then Q .norm E L else Q (.exit j) E L
 | x, E, L => Q x E L
theorem PC_block {id : Nat} {c : ICode} (h : PC F X0 X n0 c (pout id Q) E L) : PC F X0 X n0 (.block id c) Q E L := by
 intro fx ρ ζ e H hs
 refine wpC_block ((h fx ρ ζ e H hs).mono ?_)
 rintro x e' H' ⟨ρ', ζ', E', L', hs', h'⟩
 cases x with
 | exit j =>
  simp only [outC, pout] at h' ⊢
  by_cases hj : j = id
  ·rw [if_pos hj] at h' ⊢; exact ⟨_, _, _, _, hs', h'⟩
  ·rw [if_neg hj] at h' ⊢; exact ⟨_, _, _, _, hs', h'⟩
 | _ => exact ⟨_, _, _, _, hs', h'⟩
def Abs (n0 : Nat) (E : PEnv) (L : List LObj) (E' : PEnv) (L' : List LObj) : Prop := ∀ (fx : Fx) (ρ : Rho) (ζ : Zeta) (e : Env) (H : AH), RS n0 fx ρ ζ E L e H → ∃ ρ' ζ', RS n0 fx ρ' ζ' E' L' e H
theorem Abs.refl (n0 : Nat) (E : PEnv) (L : List LObj) : Abs n0 E L E L := fun _ ρ ζ _ _ h => ⟨ρ, ζ, h⟩
theorem Abs.trans {E2 : PEnv} {L2 : List LObj} (h : Abs n0 E L E' L') (h' : Abs n0 E' L' E2 L2) : Abs n0 E L E2 L2 := fun fx ρ ζ e H hs => let ⟨ρ', ζ', x⟩ := h fx ρ ζ e H hs; h' fx ρ' ζ' e H x
theorem PC.abs {c : ICode} (ha : Abs n0 E L E' L') (h : PC F X0 X n0 c Q E' L') : PC F X0 X n0 c Q E L := fun fx ρ ζ e H hs => let ⟨ρ', ζ', x⟩ := ha fx ρ ζ e H hs; h fx ρ' ζ' e H x
theorem PC_loop {c : ICode} (J : Nat → PEnv → List LObj → Prop) (round : ∀ k E L, J k E L → PC F X0 X n0 c (pnext (fun E' L' => ∃ k' E'' L'', k' < k ∧ Abs n0 E' L' E'' L'' ∧ J k' E'' L'') Q) E L) {k : Nat} (h : J k E L) : PC F X0 X n0 (.loop c) Q E L := by
 intro fx ρ ζ e H hs
 refine wpC_loop (fun k e H => ∃ ρ ζ E L, RS n0 fx ρ ζ E L e H ∧ J k E L) ?_ (k := k) ⟨_, _, _, _, hs, h⟩
 rintro k e H ⟨ρ, ζ, E, L, hs, hj⟩
 refine (round k E L hj fx ρ ζ e H hs).mono ?_
 rintro x e' H' ⟨ρ', ζ', E', L', hs', h'⟩
 cases x with
 | norm =>
  obtain ⟨k', E2, L2, hk, ha, hj'⟩ := h'
  obtain ⟨ρ2, ζ2, hs2⟩ := ha _ _ _ _ _ hs'
  exact ⟨k', hk, _, _, _, _, hs2, hj'⟩
 | _ => exact ⟨_, _, _, _, hs', h'⟩
def penv (args : List PV) : PEnv := T.ofFrom 0 args
theorem penv_ok {args : List PV} {dargs : List Value} (h : VPL ρ ζ args dargs) : EnvP ρ ζ (penv args) (T.ofFrom 0 dargs) := by
 intro t p hp
 unfold penv at hp
 rw [T.get_ofFrom] at hp ⊢
 simp only [Nat.zero_le, if_true, Nat.sub_zero] at hp ⊢
 exact h.get hp
def ploadv (L : List LObj) (agg : Option Nat) : PV → Option PV
 | .ptr i o => match prow L i with
  | some (_, cs) => match agg with
   | none => match cs[o]? with
    | some q => if nl q = true then some q else none
    | none => none
   | some n => if o + n ≤ cs.length ∧ allNl (cut cs o n) then some (.agg (cut cs o n)) else none
  | none => none
 | _ => none
theorem ploadv_ok (hr : RH A ρ ζ L H) {agg : Option Nat} {a : PV} {y : Value} (hv : VP ρ ζ a y) (h : ploadv L agg a = some p) : ∃ x, loadV H agg y = some x ∧ VP ρ ζ p x := by
 obtain ⟨g, hg⟩ := hr
 unfold ploadv at h
 split at h
 ·rename_i i o
  obtain ⟨k, hk, rfl⟩ := hv.ptr_inv
  split at h
  ·rename_i t cs hrow
   obtain ⟨hi, r, cells, f', h2, h3, h4, h5, h6⟩ := hg.rowK hrow hk
   have hrw := h2.rowAt.row
   split at h
   ·split at h
    ·rename_i y hy
     obtain ⟨c, hc, hw⟩ := h5.get hy
     split at h
     ·rename_i hn
      cases h
      exact ⟨c, by simp only [loadV, hrw, hc, Option.isNone_none, cond_true], hw.nl hn⟩
     ·cases h
    ·cases h
   ·rename_i n
    split at h
    ·rename_i hc
     cases h
     obtain ⟨fa, fb, w1, w2, _⟩ := h5.take o
     obtain ⟨fc, fd, w4, w5, _⟩ := w2.take n
     have hvl : VPL ρ ζ (cut cs o n) ((cells.drop o).take n) := w4.vpl hc.2
     have : Nat.ble (o + n) cells.length = true := Nat.ble_eq_true_of_le (by rw [← h5.length]; exact hc.1)
     exact ⟨_, by simp only [loadV, hrw, this, Option.isNone_none, Bool.and_self, cond_true], VP.agg' hvl⟩
    ·cases h
  ·cases h
 ·cases h
def pres (E : PEnv) (L : List LObj) : IRes → Option PV
 | .tmp t => E.get t
 | .cell a agg => match E.get a with
  | some p => ploadv L agg p
  | none => none
def press (E : PEnv) (L : List LObj) : List IRes → Option (List PV)
 | [] => some []
 | r :: rs => match pres E L r, press E L rs with
  | some v, some vs => some (v :: vs)
  | _, _ => none
def pone1 : List PV → PV
 | [p] => p
 | ps => .tup ps
theorem pres_ok (hr : RH A ρ ζ L H) (he : EnvP ρ ζ E e) {r : IRes} (h : pres E L r = some p) : ∃ x, resV e H r = some x ∧ VP ρ ζ p x := by
 cases r with
 | tmp t => exact he t p h
 | cell a agg =>
  simp only [pres] at h
  split at h
  ·rename_i pa hpa
   obtain ⟨y, h1, h2⟩ := he a _ hpa
   obtain ⟨x, h3, h4⟩ := ploadv_ok hr h2 h
   exact ⟨x, by simp only [resV, h1, h3], h4⟩
  ·cases h
theorem press_ok (hr : RH A ρ ζ L H) (he : EnvP ρ ζ E e) : ∀ {rs : List IRes} {ps : List PV}, press E L rs = some ps → ∃ xs, resVs e H rs = some xs ∧ VPL ρ ζ ps xs := by
 intro rs
 induction rs with
 | nil => intro ps h; cases h; exact ⟨[], rfl, .nil⟩
 | cons r rs ih =>
  intro ps h
  simp only [press] at h
  split at h
  ·rename_i v vs h1 h2
   cases h
   obtain ⟨x, a1, a2⟩ := pres_ok hr he h1
   obtain ⟨xs, b1, b2⟩ := ih h2
   exact ⟨x :: xs, by simp only [resVs, a1, b1], .cons a2 b2⟩
  ·cases h
theorem pone1_ok {rs : List IRes} {ps : List PV} {xs : List Value} (h : VPL ρ ζ ps xs) (hv : resVs e H rs = some xs) : ∃ x, resOut e H rs = some x ∧ VP ρ ζ (pone1 ps) x := by
 unfold resOut
 rw [hv]
 cases h with
 | nil => exact ⟨_, rfl, VP.tup' .nil⟩
 | cons h1 h2 => cases h2 with
  | nil => exact ⟨_, rfl, h1⟩
  | cons h2 h3 => exact ⟨_, rfl, VP.tup' (.cons h1 (.cons h2 h3))⟩
def funcArgs (a args c : List PV) : List PV := a ++ args ++ c
theorem PF_code {f : FuncId} {fn : IFunc} {a c args : List PV} {K : PV → List LObj → Prop} (hE : X0 f = none) (hX : X f = none) (hF : F f = some fn)
  (h : PC F X0 X L.length fn.body (fun x E' L' => (x = .norm ∨ x = .ret) ∧ ∃ ps, press E' L' fn.results = some ps ∧ ∃ E2 L2 v, Abs L.length (E'.set 0 (pone1 ps)) L' E2 L2 ∧ E2.get 0 = some v ∧ K v L2) (penv (funcArgs a args c)) L) : PF F X0 X false (.fn f a c) args L K := by
 intro A ρ ζ H dv dargs gz hr hv ha
 obtain ⟨a', c', rfl, h1, h2⟩ := hv.fn_inv
 refine wpF_code hE hX hF ?_
 have hs : RS L.length ⟨A, H, ρ, ζ, gz⟩ ρ ζ (penv (funcArgs a args c)) L (T.ofFrom 0 (a'.toList ++ dargs ++ c'.toList)) H :=
  ⟨hr, penv_ok ((h1.append ha).append h2), Only.refl _ _, .refl _, let ⟨g, hg⟩ := hr; hg.dom, Nat.le_refl _, .refl _ _⟩
 refine (h _ _ _ _ _ hs).mono ?_
 rintro x e' H' ⟨ρ', ζ', E', L', hs', hx, ps, hps, E2, L2, v, hab, hg, hk⟩
 obtain ⟨xs, b1, b2⟩ := press_ok hs'.rh hs'.env hps
 obtain ⟨y, c1, c2⟩ := pone1_ok b2 b1
 have hs2 : RS L.length ⟨A, H, ρ, ζ, gz⟩ ρ' ζ' (E'.set 0 (pone1 ps)) L' (e'.set 0 y) H' := ⟨hs'.rh, hs'.env.set c2, hs'.only, hs'.base, hs'.dom, hs'.len, hs'.zet⟩
 obtain ⟨ρ2, ζ2, hs3⟩ := hab _ _ _ _ _ hs2
 obtain ⟨y', d1, d2⟩ := hs3.env 0 v hg
 rw [T.get_set, if_pos rfl] at d1
 cases d1
 exact ⟨hx, y, c1, ρ2, ζ2, v, L2, hs3.zet, hs3.base, hs3.rh, d2, hs3.only, (fun h => by cases h), hs3.len, hk⟩
end Go.Den
/- Pen, part H: the same state seen otherwise: other numbers of objects, lists that nobody writes any more. -/
namespace Go.Den
variable {ρ ρ' : Rho} {ζ ζ' : Zeta} {A A' : Nat → Prop} {H H' : AH} {f f' : Nat → Nat} {E E' : PEnv} {e : Env} {L L' : List LObj} {g : Nat → Nat → Nat} {p : PV} {q : Bool}
mutual
def noId : PV → Bool
 | .v _ => true
 | .ptr _ _ => false
 | .slc _ _ _ _ => false
 | .mapr _ => false
 | .yl _ => false
 | .fn _ a c => noIdL a && noIdL c
 | .ifc _ p => noId p
 | .agg cs => noIdL cs
 | .tup cs => noIdL cs
 | .fz _ _ cs => noIdL cs
 | .fp cs => noIdL cs
 | .ow _ _ _ cs => noIdL cs
 | .bx _ cs => noIdL cs
def noIdL : List PV → Bool
 | [] => true
 | p :: ps => noId p && noIdL ps
end
theorem noIdL_iff {l : List PV} : noIdL l = true ↔ ∀ p ∈ l, noId p = true := by
 induction l with
 | nil => simp [noIdL]
 | cons a l ih => simp [noIdL, ih]
theorem noIdL_get {l : List PV} (h : noIdL l = true) (i : Nat) (hi : i < l.length) : noId l[i] = true := noIdL_iff.1 h _ (List.getElem_mem hi)
theorem VP.noId (hz : ζ.Le ζ') {x : Value} (h : VP ρ ζ p x) : noId p = true → VP ρ' ζ' p x := by
 induction h with
 | v h => intro _; exact .v h
 | ptr h => intro hn; simp [Den.noId] at hn
 | slc h h1 => intro hn; simp [Den.noId] at hn
 | slcN h => intro hn; simp [Den.noId] at hn
 | mapr h => intro hn; simp [Den.noId] at hn
 | yl h => intro hn; simp [Den.noId] at hn
 | fn h1 _ h3 _ ih1 ih2 =>
  intro hn; simp only [Den.noId, Bool.and_eq_true] at hn
  exact .fn h1 (fun i h h' => ih1 i h h' (noIdL_get hn.1 i h)) h3 (fun i h h' => ih2 i h h' (noIdL_get hn.2 i h))
 | ifc _ ih => intro hn; simp only [Den.noId] at hn; exact .ifc (ih hn)
 | agg h1 _ ih => intro hn; simp only [Den.noId] at hn; exact .agg h1 (fun i h h' => ih i h h' (noIdL_get hn i h))
 | tup h1 _ ih => intro hn; simp only [Den.noId] at hn; exact .tup h1 (fun i h h' => ih i h h' (noIdL_get hn i h))
 | fz h1 h0 h2 h3 h4 _ h6 ih => intro hn; simp only [Den.noId] at hn; exact .fz (hz _ _ h1) h0 h2 h3 h4 (fun i h h' => ih i h h' (noIdL_get hn i h)) h6
 | fz0 h => intro _; exact .fz0 h
 | fp h1 h0 h3 h4 _ ih => intro hn; simp only [Den.noId] at hn; exact .fp (hz _ _ h1) h0 h3 h4 (fun i h h' => ih i h h' (noIdL_get hn i h))
theorem VPL.noId (hz : ζ.Le ζ') {ps : List PV} {xs : List Value} (h : VPL ρ ζ ps xs) (hn : noIdL ps = true) : VPL ρ' ζ' ps xs :=
 F2.of_idx h.length fun i h1 h2 => (F2.idx h i h1 h2).noId hz (noIdL_get hn i h1)
theorem WP.noId (hz : ζ.Le ζ') {x : Value} (h : WP A ρ ζ H f p x) : noId p = true → WP A ρ' ζ' H f p x := by
 induction h with
 | val h => intro hn; exact .val (h.noId hz hn)
 | ow g h1 h2 h3 h4 h5 _ h7 ih => intro hn; simp only [Den.noId] at hn; exact .ow g h1 h2 h3 h4 h5 (fun i h h' => ih i h h' (noIdL_get hn i h)) h7
 | bx g h1 h2 h3 h5 _ h7 ih => intro hn; simp only [Den.noId] at hn; exact .bx g h1 h2 h3 h5 (fun i h h' => ih i h h' (noIdL_get hn i h)) h7
 | ifc _ ih => intro hn; simp only [Den.noId] at hn; exact .ifc (ih hn)
inductive Vw (τ : List Nat) (L : List LObj) : PV → PV → Prop
 | same {p : PV} : noId p = true → Vw τ L p p
 | nil {t : TypeId} : Vw τ L (.v (.slice none 0 0)) (.fz t 0 [])
 | nilr {i j : Nat} : τ[j]? = some i → L[i]? = some .nil → Vw τ L (.v (.slice none 0 0)) (.slc j 0 0 0)
 | ptr {i j o : Nat} : τ[j]? = some i → Vw τ L (.ptr i o) (.ptr j o)
 | slc {i j o n c : Nat} : τ[j]? = some i → Vw τ L (.slc i o n c) (.slc j o n c)
 | mapr {i j : Nat} : τ[j]? = some i → Vw τ L (.mapr i) (.mapr j)
 | yl {i j : Nat} : τ[j]? = some i → Vw τ L (.yl i) (.yl j)
 | fn {f : FuncId} {a a' c c' : List PV} : a.length = a'.length → (∀ i (h : i < a.length) (h' : i < a'.length), Vw τ L a[i] a'[i]) → c.length = c'.length → (∀ i (h : i < c.length) (h' : i < c'.length), Vw τ L c[i] c'[i]) → Vw τ L (.fn f a c) (.fn f a' c')
 | ifc {t : TypeId} {p p' : PV} : Vw τ L p p' → Vw τ L (.ifc t p) (.ifc t p')
 | agg {a a' : List PV} : a.length = a'.length → (∀ i (h : i < a.length) (h' : i < a'.length), Vw τ L a[i] a'[i]) → Vw τ L (.agg a) (.agg a')
 | tup {a a' : List PV} : a.length = a'.length → (∀ i (h : i < a.length) (h' : i < a'.length), Vw τ L a[i] a'[i]) → Vw τ L (.tup a) (.tup a')
 | fzs {i o n c : Nat} {t : TypeId} {cs cs' cs'' : List PV} : i ∉ τ → prow L i = some (t, cs) → allNl cs → o ≤ cs.length → cs'' = (cs.drop o).take cs''.length → cs''.length = cs'.length → (∀ i (h : i < cs''.length) (h' : i < cs'.length), Vw τ L cs''[i] cs'[i]) → Vw τ L (.slc i o n c) (.fz t n cs')
 | fzp {i o : Nat} {t : TypeId} {cs cs' cs'' : List PV} : i ∉ τ → prow L i = some (t, cs) → allNl cs → o ≤ cs.length → cs'' = (cs.drop o).take cs''.length → cs''.length = cs'.length → (∀ i (h : i < cs''.length) (h' : i < cs'.length), Vw τ L cs''[i] cs'[i]) → Vw τ L (.ptr i o) (.fp cs')
def zrOf (H : AH) (k : Nat) : Option Zr := match H.get k with
 | some (.cells cs t _ ex r _ _) => some ⟨t, ex, cs, r⟩
 | _ => none
open Classical in
noncomputable def zall (τ : List Nat) (L : List LObj) (ρ : Rho) (ζ : Zeta) (H : AH) : Zeta := fun k =>
 if ∃ i t cs, L[i]? = some (.row t cs) ∧ ρ i = some (some k) ∧ i ∉ τ then zrOf H k else ζ k
theorem own_zr {k r : Nat} {t : TypeId} {cells : List Value} (h : Own H k r t cells) : ∃ z, zrOf H k = some z ∧ z.t = t ∧ z.cs = cells ∧ z.r = r ∧ FrzRow H k r z := by
 obtain ⟨t', ro, ex, thr, tip, h1⟩ := h.rowAt.at_
 have ht : t' = t := by
  rcases h.own with ⟨_, ex, thr, _, h2⟩ | ⟨_, ⟨thr, tip, h2⟩, _⟩ <;> (rw [h1] at h2; cases h2; rfl)
 subst ht
 exact ⟨⟨t', ex, cells, r⟩, by simp [zrOf, h1], rfl, rfl, rfl, h.lt, h.rowAt.le, ⟨_, _, _, h1⟩, h.rowAt.root⟩
theorem frz_root {k r r' : Nat} {z z' : Zr} (h : FrzRow H k r z) (h' : FrzRow H k r' z') : r = r' := by
 obtain ⟨_, _, _, h1⟩ := h.at_
 obtain ⟨_, _, _, h2⟩ := h'.at_
 rw [h1] at h2
 simp only [Option.some.injEq, AObj.cells.injEq] at h2
 exact h2.2.2.2.2.1
theorem zall_x (hg : RHg A ρ ζ L H g) (τ : List Nat) : ζ.X A (zall τ L ρ ζ H) := by
 refine ⟨fun k z hz => ?_, fun k z hz => ?_⟩
 ·unfold zall
  split
  ·rename_i hh
   obtain ⟨i, t, cs, h1, h2, h3⟩ := hh
   exfalso
   obtain ⟨a, b⟩ := hg.frz k z hz
   have hpr : prow L i = some (t, cs) := by simp [prow, h1]
   obtain ⟨_, r, cells, f', c2, c3, c4, c5, c6⟩ := hg.rowK hpr h2
   obtain ⟨z', _, _, _, _, d⟩ := own_zr c2
   have := frz_root a d
   have hi : i < L.length := (List.getElem?_eq_some_iff.1 h1).1
   have := sumN_le (g := fun i => g i z.r) hi
   have := c6 z.r
   simp_all
  ·exact hz
 ·unfold zall at hz
  split at hz
  ·rename_i hh
   obtain ⟨i, t, cs, h1, h2, h3⟩ := hh
   have hpr : prow L i = some (t, cs) := by simp [prow, h1]
   obtain ⟨_, r, cells, f', c2, c3, c4, c5, c6⟩ := hg.rowK hpr h2
   obtain ⟨z', d1, _, _, d2, _⟩ := own_zr c2
   rw [d1] at hz; cases hz
   exact .inr (d2 ▸ c4)
  ·exact .inl hz
theorem zall_row (hg : RHg A ρ ζ L H g) {τ : List Nat} {i : Nat} {t : TypeId} {cs : List PV} (hi : i ∉ τ) (hrow : prow L i = some (t, cs)) (hn : allNl cs) : (∃ k z, ρ i = some (some k) ∧ zall τ L ρ ζ H k = some z ∧ z.t = t ∧ VPL ρ ζ cs z.cs) ∨ (cs = [] ∧ ρ i = some none) := by
 obtain ⟨hlt, ⟨k, r, cells, f', h1, h2, h3, h4, h5, h6⟩ | h1⟩ := hg.row hrow
 case inr => exact .inr h1
 obtain ⟨z, d1, d2, d3, d4, d5⟩ := own_zr h2
 refine .inl ⟨k, z, h1, ?_, d2, d3 ▸ h5.vpl hn⟩
 unfold zall
 rw [if_pos ⟨i, t, cs, prow_some hrow, h1, hi⟩]
 exact d1
def rhoOf (τ : List Nat) (ρ : Rho) : Rho := fun j => τ[j]?.bind ρ
theorem Vw.ok (hg : RHg A ρ ζ L H g) {τ : List Nat} {p' : PV} (h : Vw τ L p p') : ∀ {x : Value}, VP ρ ζ p x → VP (rhoOf τ ρ) (zall τ L ρ ζ H) p' x := by
 induction h with
 | same hn => intro x hx; exact hx.noId (zall_x hg τ).le hn
 | nil => intro x hx; rw [hx.v_inv.1]; exact .fzN
 | ptr h => intro x hx; obtain ⟨k, hk, rfl⟩ := hx.ptr_inv; exact .ptr (by simp [rhoOf, h, hk])
 | nilr h h1 => intro x hx; rw [hx.v_inv.1]; have h2 := hg.objs _ _ h1; exact .slcN (by simp only [rhoOf, h]; exact h2)
 | slc h =>
  intro x hx
  rcases hx.slc_inv with ⟨k, hk, hl, rfl⟩ | ⟨hk, rfl, rfl, rfl, rfl⟩
  ·exact .slc (by simp [rhoOf, h, hk]) hl
  ·exact .slcN (by simp [rhoOf, h, hk])
 | mapr h => intro x hx; obtain ⟨k, hk, rfl⟩ := hx.mapr_inv; exact .mapr (by simp [rhoOf, h, hk])
 | yl h => intro x hx; cases hx with | yl hk => exact .yl (by simp [rhoOf, h, hk])
 | fn h1 _ h3 _ ih1 ih2 =>
  intro x hx
  cases hx with
  | fn g1 g2 g3 g4 => exact .fn (by omega) (fun i h h' => ih1 i (by omega) h (g2 i (by omega) h')) (by omega) (fun i h h' => ih2 i (by omega) h (g4 i (by omega) h'))
 | ifc _ ih => intro x hx; obtain ⟨y, rfl, hy⟩ := hx.ifc_inv; exact .ifc (ih hy)
 | agg h1 _ ih =>
  intro x hx
  cases hx with
  | agg g1 g2 => exact .agg (by omega) (fun i h h' => ih i (by omega) h (g2 i (by omega) h'))
 | tup h1 _ ih =>
  intro x hx
  cases hx with
  | tup g1 g2 => exact .tup (by omega) (fun i h h' => ih i (by omega) h (g2 i (by omega) h'))
 | fzs hi hrow hn ho hc hl _ ih =>
  rename_i i o n c t cs cs' cs'' _
  intro x hx
  rcases hx.slc_inv with ⟨k, hk, hlc, rfl⟩ | ⟨hk, rfl, rfl, rfl, rfl⟩
  case inr =>
   obtain ⟨_, rfl⟩ := hg.rowN hrow hk
   have hc' : cs'' = [] := by rw [hc]; simp
   subst hc'
   have : cs' = [] := List.eq_nil_of_length_eq_zero (by simpa using hl.symm)
   subst this
   exact .fzN
  rcases zall_row hg hi hrow hn with ⟨k', z, h1, h2, h3, h4⟩ | ⟨_, h1⟩
  case inr => rw [hk] at h1; cases h1
  rw [hk] at h1; cases h1
  have hv : VPL ρ ζ cs'' ((z.cs.drop o).take cs''.length) := by
   conv => arg 3; rw [hc]
   exact (h4.drop o).take _
  have hlen := hv.length
  refine .fz h2 (by rw [← h4.length]; exact ho) (.inr h3) rfl (by rw [← hl]; exact hlen) (fun j a b => ?_) hlc
  have := ih j (by omega) a (F2.idx hv j (by omega) (by omega))
  simp only [← hl]
  exact this
 | fzp hi hrow hn ho hc hl _ ih =>
  rename_i i o t cs cs' cs'' _
  intro x hx
  obtain ⟨k, hk, rfl⟩ := hx.ptr_inv
  rcases zall_row hg hi hrow hn with ⟨k', z, h1, h2, h3, h4⟩ | ⟨_, h1⟩
  case inr => rw [hk] at h1; cases h1
  rw [hk] at h1; cases h1
  have hv : VPL ρ ζ cs'' ((z.cs.drop o).take cs''.length) := by
   conv => arg 3; rw [hc]
   exact (h4.drop o).take _
  have hlen := hv.length
  refine .fp h2 (by rw [← h4.length]; exact ho) rfl (by rw [← hl]; exact hlen) (fun j a b => ?_)
  have := ih j (by omega) a (F2.idx hv j (by omega) (by omega))
  simp only [← hl]
  exact this
theorem Vw.okW (hg : RHg A ρ ζ L H g) {τ : List Nat} {x : Value} (hw : WP A ρ ζ H f p x) : ∀ {p' : PV}, Vw τ L p p' → WP A (rhoOf τ ρ) (zall τ L ρ ζ H) H f p' x := by
 have hz := (zall_x hg τ).le
 induction hw with
 | val hv => intro p' h; exact .val (h.ok hg hv)
 | ow g h1 h2 h3 h4 h5 h6 h7 ih =>
  intro p' h
  cases h with
  | same hn => exact WP.noId (ρ := ρ) hz (.ow g h1 h2 h3 h4 h5 h6 h7) hn
 | bx g h1 h2 h3 h5 h6 h7 ih =>
  intro p' h
  cases h with
  | same hn => exact WP.noId (ρ := ρ) hz (.bx g h1 h2 h3 h5 h6 h7) hn
 | ifc hw ih =>
  intro p' h
  cases h with
  | same hn => exact WP.noId (ρ := ρ) hz (.ifc hw) hn
  | ifc h => exact .ifc (ih h)
abbrev VwL (τ : List Nat) (L : List LObj) := F2 (Vw τ L)
theorem Vw.okWL (hg : RHg A ρ ζ L H g) {τ : List Nat} {cs cs' : List PV} {xs : List Value} (h : VwL τ L cs cs') (hw : WL A ρ ζ H f cs xs) : WL A (rhoOf τ ρ) (zall τ L ρ ζ H) H f cs' xs := by
 obtain ⟨g', h1, h2, h3⟩ := hw
 have hl := h.length
 refine ⟨g', by omega, fun i a b => Vw.okW hg (h2 i (by omega) b) (F2.idx h i (by omega) a), fun x => by rw [← hl]; exact h3 x⟩
inductive VwO (τ : List Nat) (L : List LObj) : LObj → LObj → Prop
 | row {t : TypeId} {cs cs' : List PV} : VwL τ L cs cs' → VwO τ L (.row t cs) (.row t cs')
 | map {es es' : List (Value × PV × Nat)} {c : Nat} : F2 (fun a b => a.1 = b.1 ∧ a.2.2 = b.2.2 ∧ Vw τ L a.2.1 b.2.1) es es' → VwO τ L (.map es c) (.map es' c)
 | rmap {es es' : List (Value × PV × Nat)} {c : Nat} : F2 (fun a b => a.1 = b.1 ∧ a.2.2 = b.2.2 ∧ Vw τ L a.2.1 b.2.1) es es' → VwO τ L (.rmap es c) (.rmap es' c)
 | loop {E E' : T PV} {ps : List Nat} {as bd : ICode} {st : Nat} {pend : Option Ex} : (∀ t p', E'.get t = some p' → ∃ p, E.get t = some p ∧ Vw τ L p p') → VwO τ L (.loop E ps as bd st pend) (.loop E' ps as bd st pend)
 | iter {s : ByteArray} {pos : Nat} : VwO τ L (.iter s pos) (.iter s pos)
 | nil : VwO τ L .nil .nil
 | nilr {t : TypeId} : VwO τ L .nil (.row t [])
 | dead {o : LObj} : VwO τ L o .dead
theorem sum_sub : ∀ (τ : List Nat) (n : Nat) (g : Nat → Nat), τ.Nodup → (∀ i ∈ τ, i < n) → (τ.map g).sum ≤ sumN n g := by
 intro τ
 induction τ with
 | nil => intro n g _ _; simp
 | cons i τ ih =>
  intro n g hn hl
  rw [List.nodup_cons] at hn
  have hi := hl i (by simp)
  have h1 := ih n (fun j => if j = i then 0 else g j) hn.2 (fun j hj => hl j (by simp [hj]))
  have h2 := sumN_upd (n := n) (i := i) (g := g) (y := 0) hi
  have h3 : τ.map (fun j => if j = i then 0 else g j) = τ.map g := List.map_congr_left fun j hj => by rw [if_neg]; rintro rfl; exact hn.1 hj
  rw [h3] at h1
  simp only [List.map_cons, List.sum_cons]
  omega
theorem sum_get (τ : List Nat) (d : Nat) (g : Nat → Nat) : sumN τ.length (fun j => g (τ.getD j d)) = (τ.map g).sum := by
 induction τ with
 | nil => rfl
 | cons i τ ih =>
  have h1 : sumN (1 + τ.length) (fun j => g ((i :: τ).getD j d)) = g i + sumN τ.length (fun j => g (τ.getD j d)) := by
   rw [sumN_add]
   congr 1
   ·simp [sumN]
   ·exact sumN_congr fun j hj => by simp [List.getD_eq_getElem?_getD, Nat.add_comm 1 j]
  simp only [List.length_cons, List.map_cons, List.sum_cons]
  rw [Nat.add_comm τ.length 1, h1, ih]
theorem RHg.view (hg : RHg A ρ ζ L H g) (τ : List Nat) (hnd : τ.Nodup) (hlt : ∀ i ∈ τ, i < L.length) (hlen : L'.length = τ.length)
  (hL : ∀ (j i : Nat) (o' : LObj), τ[j]? = some i → L'[j]? = some o' → ∃ o, L[i]? = some o ∧ VwO τ L o o') : RHg A (rhoOf τ ρ) (zall τ L ρ ζ H) L' H (fun j => g (τ.getD j L.length)) := by
 refine ⟨?_, ?_, ?_, ?_, hg.acc, ?_, hg.wf⟩
 ·intro j o' hj
  have hjt : j < τ.length := by rw [← hlen]; exact (List.getElem?_eq_some_iff.1 hj).1
  have hti : τ[j]? = some (τ.getD j L.length) := by simp [List.getD_eq_getElem?_getD, hjt]
  obtain ⟨o, h1, h2⟩ := hL j _ o' hti hj
  have hop := hg.objs _ _ h1
  have hrho : ∀ k, ρ (τ.getD j L.length) = some k → rhoOf τ ρ j = some k := fun k hk => by unfold rhoOf; rw [hti]; exact hk
  cases h2 with
  | row hv =>
   rcases hop with ⟨k, r, cells, f', c1, c2, c3, c4, c5, c6⟩ | ⟨c1, c2⟩
   ·exact .inl ⟨k, r, cells, f', hrho _ c1, c2, c3, c4, Vw.okWL hg hv c5, c6⟩
   ·subst c1; exact .inr ⟨List.eq_nil_of_length_eq_zero (by simpa using hv.length.symm), hrho _ c2⟩
  | nil => exact hrho _ hop
  | nilr => exact .inr ⟨rfl, hrho _ hop⟩
  | map hv =>
   obtain ⟨k, es', f', c1, c0, c2, c3, ⟨c4, c5⟩, c6⟩ := hop
   refine ⟨k, es', f', hrho _ c1, c0, c2, c3, ⟨?_, Vw.okWL hg ?_ c5⟩, c6⟩
   ·have := hv.length
    exact F2.of_idx (by rw [← this]; exact c4.length) fun i a b => by
     have d1 := F2.idx hv i (by omega) a
     have d2 := F2.idx c4 i (by omega) b
     exact ⟨d1.1.symm.trans d2.1, d1.2.1.symm.trans d2.2⟩
   ·exact F2.of_idx (by simpa using hv.length) fun i a b => by
     simp only [List.getElem_map]
     exact (F2.idx hv i (by simpa using a) (by simpa using b)).2.2
  | rmap hv =>
   obtain ⟨k, es', c1, c0, c2, ⟨c4, c5⟩, c6⟩ := hop
   refine ⟨k, es', hrho _ c1, c0, c2, ⟨?_, ?_⟩, c6⟩
   ·have := hv.length
    exact F2.of_idx (by rw [← this]; exact c4.length) fun i a b => by
     have d1 := F2.idx hv i (by omega) a
     have d2 := F2.idx c4 i (by omega) b
     exact ⟨d1.1.symm.trans d2.1, d1.2.1.symm.trans d2.2⟩
   ·have hl := hv.length
    have hl5 := c5.length
    simp only [List.length_map] at hl5
    exact F2.of_idx (by simp only [List.length_map]; omega) fun i a b => by
     simp only [List.length_map] at a b
     have d1 := (F2.idx hv i (by omega) a).2.2
     have d2 := F2.idx c5 i (by simp only [List.length_map]; omega) (by simpa using b)
     simp only [List.getElem_map] at d2 ⊢
     exact d1.ok hg d2
  | iter =>
   obtain ⟨k, c1, c2, c3, c4, c5⟩ := hop
   exact ⟨k, hrho _ c1, c2, c3, c4, c5⟩
  | loop hv =>
   obtain ⟨k, e', c1, c2, c3, c4, c6, c5⟩ := hop
   refine ⟨k, e', hrho _ c1, c2, c3, c4, fun t p' hp' => ?_, c5⟩
   obtain ⟨p, d1, d2⟩ := hv t p' hp'
   obtain ⟨x, d3, d4⟩ := c6 t p d1
   exact ⟨x, d3, d2.ok hg d4⟩
  | dead => trivial
 ·intro r
  rw [hlen, sum_get τ L.length (fun i => g i r)]
  exact Nat.le_trans (sum_sub τ L.length (fun i => g i r) hnd hlt) (hg.sum r)
 ·intro k z hz
  rw [hlen, sum_get τ L.length (fun i => g i z.r)]
  unfold zall at hz
  split at hz
  ·rename_i hh
   obtain ⟨i, t, cs, h1, h2, h3⟩ := hh
   have hpr : prow L i = some (t, cs) := by simp [prow, h1]
   obtain ⟨_, r, cells, f', c2, c3, c4, c5, c6⟩ := hg.rowK hpr h2
   obtain ⟨z', d1, _, _, d2, d3⟩ := own_zr c2
   rw [d1] at hz; cases hz
   rw [d2]
   have hi : i < L.length := (List.getElem?_eq_some_iff.1 h1).1
   have q1 := sum_sub (i :: τ) L.length (fun i => g i r) (List.nodup_cons.2 ⟨h3, hnd⟩) (fun j hj => (List.mem_cons.1 hj).elim (fun e => e ▸ hi) (hlt j))
   simp only [List.map_cons, List.sum_cons] at q1
   have q2 := hg.sum r
   have q3 := c6 r
   simp only [if_true] at q3
   exact ⟨d3, by omega⟩
  ·obtain ⟨a, b⟩ := hg.frz k z hz
   exact ⟨a, Nat.eq_zero_of_le_zero (Nat.le_trans (sum_sub τ L.length (fun i => g i z.r) hnd hlt) (Nat.le_of_eq b))⟩
 ·intro r hr
  rw [hlen, sum_get τ L.length (fun i => g i r)]
  exact Nat.eq_zero_of_le_zero (Nat.le_trans (sum_sub τ L.length (fun i => g i r) hnd hlt) (Nat.le_of_eq (hg.bnd r hr)))
 ·intro i k hk
  unfold rhoOf at hk
  rw [hlen]
  cases hh : τ[i]? with
  | none => rw [hh] at hk; cases hk
  | some _ => exact (List.getElem?_eq_some_iff.1 hh).1
theorem Abs.view {n0 : Nat} (τ : List Nat) (hnd : τ.Nodup) (hlt : ∀ i ∈ τ, i < L.length) (hpin : ∀ i, i < n0 → τ[i]? = some i) (hlen : L'.length = τ.length) (hn0 : n0 ≤ τ.length)
  (hL : ∀ (j i : Nat) (o' : LObj), τ[j]? = some i → L'[j]? = some o' → ∃ o, L[i]? = some o ∧ VwO τ L o o') (hE : ∀ t p', E'.get t = some p' → ∃ p, E.get t = some p ∧ Vw τ L p p') : Abs n0 E L E' L' := by
 intro fx ρ ζ e H hs
 obtain ⟨g, hg⟩ := hs.rh
 have hx := zall_x hg τ
 refine ⟨rhoOf τ ρ, zall τ L ρ ζ H, ⟨⟨fun j => g (τ.getD j L.length), hg.view τ hnd hlt hlen hL⟩, ?_, hs.only, ?_, hs.dom, by rw [hlen]; exact hn0, hs.zet.trans hx⟩⟩
 ·intro t p' hp'
  obtain ⟨p, h1, h2⟩ := hE t p' hp'
  obtain ⟨x, h3, h4⟩ := hs.env t p h1
  exact ⟨x, h3, h2.ok hg h4⟩
 ·intro i k hk
  have hi := hs.dom i k hk
  unfold rhoOf
  rw [hpin i hi]
  exact hs.base i k hk
theorem Abs.addNil (n0 : Nat) (E : PEnv) (L : List LObj) : Abs n0 E L E (L ++ [.nil]) := by
 intro fx ρ ζ e H hs
 obtain ⟨g, hg⟩ := hs.rh
 have hle := Rho.le_add (k := none) hg.fresh
 exact ⟨_, ζ, hg.pushN Rho.add_self, hs.env.mono hle (.refl _), hs.only, hs.base.trans hle, hs.dom, by have := hs.len; simp; omega, hs.zet⟩
end Go.Den
/- Pen, part I: a call that is given no objects. -/
namespace Go.Den
variable {ρ ρ' : Rho} {ζ ζ' : Zeta} {A A' : Nat → Prop} {H H' : AH} {f f' : Nat → Nat} {E E' : PEnv} {e : Env} {L L' : List LObj} {g : Nat → Nat → Nat} {p : PV} {q : Bool}
mutual
def ren (θ : Nat → Nat) : PV → PV
 | .v x => .v x
 | .ptr i o => .ptr (θ i) o
 | .slc i o n c => .slc (θ i) o n c
 | .mapr i => .mapr (θ i)
 | .yl i => .yl (θ i)
 | .fn f a c => .fn f (renL θ a) (renL θ c)
 | .ifc t p => .ifc t (ren θ p)
 | .agg cs => .agg (renL θ cs)
 | .tup cs => .tup (renL θ cs)
 | .fz t n cs => .fz t n (renL θ cs)
 | .fp cs => .fp (renL θ cs)
 | .ow t n c cs => .ow t n c (renL θ cs)
 | .bx t cs => .bx t (renL θ cs)
def renL (θ : Nat → Nat) : List PV → List PV
 | [] => []
 | p :: ps => ren θ p :: renL θ ps
end
theorem renL_map (θ : Nat → Nat) (l : List PV) : renL θ l = l.map (ren θ) := by
 induction l with
 | nil => rfl
 | cons a l ih => simp [renL, ih]
@[simp] theorem renL_length (θ : Nat → Nat) (l : List PV) : (renL θ l).length = l.length := by rw [renL_map]; simp
theorem renL_get (θ : Nat → Nat) (l : List PV) (i : Nat) (h : i < (renL θ l).length) : (renL θ l)[i] = ren θ (l[i]'(by simpa using h)) := by
 simp only [renL_map, List.getElem_map]
mutual
theorem ren_noId (θ : Nat → Nat) : ∀ p : PV, noId p = true → ren θ p = p
 | .v x, _ => rfl
 | .ptr i o, h => by simp [noId] at h
 | .slc i o n c, h => by simp [noId] at h
 | .mapr i, h => by simp [noId] at h
 | .yl i, h => by simp [noId] at h
 | .fn f a c, h => by simp only [noId, Bool.and_eq_true] at h; simp only [ren, renL_noId θ a h.1, renL_noId θ c h.2]
 | .ifc t p, h => by simp only [noId] at h; simp only [ren, ren_noId θ p h]
 | .agg cs, h => by simp only [noId] at h; simp only [ren, renL_noId θ cs h]
 | .tup cs, h => by simp only [noId] at h; simp only [ren, renL_noId θ cs h]
 | .fz t n cs, h => by simp only [noId] at h; simp only [ren, renL_noId θ cs h]
 | .fp cs, h => by simp only [noId] at h; simp only [ren, renL_noId θ cs h]
 | .ow t n c cs, h => by simp only [noId] at h; simp only [ren, renL_noId θ cs h]
 | .bx t cs, h => by simp only [noId] at h; simp only [ren, renL_noId θ cs h]
theorem renL_noId (θ : Nat → Nat) : ∀ l : List PV, noIdL l = true → renL θ l = l
 | [], _ => rfl
 | p :: ps, h => by simp only [noIdL, Bool.and_eq_true] at h; simp only [renL, ren_noId θ p h.1, renL_noId θ ps h.2]
end
def renO (θ : Nat → Nat) : LObj → LObj
 | .row t cs => .row t (renL θ cs)
 | .map es c => .map (es.map fun e => (e.1, ren θ e.2.1, e.2.2)) c
 | .rmap .. => .dead
 | .iter s pos => .iter s pos
 | .loop .. => .dead
 | .nil => .nil
 | .dead => .dead
theorem VP.ren {θ : Nat → Nat} {x : Value} (h : VP (fun i => ρ (θ i)) ζ p x) : VP ρ ζ (Den.ren θ p) x := by
 induction h with
 | v h => exact .v h
 | ptr h => exact .ptr h
 | slc h h1 => exact .slc h h1
 | slcN h => exact .slcN h
 | mapr h => exact .mapr h
 | yl h => exact .yl h
 | fn h1 _ h3 _ ih1 ih2 => exact .fn (by simpa using h1) (fun i h h' => by rw [renL_get]; exact ih1 i (by simpa using h) h') (by simpa using h3) (fun i h h' => by rw [renL_get]; exact ih2 i (by simpa using h) h')
 | ifc _ ih => exact .ifc ih
 | agg h1 _ ih => exact .agg (by simpa using h1) (fun i h h' => by rw [renL_get]; exact ih i (by simpa using h) h')
 | tup h1 _ ih => exact .tup (by simpa using h1) (fun i h h' => by rw [renL_get]; exact ih i (by simpa using h) h')
 | fz h1 h0 h2 h3 h4 _ h6 ih => exact .fz h1 h0 h2 (by simpa using h3) (by simpa using h4) (fun i h h' => by rw [renL_get]; exact ih i (by simpa using h) h') h6
 | fz0 h => exact .fz0 h
 | fp h1 h0 h3 h4 _ ih => exact .fp h1 h0 (by simpa using h3) (by simpa using h4) (fun i h h' => by rw [renL_get]; exact ih i (by simpa using h) h')
theorem WP.ren {θ : Nat → Nat} {x : Value} (h : WP A (fun i => ρ (θ i)) ζ H f p x) : WP A ρ ζ H f (Den.ren θ p) x := by
 induction h with
 | val h => exact .val h.ren
 | ow g h1 h2 h3 h4 h5 _ h7 ih => exact .ow g h1 h2 h3 h4 (by simpa using h5) (fun i h h' => by rw [renL_get]; exact ih i (by simpa using h) h') (by simpa using h7)
 | bx g h1 h2 h3 h5 _ h7 ih => exact .bx g h1 h2 h3 (by simpa using h5) (fun i h h' => by rw [renL_get]; exact ih i (by simpa using h) h') (by simpa using h7)
 | ifc _ ih => exact .ifc ih
theorem WL.ren {θ : Nat → Nat} {cs : List PV} {xs : List Value} (h : WL A (fun i => ρ (θ i)) ζ H f cs xs) : WL A ρ ζ H f (renL θ cs) xs := by
 obtain ⟨g, a, b, c⟩ := h
 exact ⟨g, by simpa using a, fun i h h' => by rw [renL_get]; exact (b i (by simpa using h) h').ren, by simpa using c⟩
theorem OP.ren {θ : Nat → Nat} {i : Nat} {o : LObj} (h : OP A (fun i => ρ (θ i)) ζ H f i o) : OP A ρ ζ H f (θ i) (renO θ o) := by
 cases o with
 | row t cs =>
  rcases h with ⟨k, r, cells, f', h1, h2, h3, h4, h5, h6⟩ | ⟨h1, h2⟩
  ·exact .inl ⟨k, r, cells, f', h1, h2, h3, h4, h5.ren, h6⟩
  ·subst h1; exact .inr ⟨rfl, h2⟩
 | map es c =>
  obtain ⟨k, es', f', h1, h0, h2, h3, ⟨h4, h5⟩, h6⟩ := h
  refine ⟨k, es', f', h1, h0, h2, h3, ⟨?_, ?_⟩, h6⟩
  ·exact F2.of_idx (by simpa using h4.length) fun i a b => by simpa using F2.idx h4 i (by simpa using a) b
  ·have := h5.ren
   rw [renL_map] at this
   simpa [List.map_map, Function.comp_def] using this
 | rmap => trivial
 | iter s pos => exact h
 | loop => trivial
 | nil => exact h
 | dead => trivial
open Classical in
noncomputable def tg (A : Nat → Prop) (f : Nat → Nat) : Nat → Nat := fun r => if A r then f r else 0
theorem tg_sum (A : Nat → Prop) (n r : Nat) (hr : A r) (g : Nat → Nat → Nat) (f : Nat → Nat) (h : ∀ x, (if x = r then 1 else 0) + sumN n (fun i => g i x) ≤ f x) : ∀ x, (if x = r then 1 else 0) + sumN n (fun i => tg A (g i) x) ≤ tg A f x := by
 intro x
 unfold tg
 by_cases hx : A x
 ·simp only [hx, if_true]; exact h x
 ·have : x ≠ r := fun e => hx (e ▸ hr)
  simp only [hx, if_false, this]
  rw [sumN_zero (fun _ _ => rfl)]
  exact Nat.le_refl _
theorem tg_le (A : Nat → Prop) (n : Nat) (g : Nat → Nat → Nat) (f : Nat → Nat) (h : ∀ x, sumN n (fun i => g i x) ≤ f x) : ∀ x, sumN n (fun i => tg A (g i) x) ≤ tg A f x := by
 intro x
 unfold tg
 by_cases hx : A x
 ·simp only [hx, if_true]; exact h x
 ·simp only [hx, if_false]; rw [sumN_zero (fun _ _ => rfl)]; exact Nat.le_refl _
theorem WP.tight {x : Value} (h : WP A ρ ζ H f p x) : WP A ρ ζ H (tg A f) p x := by
 induction h with
 | val h => exact .val h
 | ow g h1 h2 h3 h4 h5 _ h7 ih => exact .ow (fun i => tg A (g i)) h1 h2 h3 h4 h5 ih (tg_sum A _ _ h3 g _ h7)
 | bx g h1 h2 h3 h5 _ h7 ih => exact .bx (fun i => tg A (g i)) h1 h2 h3 h5 ih (tg_sum A _ _ h3 g _ h7)
 | ifc _ ih => exact .ifc ih
theorem WL.tight {cs : List PV} {xs : List Value} (h : WL A ρ ζ H f cs xs) : WL A ρ ζ H (tg A f) cs xs := by
 obtain ⟨g, a, b, c⟩ := h
 exact ⟨fun i => tg A (g i), a, fun i h h' => (b i h h').tight, tg_le A _ g f c⟩
theorem tg_add (A : Nat → Prop) (r : Nat) (hr : A r) (f' f : Nat → Nat) (h : ∀ x, (if x = r then 1 else 0) + f' x ≤ f x) : ∀ x, (if x = r then 1 else 0) + tg A f' x ≤ tg A f x := by
 intro x
 unfold tg
 by_cases hx : A x
 ·simp only [hx, if_true]; exact h x
 ·have : x ≠ r := fun e => hx (e ▸ hr)
  simp [hx, this]
theorem OP.tight {i : Nat} {o : LObj} (h : OP A ρ ζ H f i o) (hn : ∀ es c, o ≠ .rmap es c) : OP A ρ ζ H (tg A f) i o := by
 cases o with
 | row t cs =>
  rcases h with ⟨k, r, cells, f', h1, h2, h3, h4, h5, h6⟩ | h
  ·exact .inl ⟨k, r, cells, tg A f', h1, h2, h3, h4, h5.tight, tg_add A r h4 f' f h6⟩
  ·exact .inr h
 | map es c => obtain ⟨k, es', f', h1, h0, h2, h3, ⟨h4, h5⟩, h6⟩ := h; exact ⟨k, es', tg A f', h1, h0, h2, h3, ⟨h4, h5.tight⟩, tg_add A k h3 f' f h6⟩
 | rmap es c => exact absurd rfl (hn es c)
 | iter s pos => obtain ⟨k, h1, h0, h2, h3, h4⟩ := h; exact ⟨k, h1, h0, h2, h3, by unfold tg; simp [h3, h4]⟩
 | loop E ps as bd st pend => obtain ⟨k, e, h1, h0, h2, h3, h5, h4⟩ := h; exact ⟨k, e, h1, h0, h2, h3, h5, by unfold tg; simp [h3, h4]⟩
 | nil => exact h
 | dead => trivial
theorem Kp.of_only {H H' : AH} (h : Only H H' (H.next ≤ ·)) : Kp H H' (fun _ => False) := by
 refine ⟨h.next, fun k r t cs _ ho => ?_, fun k r z _ hf => ?_, fun j o hj _ hg _ => ?_⟩
 ·have := ho.lt; have := ho.rowAt.le
  exact ho.only h (by omega) (by omega)
 ·have := hf.lt; have := hf.le
  exact hf.only h (by omega) (by omega)
 ·rw [h.get j hj (by omega)]; exact hg
variable {F : FuncId → Option IFunc} {X0 X : Ext}
theorem OP.tightRen {θ : Nat → Nat} {i : Nat} {o : LObj} (h : OP A (fun i => ρ (θ i)) ζ H f i o) : OP A ρ ζ H (tg A f) (θ i) (renO θ o) := by
 cases o with
 | rmap => trivial
 | _ => exact (h.tight (by simp)).ren
theorem PF.frame0 {fv : PV} {args : List PV} {K : PV → List LObj → Prop} (hf : noId fv = true) (ha : noIdL args = true) (h : PF F X0 X q fv args [] K) (q' : Bool) (L : List LObj) :
  PF F X0 X q' fv args L (fun v L' => ∃ v0 L0, K v0 L0 ∧ v = ren (· + L.length) v0 ∧ L' = L ++ L0.map (renO (· + L.length))) := by
 intro A ρ ζ H dv dargs gz ⟨g, hg⟩ hv hargs
 have hz0 : ζ.Le ζ := .refl _
 refine (h (H.next ≤ ·) (fun _ => none) ζ H dv dargs gz ⟨fun _ _ => 0, fun i o hi => by simp at hi, fun r => by simp [sumN], fun k z hz => ⟨(hg.frz k z hz).1, by simp [sumN]⟩, fun r _ => by simp [sumN], fun j hj => hj, fun i k hk => (by cases hk), hg.wf⟩
  (hv.noId hz0 hf) (hargs.noId hz0 ha)).mono ?_
 rintro v' H' ⟨ρ', ζ', v0, L0, c1, c2, ⟨g0, hg0⟩, c4, c5, _, _, c8⟩
 have hA : ∀ j, H.next ≤ j → A j := hg.acc
 let ρ2 : Rho := fun i => if i < L.length then ρ i else ρ' (i - L.length)
 have hsh : (fun i => ρ2 (i + L.length)) = ρ' := by
  funext i
  show (if i + L.length < L.length then _ else _) = _
  rw [if_neg (by omega), Nat.add_sub_cancel]
 have hle : ρ.Le ρ2 := fun i k hk => by
  show (if i < L.length then _ else _) = _
  rw [if_pos (hg.dom i k hk)]; exact hk
 have hkp := Kp.of_only c5
 let g2 : Nat → Nat → Nat := fun i => if i < L.length then g i else tg (H.next ≤ ·) (g0 (i - L.length))
 have hlen : (L ++ L0.map (renO (· + L.length))).length = L.length + L0.length := by simp
 have hsum : ∀ r, sumN (L.length + L0.length) (fun i => g2 i r) = sumN L.length (fun i => g i r) + sumN L0.length (fun i => tg (H.next ≤ ·) (g0 i) r) := fun r => by
  rw [sumN_add]
  congr 1
  ·exact sumN_congr fun i hi => by show (if i < L.length then g i else _) r = _; rw [if_pos hi]
  ·exact sumN_congr fun i hi => by show (if L.length + i < L.length then _ else tg _ (g0 (L.length + i - L.length))) r = _; rw [if_neg (by omega), Nat.add_sub_cancel_left]
 have hlow : ∀ r, ¬ H.next ≤ r → sumN L0.length (fun i => tg (H.next ≤ ·) (g0 i) r) = 0 := fun r hr => sumN_zero fun i _ => by unfold tg; rw [if_neg hr]
 have hup : ∀ r, sumN L0.length (fun i => tg (H.next ≤ ·) (g0 i) r) ≤ sumN L0.length (fun i => g0 i r) := fun r => sumN_mono fun i _ => by unfold tg; split <;> omega
 refine ⟨ρ2, ζ', ren (· + L.length) v0, _, ⟨c1.le, fun k z hz => (c1.new k z hz).imp id (hA _)⟩, hle, ⟨g2, ?_, ?_, ?_, ?_, ?_, ?_, hg0.wf⟩, ?_, c5.mono (fun j hj => hA j hj), fun _ => c5, by simp, v0, L0, c8, rfl, rfl⟩
 ·intro i o hi
  by_cases hlt : i < L.length
  ·rw [List.getElem?_append_left hlt] at hi
   show OP A ρ2 ζ' H' (if i < L.length then g i else _) i o
   rw [if_pos hlt]
   exact (hg.objs i o hi).kp hkp hle c1.le (fun _ h => h) (fun _ h => h.elim)
  ·rw [List.getElem?_append_right (by omega), List.getElem?_map] at hi
   cases ho : L0[i - L.length]? with
   | none => rw [ho] at hi; cases hi
   | some o0 =>
    rw [ho] at hi
    cases hi
    have h1 := hg0.objs _ _ ho
    rw [← hsh] at h1
    have h2 := h1.tightRen
    simp only [Nat.sub_add_cancel (show L.length ≤ i by omega)] at h2
    show OP A ρ2 ζ' H' (if i < L.length then g i else tg (H.next ≤ ·) (g0 (i - L.length))) i _
    rw [if_neg hlt]
    exact h2.kp (Kp.refl H' (fun _ => False)) (.refl _) (.refl _) hA (fun _ h => h.elim)
 ·intro r
  rw [hlen, hsum]
  by_cases hr : H.next ≤ r
  ·have := hg.bnd r hr; have := hup r; have := hg0.sum r; omega
  ·have := hlow r hr; have := hg.sum r; omega
 ·intro k z hz
  rw [hlen, hsum]
  obtain ⟨d1, d2⟩ := hg0.frz k z hz
  refine ⟨d1, ?_⟩
  have := hup z.r
  rcases c1.new k z hz with h1 | h1
  ·have := (hg.frz k z h1).2; omega
  ·have := hg.bnd z.r h1; omega
 ·intro r hr
  rw [hlen, hsum]
  have := c5.next
  have := hg.bnd r (by omega)
  have := hg0.bnd r hr
  have := hup r
  omega
 ·intro j hj
  exact hA j (Nat.le_trans c5.next hj)
 ·intro i k hk
  rw [hlen]
  have hk' : (if i < L.length then ρ i else ρ' (i - L.length)) = some k := hk
  split at hk'
  ·omega
  ·have := hg0.dom _ _ hk'; omega
 ·rw [← hsh] at c4
  exact c4.ren
def PP (F : FuncId → Option IFunc) (X0 X : Ext) (fv : PV) (args : List PV) (v : PV) : Prop := ∀ q L, PF F X0 X q fv args L (fun v' L' => v' = v ∧ L' = L)
theorem PP.of {fv : PV} {args : List PV} {v : PV} (hf : noId fv = true) (ha : noIdL args = true) (hv : noId v = true) (h : PF F X0 X q fv args [] (fun v' L' => v' = v ∧ L' = [])) : PP F X0 X fv args v := by
 intro q' L
 refine (PF.frame0 hf ha h q' L).mono ?_
 rintro v' L' ⟨v0, L0, ⟨rfl, rfl⟩, rfl, rfl⟩
 exact ⟨ren_noId _ _ hv, by simp⟩
theorem PP_code {f : FuncId} {fn : IFunc} {a c args : List PV} {v : PV} (hE : X0 f = none) (hX : X f = none) (hF : F f = some fn) (hf : noId (.fn f a c) = true) (ha : noIdL args = true) (hv : noId v = true)
  (h : PC F X0 X 0 fn.body (fun x E' L' => (x = .norm ∨ x = .ret) ∧ ∃ ps, press E' L' fn.results = some ps ∧ Vw [] L' (pone1 ps) v) (penv (funcArgs a args c)) []) : PP F X0 X (.fn f a c) args v := by
 refine PP.of hf ha hv (PF_code hE hX hF (PC.mono h ?_))
 rintro x E' L' ⟨hx, ps, hps, hw⟩
 refine ⟨hx, ps, hps, (T.leaf : PEnv).set 0 v, [], v, ?_, by simp, rfl, rfl⟩
 refine Abs.view [] List.nodup_nil (fun i h => by simp at h) (fun i h => by simp at h) rfl (Nat.le_refl _) (fun j i o h => by simp at h) (fun t p' hp => ?_)
 rw [T.get_set] at hp
 split at hp
 ·rename_i ht; cases hp; subst ht
  exact ⟨pone1 ps, by rw [T.get_set, if_pos rfl], hw⟩
 ·simp [T.get] at hp
end Go.Den
/- Pen, part J: running code on trees by simp. -/
namespace Go.Den
variable {F : FuncId → Option IFunc} {X0 X : Ext} {E E' : PEnv} {L L' : List LObj} {n0 : Nat} {Q : Ex → PEnv → List LObj → Prop}
theorem nrfl {α : Type} {a b : α} (h : a = b) : a = b := h
theorem T.get_leaf {α : Type} (k : Nat) : (T.leaf : T α).get k = none := rfl
def envOf (l : List (Nat × PV)) : PEnv := l.foldr (fun x E => E.set x.1 x.2) .leaf
theorem envOf_mem : ∀ {l : List (Nat × PV)} {t : Nat} {p : PV}, (envOf l).get t = some p → (t, p) ∈ l := by
 intro l
 induction l with
 | nil => intro t p h; simp [envOf, T.get] at h
 | cons a l ih =>
  intro t p h
  simp only [envOf, List.foldr_cons] at h
  rw [T.get_set] at h
  split at h
  ·rename_i ht; cases h; subst ht; simp
  ·exact List.mem_cons_of_mem _ (ih h)
theorem Abs.env (l : List (Nat × PV)) (h : ∀ x ∈ l, E.get x.1 = some x.2) : Abs n0 E L (envOf l) L := by
 intro fx ρ ζ e H hs
 exact ⟨ρ, ζ, hs.rh, fun t p hp => hs.env t p (h _ (envOf_mem hp)), hs.only, hs.base, hs.dom, hs.len, hs.zet⟩
theorem Abs.viewE (τ : List Nat) (l : List (Nat × PV)) (hnd : τ.Nodup) (hlt : ∀ i ∈ τ, i < L.length) (hpin : ∀ i, i < n0 → τ[i]? = some i) (hlen : L'.length = τ.length) (hn0 : n0 ≤ τ.length)
  (hL : ∀ (j i : Nat) (o' : LObj), τ[j]? = some i → L'[j]? = some o' → ∃ o, L[i]? = some o ∧ VwO τ L o o') (hE : ∀ x ∈ l, ∃ p, E.get x.1 = some p ∧ Vw τ L p x.2) : Abs n0 E L (envOf l) L' :=
 Abs.view τ hnd hlt hpin hlen hn0 hL (fun _ _ hp => hE _ (envOf_mem hp))
abbrev pin (n : Int) : PV := .v (.int .i64 n)
abbrev pbool (b : Bool) : PV := .v (.bool b)
theorem cut1 {α : Type} {l : List α} {f : α → PV} {i : Nat} (h : i < l.length) : cut (l.map f) i 1 = [f l[i]] := by
 unfold cut
 rw [← List.map_drop, ← List.map_take, List.drop_eq_getElem_cons h]
 rfl
theorem cut_take {α : Type} {l : List α} {f : α → PV} {n : Nat} : cut (l.map f) 0 n = (l.take n).map f := by simp [cut, List.map_take]
theorem cut_drop {α : Type} {l : List α} {f : α → PV} {o n : Nat} (h : o + n = l.length) : cut (l.map f) o n = (l.drop o).map f := by
 unfold cut
 rw [← List.map_drop, List.take_of_length_le (by simp; omega)]
theorem cutk {α : Type} {l : List α} {enc : α → List PV} {k i : Nat} (hk : ∀ x, (enc x).length = k) (h : i < l.length) : cut (l.flatMap enc) (i * k) k = enc l[i] := by
 induction l generalizing i with
 | nil => simp at h
 | cons a l ih =>
  cases i with
  | zero => simp [cut, ← hk a]
  | succ i =>
   have := ih (i := i) (by simpa using h)
   simp only [cut] at this ⊢
   rw [List.flatMap_cons, Nat.add_mul, Nat.one_mul, Nat.add_comm (i * k) k, ← List.drop_drop]
   rw [show List.drop k (enc a ++ List.flatMap enc l) = List.flatMap enc l by rw [← hk a]; simp]
   simpa using this
theorem noIdL_append {a b : List PV} : noIdL (a ++ b) = true ↔ noIdL a = true ∧ noIdL b = true := by
 simp only [noIdL_iff, List.mem_append]
 exact ⟨fun h => ⟨fun p hp => h p (.inl hp), fun p hp => h p (.inr hp)⟩, fun h p hp => hp.elim (h.1 p) (h.2 p)⟩
theorem noIdL_mapI {α : Type} {l : List α} {f : α → PV} : noIdL (l.map f) = true ↔ ∀ x ∈ l, noId (f x) = true := by
 simp [noIdL_iff]
theorem noIdL_flatMapI {α : Type} {l : List α} {f : α → List PV} : noIdL (l.flatMap f) = true ↔ ∀ x ∈ l, noIdL (f x) = true := by
 simp only [noIdL_iff, List.mem_flatMap]
 exact ⟨fun h x hx p hp => h p ⟨x, hx, hp⟩, fun h p ⟨x, hx, hp⟩ => h x hx p hp⟩
theorem noIdL_take {l : List PV} {i : Nat} (h : noIdL l = true) : noIdL (l.take i) = true := noIdL_iff.2 fun p hp => noIdL_iff.1 h p (List.mem_of_mem_take hp)
theorem noIdL_drop {l : List PV} {i : Nat} (h : noIdL l = true) : noIdL (l.drop i) = true := noIdL_iff.2 fun p hp => noIdL_iff.1 h p (List.mem_of_mem_drop hp)
theorem noIdL_set {l : List PV} {i : Nat} {p : PV} (h : noIdL l = true) (hp : noId p = true) : noIdL (l.set i p) = true := noIdL_iff.2 fun q hq => (List.mem_or_eq_of_mem_set hq).elim (noIdL_iff.1 h q) (fun e => e ▸ hp)
attribute [simp] noIdL_append noIdL_mapI noIdL_flatMapI noIdL_take noIdL_drop noIdL_set
def recs {α : Type} (t : TypeId) (enc : α → List PV) (l : List α) : PV := .fz t l.length (l.flatMap enc)
theorem noIdL_map {α : Type} {l : List α} {f : α → PV} (h : ∀ x ∈ l, noId (f x) = true) : noIdL (l.map f) = true := noIdL_iff.2 fun p hp => by
 obtain ⟨x, hx, rfl⟩ := List.mem_map.1 hp; exact h x hx
def ints (t : TypeId) (l : List Int) : PV := .fz t l.length (l.map pin)
@[simp] theorem ints_noId {t : TypeId} {l : List Int} : noId (ints t l) = true := by simp only [ints, noId]; exact noIdL_map fun _ _ => rfl
section
variable (F X0 X)
def PW (n0 : Nat) : ICode → (Ex → PEnv → List LObj → Prop) → PEnv → List LObj → Prop
 | .skip, Q, E, L => Q .norm E L
 | .ops l, Q, E, L => PO F X0 X l (Q .norm) E L
 | .draw l l', Q, E, L => PQ F X0 X l (PO F X0 X l' (Q .norm)) E L
 | .seq a b, Q, E, L => PW n0 a (pnext (PW n0 b Q) Q) E L
 | .cond c a b, Q, E, L => match pei E c with
  | some (.bool t) => (t = true → PW n0 a Q E L) ∧ (t = false → PW n0 b Q E L)
  | _ => False
 | .block id c, Q, E, L => PW n0 c (pout id Q) E L
 | .exit id, Q, E, L => Q (.exit id) E L
 | .ret, Q, E, L => Q .ret E L
 | c, Q, E, L => PC F X0 X n0 c Q E L
end
theorem PW_ok : ∀ (c : ICode) {Q : Ex → PEnv → List LObj → Prop} {E : PEnv} {L : List LObj}, PW F X0 X n0 c Q E L → PC F X0 X n0 c Q E L := by
 intro c
 induction c with
 | skip => intro Q E L h; exact PC_skip h
 | ops l => intro Q E L h; exact PC_ops h
 | draw l l' => intro Q E L h; exact PC_draw h
 | seq a b iha ihb =>
  intro Q E L h
  refine PC_seq ((iha h).mono fun x E L h => ?_)
  cases x <;> first | exact ihb h | exact h
 | cond c a b iha ihb =>
  intro Q E L h
  simp only [PW] at h
  split at h
  ·rename_i t hc
   refine PC_cond hc ?_
   cases t
   ·rw [if_neg (by simp)]; exact ihb (h.2 rfl)
   ·rw [if_pos rfl]; exact iha (h.1 rfl)
  ·exact h.elim
 | block id c ih => intro Q E L h; exact PC_block (ih h)
 | exit id => intro Q E L h; exact PC_exit h
 | ret => intro Q E L h; exact PC_ret h
 | loop c _ => intro Q E L h; exact h
 | rangeFunc f ps a b _ _ => intro Q E L h; exact h
 | bad w => intro Q E L h; exact h
@[congr] theorem PW_congr {c : ICode} {Q : Ex → PEnv → List LObj → Prop} {E E' : PEnv} {L L' : List LObj} (h : E = E') (h' : L = L') : PW F X0 X n0 c Q E L = PW F X0 X n0 c Q E' L' := by rw [h, h']
@[congr] theorem PC_congr {c : ICode} {Q : Ex → PEnv → List LObj → Prop} {E E' : PEnv} {L L' : List LObj} (h : E = E') (h' : L = L') : PC F X0 X n0 c Q E L = PC F X0 X n0 c Q E' L' := by rw [h, h']
@[congr] theorem PO_congr {l : List Ins} {Q : PEnv → List LObj → Prop} {E E' : PEnv} {L L' : List LObj} (h : E = E') (h' : L = L') : PO F X0 X l Q E L = PO F X0 X l Q E' L' := by rw [h, h']
@[congr] theorem PQ_congr {l : List Ins} {Q : PEnv → List LObj → Prop} {E E' : PEnv} {L L' : List LObj} (h : E = E') (h' : L = L') : PQ F X0 X l Q E L = PQ F X0 X l Q E' L' := by rw [h, h']
@[congr] theorem PF_congr {q : Bool} {fv fv' : PV} {as as' : List PV} {K : PV → List LObj → Prop} {L L' : List LObj} (h0 : fv = fv') (h : as = as') (h' : L = L') : PF F X0 X q fv as L K = PF F X0 X q fv' as' L' K := by rw [h0, h, h']
@[congr] theorem PI_congr {op : IOp} {K : PV → List LObj → Prop} {E E' : PEnv} {L L' : List LObj} (h : E = E') (h' : L = L') : PI F X0 X op K E L = PI F X0 X op K E' L' := by rw [h, h']
@[congr] theorem PJ_congr {op : IOp} {K : PV → List LObj → Prop} {E E' : PEnv} {L L' : List LObj} (h : E = E') (h' : L = L') : PJ F X0 X op K E L = PJ F X0 X op K E' L' := by rw [h, h']
@[congr] theorem pnext_congr {k : PEnv → List LObj → Prop} {Q : Ex → PEnv → List LObj → Prop} {x x' : Ex} {E E' : PEnv} {L L' : List LObj} (hx : x = x') (h : E = E') (h' : L = L') : pnext k Q x E L = pnext k Q x' E' L' := by rw [hx, h, h']
@[congr] theorem pout_congr {id : Nat} {Q : Ex → PEnv → List LObj → Prop} {x x' : Ex} {E E' : PEnv} {L L' : List LObj} (hx : x = x') (h : E = E') (h' : L = L') : pout id Q x E L = pout id Q x' E' L' := by rw [hx, h, h']
theorem PC_loop0 {c : ICode} (J : Nat → PEnv → List LObj → Prop) (round : ∀ k E L, J k E L → PW F X0 X n0 c (pnext (fun E' L' => ∃ k', k' < k ∧ J k' E' L') Q) E L) {k : Nat} (h : J k E L) : PC F X0 X n0 (.loop c) Q E L :=
 PC_loop J (fun k E L hj => (PW_ok _ (round k E L hj)).mono fun x E' L' h => by
  cases x <;> first | exact h | (obtain ⟨k', a, b⟩ := h; exact ⟨k', E', L', a, Abs.refl _ _ _, b⟩)) h
theorem PP.run {fv : PV} {args : List PV} {v : PV} (h : PP F X0 X fv args v) {q : Bool} {L : List LObj} {K : PV → List LObj → Prop} (hk : K v L) : PF F X0 X q fv args L K := (h q L).mono fun _ _ h => by rw [h.1, h.2]; exact hk
theorem Vw.decT {τ : List Nat} {p : Prop} [Decidable p] (h : p) : Vw τ L (.v (.bool true)) (.v (.bool (decide p))) := by rw [decide_eq_true h]; exact .same rfl
theorem Vw.decF {τ : List Nat} {p : Prop} [Decidable p] (h : ¬ p) : Vw τ L (.v (.bool false)) (.v (.bool (decide p))) := by rw [decide_eq_false h]; exact .same rfl
theorem Vw.frz {i n c : Nat} {t : TypeId} {cs : List PV} {p' : PV} (h : prow L i = some (t, cs)) (hn : allNl cs) (hid : noIdL cs = true) (e : p' = .fz t n cs) : Vw [] L (.slc i 0 n c) p' := by
 subst e
 exact .fzs (cs'' := cs) (by simp) h hn (Nat.zero_le _) (by simp) rfl (fun i a b => .same (noIdL_get hid i a))
theorem Vw.eq {τ : List Nat} {p p' : PV} (h : p = p') (hn : noId p = true) : Vw τ L p p' := h ▸ .same hn
theorem nl_v {x : Value} : nl (.v x) = true := rfl
theorem allNl_nil : allNl [] := rfl
theorem allNl_cons {a : PV} {l : List PV} : allNl (a :: l) ↔ nl a = true ∧ allNl l := by simp [allNl]
theorem allNl_append {a b : List PV} : allNl (a ++ b) ↔ allNl a ∧ allNl b := by simp [allNl]
theorem allNl_map {α : Type} {l : List α} {f : α → PV} : allNl (l.map f) ↔ ∀ x ∈ l, nl (f x) = true := by simp [allNl]
theorem allNl_flatMap {α : Type} {l : List α} {f : α → List PV} : allNl (l.flatMap f) ↔ ∀ x ∈ l, allNl (f x) := by
 simp only [allNl, List.all_eq_true, List.mem_flatMap]
 exact ⟨fun h x hx p hp => h p ⟨x, hx, hp⟩, fun h p ⟨x, hx, hp⟩ => h x hx p hp⟩
theorem allNl_take {l : List PV} {i : Nat} (h : allNl l) : allNl (l.take i) := by
 simp only [allNl, List.all_eq_true] at h ⊢; exact fun p hp => h p (List.mem_of_mem_take hp)
theorem allNl_drop {l : List PV} {i : Nat} (h : allNl l) : allNl (l.drop i) := by
 simp only [allNl, List.all_eq_true] at h ⊢; exact fun p hp => h p (List.mem_of_mem_drop hp)
theorem allNl_cut {l : List PV} {i n : Nat} (h : allNl l) : allNl (cut l i n) := allNl_take (allNl_drop h)
theorem allNl_set {l : List PV} {i : Nat} {p : PV} (h : allNl l) (hp : nl p = true) : allNl (l.set i p) := by
 simp only [allNl, List.all_eq_true] at h ⊢
 intro q hq
 rcases List.mem_or_eq_of_mem_set hq with h1 | h1
 ·exact h q h1
 ·rw [h1]; exact hp
theorem allOne_nil : allOne [] := rfl
theorem allOne_cons {a : PV} {l : List PV} : allOne (a :: l) ↔ pone a = true ∧ allOne l := by simp [allOne]
theorem allOne_append {a b : List PV} : allOne (a ++ b) ↔ allOne a ∧ allOne b := by simp [allOne]
theorem allOne_map {α : Type} {l : List α} {f : α → PV} : allOne (l.map f) ↔ ∀ x ∈ l, pone (f x) = true := by simp [allOne]
theorem allOne_flatMap {α : Type} {l : List α} {f : α → List PV} : allOne (l.flatMap f) ↔ ∀ x ∈ l, allOne (f x) := by
 simp only [allOne, List.all_eq_true, List.mem_flatMap]
 exact ⟨fun h x hx p hp => h p ⟨x, hx, hp⟩, fun h p ⟨x, hx, hp⟩ => h x hx p hp⟩
theorem allOne_take {l : List PV} {i : Nat} (h : allOne l) : allOne (l.take i) := by
 simp only [allOne, List.all_eq_true] at h ⊢; exact fun p hp => h p (List.mem_of_mem_take hp)
theorem allOne_drop {l : List PV} {i : Nat} (h : allOne l) : allOne (l.drop i) := by
 simp only [allOne, List.all_eq_true] at h ⊢; exact fun p hp => h p (List.mem_of_mem_drop hp)
theorem allOne_cut {l : List PV} {i n : Nat} (h : allOne l) : allOne (cut l i n) := allOne_take (allOne_drop h)
theorem allOne_set {l : List PV} {i : Nat} {p : PV} (h : allOne l) (hp : pone p = true) : allOne (l.set i p) := by
 simp only [allOne, List.all_eq_true] at h ⊢
 intro q hq
 rcases List.mem_or_eq_of_mem_set hq with h1 | h1
 ·exact h q h1
 ·rw [h1]; exact hp
theorem psplice_one {l : List PV} {i : Nat} {p : PV} (h : i < l.length) : psplice l i [p] = l.set i p := by
 unfold psplice
 rw [List.set_eq_take_append_cons_drop, if_pos h]
 simp
theorem psplice_full {l vs : List PV} (h : vs.length = l.length) : psplice l 0 vs = vs := by simp [psplice, h]
theorem cut_zero {l : List PV} {o : Nat} : cut l o 0 = [] := by simp [cut]
theorem cut_cons0 {l : List PV} {a : PV} {n : Nat} : cut (a :: l) 0 (n + 1) = a :: cut l 0 n := by simp [cut]
theorem cut_consS {l : List PV} {a : PV} {o n : Nat} : cut (a :: l) (o + 1) n = cut l o n := by simp [cut]
theorem cut_all {l : List PV} {n : Nat} (h : n = l.length) : cut l 0 n = l := by subst h; simp [cut]
theorem cut_len {l : List PV} {o n : Nat} (h : o + n ≤ l.length) : (cut l o n).length = n := by simp [cut]; omega
attribute [simp] nl_v allNl_nil allNl_cons allNl_append allNl_map allNl_flatMap allNl_take allNl_drop allNl_cut allNl_set allOne_nil allOne_cons allOne_append allOne_map allOne_flatMap allOne_take allOne_drop allOne_cut allOne_set psplice_one psplice_full cut_zero cut_cons0 cut_consS cut_all cut_len
section
variable {x : Value} {i o n c k : Nat} {a b : List PV} {t : TypeId} {p : PV}
theorem pone_v : pone (.v x) = true := rfl
theorem pone_ptr : pone (.ptr i o) = true := rfl
theorem pone_slc : pone (.slc i o n c) = true := rfl
theorem pone_mapr : pone (.mapr i) = true := rfl
theorem pone_fn : pone (.fn i a b) = true := rfl
theorem pone_ifc : pone (.ifc t p) = true := rfl
theorem pone_fz : pone (.fz t n a) = true := rfl
theorem pone_fp : pone (.fp a) = true := rfl
theorem nl_ptr : nl (.ptr i o) = true := rfl
theorem nl_slc : nl (.slc i o n c) = true := rfl
theorem nl_mapr : nl (.mapr i) = true := rfl
theorem nl_fn : nl (.fn i a b) = true := rfl
theorem nl_ifc : nl (.ifc t p) = nl p := rfl
theorem nl_fz : nl (.fz t n a) = true := rfl
theorem nl_fp : nl (.fp a) = true := rfl
theorem nl_agg : nl (.agg a) = true := rfl
theorem nl_ow : nl (.ow t n c a) = false := rfl
theorem nl_bx : nl (.bx t a) = false := rfl
end
attribute [simp] pone_v pone_ptr pone_slc pone_mapr pone_fn pone_ifc pone_fz pone_fp nl_ptr nl_slc nl_mapr nl_fn nl_ifc nl_fz nl_fp nl_agg nl_ow nl_bx
section
variable {E : PEnv} {L : List LObj}
theorem pev_mov {x : Arg} : pev E L (.mov x) = (match pea E x with | some p => some (p, L, true) | none => none) := nrfl rfl
theorem pev_pick {c : Arg} {a : Arg} {b : Arg} : pev E L (.pick c a b) = (match pei E c with
  | some (.bool t) => match (bif t then pea E a else pea E b) with | some p => some (p, L, true) | none => none
  | _ => none) := nrfl rfl
theorem pev_box {t : TypeId} {x : Arg} : pev E L (.box t x) = (match pea E x with | some p => some (.ptr L.length 0, L ++ [.row t (pcells p)], true) | none => none) := nrfl rfl
theorem pev_build {zero : List Value} {ps : List (Nat × Nat × Arg)} : pev E L (.build zero ps) = (match peap E ps with
  | some ps => if zero.all one = true then match pfill (zero.map .v) ps with | some cs => some (.agg cs, L, true) | none => none else none
  | none => none) := nrfl rfl
theorem pev_buildSlice {t : TypeId} {len : Nat} {zero : List Value} {ps : List (Nat × Nat × Arg)} : pev E L (.buildSlice t len zero ps) = (match peap E ps with
  | some ps => if zero.all one = true then match pfill (zero.map .v) ps with | some cs => some (.slc L.length 0 len len, L ++ [.row t cs], true) | none => none else none
  | none => none) := nrfl rfl
theorem pev_load {agg : Option Nat} {a : Arg} : pev E L (.load agg a) = (match pea E a with | some p => pload L agg p | none => none) := nrfl rfl
theorem pev_store {n : Nat} {a : Arg} {v : Arg} : pev E L (.store n a v) = (match pea E a, pea E v with
  | some (.ptr i o), some p => match prow L i with
   | some (t, cs) => if (pcells p).length = n ∧ o + n ≤ cs.length ∧ allOne (pcells p) then some (.tup [], L.set i (.row t (psplice cs o (pcells p))), false) else none
   | none => none
  | _, _ => none) := nrfl rfl
theorem pev_nilCheck {x : Arg} : pev E L (.nilCheck x) = (match pea E x with
  | some (.ptr i o) => some (.ptr i o, L, true)
  | some (.fp cs) => some (.fp cs, L, true)
  | some (.fn f a c) => some (.fn f a c, L, true)
  | _ => none) := nrfl rfl
theorem pev_arith {op : BinOp} {x : Arg} {y : Arg} : pev E L (.arith op x y) = (match pei E x, pei E y with
  | some a, some b => match arithV op a b with | some r => if one r = true then some (.v r, L, true) else none | none => none
  | _, _ => none) := nrfl rfl
theorem pev_eqBool {neg : Bool} {x : Arg} {y : Arg} : pev E L (.eqBool neg x y) = (match pei E x, pei E y with
  | some (.bool a), some (.bool b) => some (.v (.bool ((a == b) != neg)), L, true)
  | _, _ => none) := nrfl rfl
theorem pev_eqNil {k : NilK} {neg : Bool} {x : Arg} {y : Arg} : pev E L (.eqNil k neg x y) = (match pea E x, pea E y with
  | some a, some b => match peqNil k a b with
   | some r => some (.v (.bool (r != neg)), L, true)
   | none => none
  | _, _ => none) := nrfl rfl
theorem pev_eqPtr {neg : Bool} {x : Arg} {y : Arg} : pev E L (.eqPtr neg x y) = (match pea E x, pea E y with
  | some (.ptr i o), some (.ptr j o') => if i = j then some (.v (.bool ((o == o') != neg)), L, true) else none
  | some a, some b => match peqNil .ptr a b with
   | some r => some (.v (.bool (r != neg)), L, true)
   | none => none
  | _, _ => none) := nrfl rfl
theorem pev_un {op : UnOp} {x : Arg} : pev E L (.un op x) = (match pei E x with
  | some a => match unV op a with | some r => if one r = true then some (.v r, L, true) else none | none => none
  | none => none) := nrfl rfl
theorem pev_toInt {k : IntKind} {x : Arg} : pev E L (.toInt k x) = (match pei E x with
  | some (.int _ n) => some (.v (.int k (k.wrap n)), L, true)
  | _ => none) := nrfl rfl
theorem pev_iface {t : TypeId} {x : Arg} : pev E L (.iface t x) = (match pea E x with
  | some p => some (.ifc t p, L, true)
  | none => none) := nrfl rfl
theorem pev_func {f : FuncId} {first : List Arg} {captured : List Arg} : pev E L (.func f first captured) = (match peas E first, peas E captured with
  | some a, some b => some (.fn f a b, L, true)
  | _, _ => none) := nrfl rfl
theorem pev_makeSlice {t : TypeId} {bytes : Nat} {zero : List Value} {l : Arg} {c : Arg} : pev E L (.makeSlice t bytes zero l c) = (match pei E l, pei E c with
  | some (.int _ l), some (.int _ c) => if (0 ≤ l ∧ l ≤ c ∧ c ≤ 9223372036854775807 ∧ (bytes : Int) * c ≤ 281474976710656) ∧ zero.all one = true then
    some (.slc L.length 0 l.toNat c.toNat, L ++ [.row t ((repl zero c.toNat).map .v)], true) else none
  | _, _ => none) := nrfl rfl
theorem pev_makeMap  : pev E L (.makeMap) = (some (.mapr L.length, L ++ [.map [] 0], true)) := nrfl rfl
theorem pev_slice {t : TypeId} {size : Nat} {x : Arg} {lo : Option Arg} {hi : Option Arg} {mx : Option Arg} : pev E L (.slice t size x lo hi mx) = (match peo E lo, peo E hi, peo E mx with
  | some lo, some hi, some mx => match pea E x with
   | some (.slc i o len cap) => match boundsV len cap lo hi mx with
    | some (l, h, m) => if l = 0 ∨ (prow L i).map (·.1) = some t then some (.slc i (o + l * size) (h - l) (m - l), L, true) else none
    | none => none
   | some (.fz t' n cs) => match mx with
    | none => match boundsV n n lo hi none with
     | some (l, h, _) => if t' = t ∧ h * size ≤ cs.length then some (.fz t' (h - l) (cut cs (l * size) ((h - l) * size)), L, true) else none
     | none => none
    | some _ => none
   | some (.v (.slice none len cap)) => match boundsV len cap lo hi mx with
    | some (l, h, m) => some (.v (.slice none (h - l) (m - l)), L, true)
    | none => none
   | _ => none
  | _, _, _ => none) := nrfl rfl
theorem pev_sliceStr {x : Arg} {lo : Option Arg} {hi : Option Arg} : pev E L (.sliceStr x lo hi) = (match pei E x, peo E lo, peo E hi with
  | some (.string s), some lo, some hi => match boundsV s.size s.size lo hi none with
   | some (l, h, _) => some (.v (.string (s.extract l h)), L, true)
   | none => none
  | _, _, _ => none) := nrfl rfl
theorem pev_sliceArr {n : Nat} {size : Nat} {x : Arg} {lo : Option Arg} {hi : Option Arg} {mx : Option Arg} : pev E L (.sliceArr n size x lo hi mx) = (match peo E lo, peo E hi, peo E mx with
  | some lo, some hi, some mx => match pea E x with
   | some (.ptr i o) => match boundsV n n lo hi mx with
    | some (l, h, m) => some (.slc i (o + l * size) (h - l) (m - l), L, true)
    | none => none
   | _ => none
  | _, _, _ => none) := nrfl rfl
theorem pev_fieldAddr {off : Nat} {x : Arg} : pev E L (.fieldAddr off x) = (match pea E x with
  | some (.ptr i o) => some (.ptr i (o + off), L, true)
  | some (.fp cs) => if off ≤ cs.length then some (.fp (cs.drop off), L, true) else none
  | _ => none) := nrfl rfl
theorem pev_field {off : Nat} {agg : Option Nat} {x : Arg} : pev E L (.field off agg x) = (match pea E x with
  | some (.agg cs) => aggOf' cs off agg L
  | _ => none) := nrfl rfl
theorem pev_indexAddr {size : Nat} {x : Arg} {i : Arg} : pev E L (.indexAddr size x i) = (match pea E x, pei E i with
  | some (.slc j o len _), some (.int _ n) => if 0 ≤ n ∧ n < (len : Int) then some (.ptr j (o + n.toNat * size), L, true) else none
  | some (.fz _ len cs), some (.int _ n) => if 0 ≤ n ∧ n < (len : Int) ∧ (cut cs (n.toNat * size) size).length = size then some (.fp (cut cs (n.toNat * size) size), L, true) else none
  | _, _ => none) := nrfl rfl
theorem pev_indexAddrArr {len : Nat} {size : Nat} {x : Arg} {i : Arg} : pev E L (.indexAddrArr len size x i) = (match pea E x, pei E i with
  | some (.ptr j o), some (.int _ n) => if 0 ≤ n ∧ n < (len : Int) then some (.ptr j (o + n.toNat * size), L, true) else none
  | some (.fp cs), some (.int _ n) => if 0 ≤ n ∧ n < (len : Int) ∧ n.toNat * size ≤ cs.length then some (.fp (cs.drop (n.toNat * size)), L, true) else none
  | some (.v (.pointer (some a))), some (.int _ n) => match glZ a.block with
   | some z => if a.off = 0 ∧ a.spot = none ∧ 0 ≤ n ∧ n < (len : Int) ∧ n.toNat * size ≤ z.cs.length then some (.fp ((z.cs.drop (n.toNat * size)).map .v), L, true) else none
   | none => none
  | _, _ => none) := nrfl rfl
theorem pev_indexStr {x : Arg} {i : Arg} : pev E L (.indexStr x i) = (match pei E x, pei E i with
  | some (.string s), some (.int _ n) => if 0 ≤ n then (match s[n.toNat]? with | some b => some (.v (.int .u8 b.toNat), L, true) | none => none) else none
  | _, _ => none) := nrfl rfl
theorem pev_indexArr {len : Nat} {size : Nat} {agg : Option Nat} {x : Arg} {i : Arg} : pev E L (.indexArr len size agg x i) = (match pea E x, pei E i with
  | some (.agg cs), some (.int _ n) => if 0 ≤ n ∧ n < (len : Int) then aggOf' cs (n.toNat * size) agg L else none
  | _, _ => none) := nrfl rfl
theorem pev_extract {x : Arg} {i : Nat} : pev E L (.extract x i) = (match pea E x with
  | some (.tup cs) => match cs[i]? with | some q => some (q, L, true) | none => none
  | _ => none) := nrfl rfl
theorem pev_lookup {kk : KeyK} {zero : Value} {ok : Bool} {m : Arg} {k : Arg} : pev E L (.lookup kk zero ok m k) = (match pea E m, pei E k, ofV zero with
  | some m, some k, some z => match pmap L m with
   | some (es, _) => if keyOk kk k = true then
     match pfind kk k es 0 with
     | some (some (_, q)) => if nl q = true then some (bif ok then .tup [q, .v (.bool true)] else q, L, true) else none
     | some none => some (bif ok then .tup [z, .v (.bool false)] else z, L, true)
     | none => none
    else none
   | none => none
  | _, _, _ => none) := nrfl rfl
theorem pev_mapUpdate {kk : KeyK} {m : Arg} {k : Arg} {v : Arg} : pev E L (.mapUpdate kk m k v) = (match pea E m, pei E k, pea E v with
  | some (.mapr i), some k, some p => match L[i]? with
   | some (.map es c) => if keyOk kk k = true then
     match pfind kk k es 0 with
     | some (some (j, _)) => some (.tup [], L.set i (.map (es.modify j fun e => (k, p, e.2.2)) c), false)
     | some none => some (.tup [], L.set i (.map (es ++ [(k, p, c)]) (c + 1)), false)
     | none => none
    else none
   | _ => none
  | _, _, _ => none) := nrfl rfl
theorem pev_assertTo {t : TypeId} {zero : Value} {ok : Bool} {x : Arg} : pev E L (.assertTo t zero ok x) = (match pea E x, ofV zero with
  | some (.ifc t' p), some z => if t = t' then some (bif ok then .tup [p, .v (.bool true)] else p, L, true) else bif ok then some (.tup [z, .v (.bool false)], L, true) else none
  | some (.v .nilIface), some z => bif ok then some (.tup [z, .v (.bool false)], L, true) else none
  | _, _ => none) := nrfl rfl
theorem pev_lenStr {x : Arg} : pev E L (.lenStr x) = (match pei E x with
  | some (.string s) => some (.v (mkInt s.size), L, true)
  | _ => none) := nrfl rfl
theorem pev_lenSl {x : Arg} : pev E L (.lenSl x) = (match pea E x with
  | some (.slc _ _ n _) => some (.v (mkInt n), L, true)
  | some (.fz _ n _) => some (.v (mkInt n), L, true)
  | some (.v (.slice none n _)) => some (.v (mkInt n), L, true)
  | _ => none) := nrfl rfl
theorem pev_lenMap {x : Arg} : pev E L (.lenMap x) = (match pea E x with
  | some m => match pmap L m with
   | some (es, _) => some (.v (mkInt es.length), L, true)
   | none => none
  | none => none) := nrfl rfl
theorem pev_lenArr {n : Nat} : pev E L (.lenArr n) = (some (.v (mkInt n), L, true)) := nrfl rfl
theorem pev_append {t : TypeId} {size : Nat} {bytes : Nat} {s : Arg} {x : Arg} : pev E L (.append t size bytes s x) = (match pea E s, pea E x with
  | some s, some x => pappend L t size bytes s x
  | _, _ => none) := nrfl rfl
theorem pev_minMax {mx : Bool} {x : Arg} {y : Arg} : pev E L (.minMax mx x y) = (match pei E x, pei E y with
  | some (.int k a), some (.int k' b) => if k = k' then some (.v (.int k (bif mx then (if b > a then b else a) else (if b < a then b else a))), L, true) else none
  | _, _ => none) := nrfl rfl
theorem pev_rangeStr {x : Arg} : pev E L (.rangeStr x) = (match pei E x with
  | some (.string s) => some (.ptr L.length 0, L ++ [.iter s 0], true)
  | _ => none) := nrfl rfl
theorem pev_nextStr {x : Arg} : pev E L (.nextStr x) = (match pea E x with
  | some (.ptr i 0) => match L[i]? with
   | some (.iter s pos) => if pos + 1 ≤ s.size then some (.tup [.v (.bool true), .v (mkInt pos), .v (.int .i32 (Utf8.decode s pos).1)], L.set i (.iter s (pos + (Utf8.decode s pos).2)), false)
    else some (.tup [.v (.bool false)], L, true)
   | _ => none
  | _ => none) := nrfl rfl
theorem pev_clear {zero : List Value} {x : Arg} : pev E L (.clear zero x) = (match pea E x with
  | some (.slc i o len _) => if len = 0 then some (.tup [], L, true) else match prow L i with
   | some (t, cs) => if o + len * zero.length ≤ cs.length ∧ zero.all one = true then some (.tup [], L.set i (.row t (psplice cs o ((repl zero len).map .v))), false) else none
   | none => none
  | _ => none) := nrfl rfl
attribute [simp] pev_rangeStr pev_nextStr pev_clear
theorem pea_tmp {n : Nat} : pea E (.tmp n) = (E.get n) := nrfl rfl
theorem pea_val {x : Value} : pea E (.val x) = (ofV x) := nrfl rfl
theorem pei_def {a : Arg} : pei E a = (match pea E a with | some (.v x) => some x | _ => none) := nrfl rfl
theorem peas_nil  : peas E [] = (some []) := nrfl rfl
theorem peas_cons {a : Arg} {as : List Arg} : peas E (a :: as) = (match pea E a, peas E as with | some p, some ps => some (p :: ps) | _, _ => none) := nrfl rfl
theorem peap_nil  : peap E [] = (some []) := nrfl rfl
theorem peap_cons {o n : Nat} {a : Arg} {as : List (Nat × Nat × Arg)} : peap E ((o, n, a) :: as) = (match pea E a, peap E as with | some p, some ps => some ((o, n, p) :: ps) | _, _ => none) := nrfl rfl
theorem peo_none  : peo E none = (some none) := nrfl rfl
theorem peo_some {a : Arg} : peo E (some a) = (match pei E a with | some x => some (some x) | none => none) := nrfl rfl
theorem pfill_nil {cs : List PV} : pfill cs [] = (some cs) := nrfl rfl
theorem pfill_cons {cs : List PV} {o n : Nat} {p : PV} {rest : List (Nat × Nat × PV)} : pfill cs ((o, n, p) :: rest) = (if (pcells p).length = n ∧ o + n ≤ cs.length then pfill (psplice cs o (pcells p)) rest else none) := nrfl rfl
theorem psetD_some {n : Nat} {p : PV} : psetD E (some n) p = (E.set n p) := nrfl rfl
theorem psetD_none {p : PV} : psetD E none p = (E) := nrfl rfl
theorem pcells_v {x : Value} : pcells (.v x) = ([.v x]) := nrfl rfl
theorem pcells_ptr {i o : Nat} : pcells (.ptr i o) = ([.ptr i o]) := nrfl rfl
theorem pcells_slc {i o n c : Nat} : pcells (.slc i o n c) = ([.slc i o n c]) := nrfl rfl
theorem pcells_mapr {i : Nat} : pcells (.mapr i) = ([.mapr i]) := nrfl rfl
theorem pcells_fn {f : FuncId} {a c : List PV} : pcells (.fn f a c) = ([.fn f a c]) := nrfl rfl
theorem pcells_ifc {t : TypeId} {p : PV} : pcells (.ifc t p) = ([.ifc t p]) := nrfl rfl
theorem pcells_tup {cs : List PV} : pcells (.tup cs) = ([.tup cs]) := nrfl rfl
theorem pcells_fz {t : TypeId} {n : Nat} {cs : List PV} : pcells (.fz t n cs) = ([.fz t n cs]) := nrfl rfl
theorem pcells_fp {cs : List PV} : pcells (.fp cs) = ([.fp cs]) := nrfl rfl
theorem pcells_yl {i : Nat} : pcells (.yl i) = ([.yl i]) := nrfl rfl
theorem pcells_agg {cs : List PV} : pcells (.agg cs) = (cs) := nrfl rfl
theorem prow_def {i : Nat} : prow L i = (match L[i]? with | some (.row t cs) => some (t, cs) | _ => none) := nrfl rfl
theorem pload_e0 {agg : Option Nat} {i : Nat} {o : Nat} : pload L agg (.ptr i o) = (match prow L i with
  | some (t, cs) => match agg with
   | none => match cs[o]? with
    | some q => if nl q = true then some (q, L, true) else match unp q L.length with
     | some (q', ob) => some (q', L.set i (.row t (psplice cs o [q'])) ++ [ob], true)
     | none => none
    | none => none
   | some n => if o + n ≤ cs.length ∧ allNl (cut cs o n) then some (.agg (cut cs o n), L, true) else none
  | none => none) := nrfl rfl
theorem pload_e1 {agg : Option Nat} {cs : List PV} : pload L agg (.fp cs) = (match agg with
  | none => match cs with | q :: _ => some (q, L, true) | [] => none
  | some n => if 0 < n ∧ n ≤ cs.length then some (.agg (cs.take n), L, true) else none) := nrfl rfl
theorem psrc_e0 {size : Nat} {n : Nat} {y0 : Nat} : psrc L size (.v (.slice none n y0)) = (if n = 0 then some ([], 0) else none) := nrfl rfl
theorem psrc_e1 {size : Nat} {i : Nat} {o : Nat} {n : Nat} {y0 : Nat} : psrc L size (.slc i o n y0) = (match prow L i with
  | some (_, cs) => if o + n * size ≤ cs.length ∧ allNl (cut cs o (n * size)) then some (cut cs o (n * size), n) else none
  | none => none) := nrfl rfl
theorem psrc_e2 {size : Nat} {y0 : Nat} {n : Nat} {cs : List PV} : psrc L size (.fz y0 n cs) = (if cs.length = n * size then some (cs, n) else none) := nrfl rfl
theorem psrc_e3 {size : Nat} {s : ByteArray} : psrc L size (.v (.string s)) = (if size = 1 then some (s.data.toList.map fun b => .v (.int .u8 b.toNat), s.size) else none) := nrfl rfl
theorem pmap_e0  {i : Nat} : pmap L (.mapr i) = (match L[i]? with
  | some (.map es c) => some (es, c)
  | some (.rmap es c) => some (es, c)
  | _ => none) := nrfl rfl
theorem pmap_e1   : pmap L (.v (.map none)) = (some ([], 0)) := nrfl rfl
theorem pappend_def {t : TypeId} {size bytes : Nat} {s x : PV} : pappend L t size bytes s x = (match psrc L size x with
 | none => none
 | some (new, m) => match s with
  | .v (.slice none len cap) => if len = 0 ∧ cap = 0 ∧ 1 ≤ size ∧ roomy m bytes ∧ allOne new then some (.slc L.length 0 m m, L ++ [.row t new], true) else none
  | .fz t' n cs => if m = 0 then some (.fz t' n cs, L, true) else none
  | .slc i o len cap => match prow L i with
   | some (t', cs) => if allOne new ∧ o = 0 ∧ len = cap ∧ t' = t ∧ cs.length = len * size ∧ 1 ≤ size ∧ roomy (len + m) bytes then
     some (.slc L.length 0 (len + m) (len + m), L.set i .dead ++ [.row t (cs ++ new)], true)
    else if m = 0 then some (.slc i o len cap, L, true)
    else if allOne new then
     if len + m ≤ cap then (if o + len * size + new.length ≤ cs.length then some (.slc i o (len + m) cap, L.set i (.row t' (psplice cs (o + len * size) new)), false) else none)
     else if t' = t ∧ roomy (len + m) bytes ∧ o + len * size ≤ cs.length ∧ 1 ≤ size then
      some (.slc L.length 0 (len + m) (len + m), L.set i .dead ++ [.row t (cut cs o (len * size) ++ new)], decide (o + len * size = cs.length ∧ len = cap)) else none
    else none
   | none => none
  | _ => none) := nrfl rfl
theorem pval_some {x : Value} : pval L (some x) = (some (.v x, L, true)) := nrfl rfl
theorem pval_none  : pval L none = (none) := nrfl rfl
theorem aggOf_def {cs : List PV} {o : Nat} {agg : Option Nat} : aggOf' cs o agg L = (match agg with
 | none => match cs[o]? with | some q => some (q, L, true) | none => none
 | some n => some (.agg (cut cs o n), L, true)) := nrfl rfl
theorem pfind_nil {kk : KeyK} {k : Value} {i : Nat} : pfind kk k [] i = (some none) := nrfl rfl
theorem pfind_cons {kk : KeyK} {k : Value} {i : Nat} {e : Value × PV × Nat} {es : List (Value × PV × Nat)} : pfind kk k (e :: es) i = (match keyEq kk k e.1 with | some true => some (some (i, e.2.1)) | some false => pfind kk k es (i + 1) | none => none) := nrfl rfl
attribute [simp] pev_mov pev_pick pev_box pev_build pev_buildSlice pev_load pev_store pev_nilCheck pev_arith pev_eqBool pev_eqNil pev_eqPtr pev_un pev_toInt pev_iface pev_func pev_makeSlice pev_makeMap pev_slice pev_sliceStr pev_sliceArr pev_fieldAddr pev_field pev_indexAddr pev_indexAddrArr pev_indexStr pev_indexArr pev_extract pev_lookup pev_mapUpdate pev_assertTo pev_lenStr pev_lenSl pev_lenMap pev_lenArr pev_append pev_minMax pea_tmp pea_val pei_def peas_nil peas_cons peap_nil peap_cons peo_none peo_some pfill_nil pfill_cons psetD_some psetD_none pcells_v pcells_ptr pcells_slc pcells_mapr pcells_fn pcells_ifc pcells_tup pcells_fz pcells_fp pcells_yl pcells_agg prow_def pload_e0 pload_e1 psrc_e0 psrc_e1 psrc_e2 psrc_e3 pmap_e0 pmap_e1 pappend_def pval_some pval_none aggOf_def pfind_nil pfind_cons
end
attribute [simp] pwanted ofV press pres pone1 ploadv penv funcArgs noId noIdL one peqNil unp
theorem int_beq (a b : Int) : (a == b) = decide (a = b) := by by_cases h : a = b <;> simp [h]
theorem int_bne (a b : Int) : (a != b) = !decide (a = b) := by by_cases h : a = b <;> simp [h]
section
variable {k : PEnv → List LObj → Prop} {R : PEnv → List LObj → Prop} {id j : Nat} {l l' : List Ins} {a b : ICode} {c : Arg} {p : PV} {q : Bool} {f : Arg} {as : List Arg} {ps : List Nat} {d : Option Nat} {g : Option (Nat × Bool)} {op : IOp}
section
variable (F X0 X)
def PIk (op : IOp) (l : List Ins) (R : PEnv → List LObj → Prop) (d : Option Nat) (E : PEnv) (L : List LObj) : Prop := PI F X0 X op (fun p L' => PO F X0 X l R (psetD E d p) L') E L
def PJk (op : IOp) (l : List Ins) (R : PEnv → List LObj → Prop) (d : Option Nat) (E : PEnv) (L : List LObj) : Prop := PJ F X0 X op (fun p L' => PQ F X0 X l R (psetD E d p) L') E L
def PFk (fv : PV) (args : List PV) (l : List Ins) (R : PEnv → List LObj → Prop) (d : Option Nat) (E : PEnv) (L : List LObj) : Prop := PF F X0 X false fv args L (fun p L' => PO F X0 X l R (psetD E d p) L')
def PGk (fv : PV) (args : List PV) (l : List Ins) (R : PEnv → List LObj → Prop) (d : Option Nat) (E : PEnv) (L : List LObj) : Prop := PF F X0 X true fv args L (fun p L' => PQ F X0 X l R (psetD E d p) L')
def pKk (l : List Ins) (R : PEnv → List LObj → Prop) (d : Option Nat) (E : PEnv) : PRes → Prop
 | some (p, L', _) => PO F X0 X l R (psetD E d p) L'
 | none => False
def pKj (l : List Ins) (R : PEnv → List LObj → Prop) (d : Option Nat) (E : PEnv) : PRes → Prop
 | some (p, L', true) => PQ F X0 X l R (psetD E d p) L'
 | _ => False
def pCk (l : List Ins) (R : PEnv → List LObj → Prop) (d : Option Nat) (E : PEnv) (L : List LObj) : Option PV → Option (List PV) → Prop
 | some fv, some args => PFk F X0 X fv args l R d E L
 | _, _ => False
def pCj (l : List Ins) (R : PEnv → List LObj → Prop) (d : Option Nat) (E : PEnv) (L : List LObj) : Option PV → Option (List PV) → Prop
 | some fv, some args => PGk F X0 X fv args l R d E L
 | _, _ => False
def pNk (l : List Ins) (R : PEnv → List LObj → Prop) (d : Option Nat) (E : PEnv) (L : List LObj) (r : PRes) (x y : Option PV) : Prop := pnilK (fun p L' => PO F X0 X l R (psetD E d p) L') L r x y
def pcondK (n0 : Nat) (a b : ICode) (Q : Ex → PEnv → List LObj → Prop) (E : PEnv) (L : List LObj) : Option Value → Prop
 | some (.bool t) => (t = true → PW F X0 X n0 a Q E L) ∧ (t = false → PW F X0 X n0 b Q E L)
 | _ => False
end
theorem PW_skip : PW F X0 X n0 .skip Q E L = Q .norm E L := nrfl rfl
theorem PW_ops : PW F X0 X n0 (.ops l) Q E L = PO F X0 X l (Q .norm) E L := nrfl rfl
theorem PW_draw : PW F X0 X n0 (.draw l l') Q E L = PQ F X0 X l (PO F X0 X l' (Q .norm)) E L := nrfl rfl
theorem PW_seq : PW F X0 X n0 (.seq a b) Q E L = PW F X0 X n0 a (pnext (PW F X0 X n0 b Q) Q) E L := nrfl rfl
theorem PW_cond : PW F X0 X n0 (.cond c a b) Q E L = pcondK F X0 X n0 a b Q E L (pei E c) := by
 simp only [PW, pcondK]
theorem pcondK_bool {t : Bool} : pcondK F X0 X n0 a b Q E L (some (.bool t)) = ((t = true → PW F X0 X n0 a Q E L) ∧ (t = false → PW F X0 X n0 b Q E L)) := nrfl rfl
theorem PW_block : PW F X0 X n0 (.block id a) Q E L = PW F X0 X n0 a (pout id Q) E L := nrfl rfl
theorem PW_exit : PW F X0 X n0 (.exit id) Q E L = Q (.exit id) E L := nrfl rfl
theorem PW_ret : PW F X0 X n0 .ret Q E L = Q .ret E L := nrfl rfl
theorem PW_loop : PW F X0 X n0 (.loop a) Q E L = PC F X0 X n0 (.loop a) Q E L := nrfl rfl
theorem PW_range : PW F X0 X n0 (.rangeFunc f ps a b) Q E L = PC F X0 X n0 (.rangeFunc f ps a b) Q E L := nrfl rfl
theorem PO_nil : PO F X0 X [] R E L = R E L := nrfl rfl
theorem PO_cons : PO F X0 X (⟨d, g, op⟩ :: l) R E L = if pwanted E g = some true then PIk F X0 X op l R d E L else if pwanted E g = some false then PO F X0 X l R (psetD E d (.tup [])) L else False := nrfl rfl
theorem PQ_nil : PQ F X0 X [] R E L = R E L := nrfl rfl
theorem PQ_cons : PQ F X0 X (⟨d, g, op⟩ :: l) R E L = if pwanted E g = some true then PJk F X0 X op l R d E L else if pwanted E g = some false then PQ F X0 X l R (psetD E d (.tup [])) L else False := nrfl rfl
theorem PIk_call : PIk F X0 X (.call f as) l R d E L = pCk F X0 X l R d E L (pea E f) (peas E as) := by
 unfold PIk pCk PI PFk
 simp only
 split
 ·rename_i h1 h2; rw [h1, h2]; simp
 ·rename_i h1
  refine eq_false ?_
  rintro ⟨fv, h2, args, h3, _⟩
  exact h1 fv args h2 h3
theorem PJk_call : PJk F X0 X (.call f as) l R d E L = pCj F X0 X l R d E L (pea E f) (peas E as) := by
 unfold PJk pCj PJ PGk
 simp only
 split
 ·rename_i h1 h2; rw [h1, h2]; simp
 ·rename_i h1
  refine eq_false ?_
  rintro ⟨fv, h2, args, h3, _⟩
  exact h1 fv args h2 h3
theorem pCk_some {fv : PV} {args : List PV} : pCk F X0 X l R d E L (some fv) (some args) = PFk F X0 X fv args l R d E L := nrfl rfl
theorem pCj_some {fv : PV} {args : List PV} : pCj F X0 X l R d E L (some fv) (some args) = PGk F X0 X fv args l R d E L := nrfl rfl
theorem PIk_nil {neg : Bool} {x y : Arg} : PIk F X0 X (.eqNil .slice neg x y) l R d E L = pNk F X0 X l R d E L (pev E L (.eqNil .slice neg x y)) (pea E x) (pea E y) := nrfl rfl
theorem pNk_some {x y : Option PV} : pNk F X0 X l R d E L (some (p, L', q)) x y = PO F X0 X l R (psetD E d p) L' := by cases x <;> cases y <;> exact nrfl rfl
theorem both (P : Bool → Prop) : (∀ b, P b) = (P true ∧ P false) := propext ⟨fun h => ⟨h true, h false⟩, fun h b => by cases b; exact h.2; exact h.1⟩
theorem pNk_fz {t : TypeId} {cs : List PV} {n m : Nat} : pNk F X0 X l R d E L none (some (.fz t 0 cs)) (some (.v (.slice none n m))) = (PO F X0 X l R (psetD E d (.v (.bool true))) L ∧ PO F X0 X l R (psetD E d (.v (.bool false))) L) := both _
theorem pNk_slc {i o c n m : Nat} : pNk F X0 X l R d E L none (some (.slc i o 0 c)) (some (.v (.slice none n m))) = (PO F X0 X l R (psetD E d (.v (.bool true))) L ∧ PO F X0 X l R (psetD E d (.v (.bool false))) L) := both _
theorem pKk_some : pKk F X0 X l R d E (some (p, L', q)) = PO F X0 X l R (psetD E d p) L' := nrfl rfl
theorem pKj_some : pKj F X0 X l R d E (some (p, L', true)) = PQ F X0 X l R (psetD E d p) L' := nrfl rfl
theorem pnext_norm : pnext k Q .norm E L = k E L := nrfl rfl
theorem pnext_exit : pnext k Q (.exit id) E L = Q (.exit id) E L := nrfl rfl
theorem pnext_ret : pnext k Q .ret E L = Q .ret E L := nrfl rfl
theorem pout_norm : pout id Q .norm E L = Q .norm E L := nrfl rfl
theorem pout_exit : pout id Q (.exit j) E L = if j = id then Q .norm E L else Q (.exit j) E L := nrfl rfl
theorem pout_ret : pout id Q .ret E L = Q .ret E L := nrfl rfl
theorem PP.runk {fv : PV} {args : List PV} {v : PV} (h : PP F X0 X fv args v) (hk : PO F X0 X l R (psetD E d v) L) : PFk F X0 X fv args l R d E L := h.run hk
theorem PP.runj {fv : PV} {args : List PV} {v : PV} (h : PP F X0 X fv args v) (hk : PQ F X0 X l R (psetD E d v) L) : PGk F X0 X fv args l R d E L := h.run hk
theorem PIk_mov {x0 : Arg} : PIk F X0 X (.mov x0) l R d E L = pKk F X0 X l R d E (pev E L (.mov x0)) := nrfl rfl
theorem PJk_mov {x0 : Arg} : PJk F X0 X (.mov x0) l R d E L = pKj F X0 X l R d E (pev E L (.mov x0)) := nrfl rfl
theorem PIk_pick {x0 : Arg} {x1 : Arg} {x2 : Arg} : PIk F X0 X (.pick x0 x1 x2) l R d E L = pKk F X0 X l R d E (pev E L (.pick x0 x1 x2)) := nrfl rfl
theorem PJk_pick {x0 : Arg} {x1 : Arg} {x2 : Arg} : PJk F X0 X (.pick x0 x1 x2) l R d E L = pKj F X0 X l R d E (pev E L (.pick x0 x1 x2)) := nrfl rfl
theorem PIk_box {x0 : TypeId} {x1 : Arg} : PIk F X0 X (.box x0 x1) l R d E L = pKk F X0 X l R d E (pev E L (.box x0 x1)) := nrfl rfl
theorem PJk_box {x0 : TypeId} {x1 : Arg} : PJk F X0 X (.box x0 x1) l R d E L = pKj F X0 X l R d E (pev E L (.box x0 x1)) := nrfl rfl
theorem PIk_build {x0 : List Value} {x1 : List (Nat × Nat × Arg)} : PIk F X0 X (.build x0 x1) l R d E L = pKk F X0 X l R d E (pev E L (.build x0 x1)) := nrfl rfl
theorem PJk_build {x0 : List Value} {x1 : List (Nat × Nat × Arg)} : PJk F X0 X (.build x0 x1) l R d E L = pKj F X0 X l R d E (pev E L (.build x0 x1)) := nrfl rfl
theorem PIk_buildSlice {x0 : TypeId} {x1 : Nat} {x2 : List Value} {x3 : List (Nat × Nat × Arg)} : PIk F X0 X (.buildSlice x0 x1 x2 x3) l R d E L = pKk F X0 X l R d E (pev E L (.buildSlice x0 x1 x2 x3)) := nrfl rfl
theorem PJk_buildSlice {x0 : TypeId} {x1 : Nat} {x2 : List Value} {x3 : List (Nat × Nat × Arg)} : PJk F X0 X (.buildSlice x0 x1 x2 x3) l R d E L = pKj F X0 X l R d E (pev E L (.buildSlice x0 x1 x2 x3)) := nrfl rfl
theorem PIk_load {x0 : Option Nat} {x1 : Arg} : PIk F X0 X (.load x0 x1) l R d E L = pKk F X0 X l R d E (pev E L (.load x0 x1)) := nrfl rfl
theorem PJk_load {x0 : Option Nat} {x1 : Arg} : PJk F X0 X (.load x0 x1) l R d E L = pKj F X0 X l R d E (pev E L (.load x0 x1)) := nrfl rfl
theorem PIk_store {x0 : Nat} {x1 : Arg} {x2 : Arg} : PIk F X0 X (.store x0 x1 x2) l R d E L = pKk F X0 X l R d E (pev E L (.store x0 x1 x2)) := nrfl rfl
theorem PJk_store {x0 : Nat} {x1 : Arg} {x2 : Arg} : PJk F X0 X (.store x0 x1 x2) l R d E L = pKj F X0 X l R d E (pev E L (.store x0 x1 x2)) := nrfl rfl
theorem PIk_nilCheck {x0 : Arg} : PIk F X0 X (.nilCheck x0) l R d E L = pKk F X0 X l R d E (pev E L (.nilCheck x0)) := nrfl rfl
theorem PJk_nilCheck {x0 : Arg} : PJk F X0 X (.nilCheck x0) l R d E L = pKj F X0 X l R d E (pev E L (.nilCheck x0)) := nrfl rfl
theorem PIk_arith {x0 : BinOp} {x1 : Arg} {x2 : Arg} : PIk F X0 X (.arith x0 x1 x2) l R d E L = pKk F X0 X l R d E (pev E L (.arith x0 x1 x2)) := nrfl rfl
theorem PJk_arith {x0 : BinOp} {x1 : Arg} {x2 : Arg} : PJk F X0 X (.arith x0 x1 x2) l R d E L = pKj F X0 X l R d E (pev E L (.arith x0 x1 x2)) := nrfl rfl
theorem PIk_eqBool {x0 : Bool} {x1 : Arg} {x2 : Arg} : PIk F X0 X (.eqBool x0 x1 x2) l R d E L = pKk F X0 X l R d E (pev E L (.eqBool x0 x1 x2)) := nrfl rfl
theorem PJk_eqBool {x0 : Bool} {x1 : Arg} {x2 : Arg} : PJk F X0 X (.eqBool x0 x1 x2) l R d E L = pKj F X0 X l R d E (pev E L (.eqBool x0 x1 x2)) := nrfl rfl
theorem PIk_eqNilmap {x0 : Bool} {x1 : Arg} {x2 : Arg} : PIk F X0 X (.eqNil .map x0 x1 x2) l R d E L = pKk F X0 X l R d E (pev E L (.eqNil .map x0 x1 x2)) := nrfl rfl
theorem PJk_eqNilmap {x0 : Bool} {x1 : Arg} {x2 : Arg} : PJk F X0 X (.eqNil .map x0 x1 x2) l R d E L = pKj F X0 X l R d E (pev E L (.eqNil .map x0 x1 x2)) := nrfl rfl
theorem PIk_eqNilfunc {x0 : Bool} {x1 : Arg} {x2 : Arg} : PIk F X0 X (.eqNil .func x0 x1 x2) l R d E L = pKk F X0 X l R d E (pev E L (.eqNil .func x0 x1 x2)) := nrfl rfl
theorem PJk_eqNilfunc {x0 : Bool} {x1 : Arg} {x2 : Arg} : PJk F X0 X (.eqNil .func x0 x1 x2) l R d E L = pKj F X0 X l R d E (pev E L (.eqNil .func x0 x1 x2)) := nrfl rfl
theorem PIk_eqNilptr {x0 : Bool} {x1 : Arg} {x2 : Arg} : PIk F X0 X (.eqNil .ptr x0 x1 x2) l R d E L = pKk F X0 X l R d E (pev E L (.eqNil .ptr x0 x1 x2)) := nrfl rfl
theorem PJk_eqNilptr {x0 : Bool} {x1 : Arg} {x2 : Arg} : PJk F X0 X (.eqNil .ptr x0 x1 x2) l R d E L = pKj F X0 X l R d E (pev E L (.eqNil .ptr x0 x1 x2)) := nrfl rfl
theorem PIk_un {x0 : UnOp} {x1 : Arg} : PIk F X0 X (.un x0 x1) l R d E L = pKk F X0 X l R d E (pev E L (.un x0 x1)) := nrfl rfl
theorem PJk_un {x0 : UnOp} {x1 : Arg} : PJk F X0 X (.un x0 x1) l R d E L = pKj F X0 X l R d E (pev E L (.un x0 x1)) := nrfl rfl
theorem PIk_toInt {x0 : IntKind} {x1 : Arg} : PIk F X0 X (.toInt x0 x1) l R d E L = pKk F X0 X l R d E (pev E L (.toInt x0 x1)) := nrfl rfl
theorem PJk_toInt {x0 : IntKind} {x1 : Arg} : PJk F X0 X (.toInt x0 x1) l R d E L = pKj F X0 X l R d E (pev E L (.toInt x0 x1)) := nrfl rfl
theorem PIk_func {x0 : FuncId} {x1 : List Arg} {x2 : List Arg} : PIk F X0 X (.func x0 x1 x2) l R d E L = pKk F X0 X l R d E (pev E L (.func x0 x1 x2)) := nrfl rfl
theorem PJk_func {x0 : FuncId} {x1 : List Arg} {x2 : List Arg} : PJk F X0 X (.func x0 x1 x2) l R d E L = pKj F X0 X l R d E (pev E L (.func x0 x1 x2)) := nrfl rfl
theorem PIk_makeSlice {x0 : TypeId} {x1 : Nat} {x2 : List Value} {x3 : Arg} {x4 : Arg} : PIk F X0 X (.makeSlice x0 x1 x2 x3 x4) l R d E L = pKk F X0 X l R d E (pev E L (.makeSlice x0 x1 x2 x3 x4)) := nrfl rfl
theorem PJk_makeSlice {x0 : TypeId} {x1 : Nat} {x2 : List Value} {x3 : Arg} {x4 : Arg} : PJk F X0 X (.makeSlice x0 x1 x2 x3 x4) l R d E L = pKj F X0 X l R d E (pev E L (.makeSlice x0 x1 x2 x3 x4)) := nrfl rfl
theorem PIk_slice {x0 : TypeId} {x1 : Nat} {x2 : Arg} {x3 : Option Arg} {x4 : Option Arg} {x5 : Option Arg} : PIk F X0 X (.slice x0 x1 x2 x3 x4 x5) l R d E L = pKk F X0 X l R d E (pev E L (.slice x0 x1 x2 x3 x4 x5)) := nrfl rfl
theorem PJk_slice {x0 : TypeId} {x1 : Nat} {x2 : Arg} {x3 : Option Arg} {x4 : Option Arg} {x5 : Option Arg} : PJk F X0 X (.slice x0 x1 x2 x3 x4 x5) l R d E L = pKj F X0 X l R d E (pev E L (.slice x0 x1 x2 x3 x4 x5)) := nrfl rfl
theorem PIk_sliceStr {x0 : Arg} {x1 : Option Arg} {x2 : Option Arg} : PIk F X0 X (.sliceStr x0 x1 x2) l R d E L = pKk F X0 X l R d E (pev E L (.sliceStr x0 x1 x2)) := nrfl rfl
theorem PJk_sliceStr {x0 : Arg} {x1 : Option Arg} {x2 : Option Arg} : PJk F X0 X (.sliceStr x0 x1 x2) l R d E L = pKj F X0 X l R d E (pev E L (.sliceStr x0 x1 x2)) := nrfl rfl
theorem PIk_fieldAddr {x0 : Nat} {x1 : Arg} : PIk F X0 X (.fieldAddr x0 x1) l R d E L = pKk F X0 X l R d E (pev E L (.fieldAddr x0 x1)) := nrfl rfl
theorem PJk_fieldAddr {x0 : Nat} {x1 : Arg} : PJk F X0 X (.fieldAddr x0 x1) l R d E L = pKj F X0 X l R d E (pev E L (.fieldAddr x0 x1)) := nrfl rfl
theorem PIk_indexAddr {x0 : Nat} {x1 : Arg} {x2 : Arg} : PIk F X0 X (.indexAddr x0 x1 x2) l R d E L = pKk F X0 X l R d E (pev E L (.indexAddr x0 x1 x2)) := nrfl rfl
theorem PJk_indexAddr {x0 : Nat} {x1 : Arg} {x2 : Arg} : PJk F X0 X (.indexAddr x0 x1 x2) l R d E L = pKj F X0 X l R d E (pev E L (.indexAddr x0 x1 x2)) := nrfl rfl
theorem PIk_indexAddrArr {x0 : Nat} {x1 : Nat} {x2 : Arg} {x3 : Arg} : PIk F X0 X (.indexAddrArr x0 x1 x2 x3) l R d E L = pKk F X0 X l R d E (pev E L (.indexAddrArr x0 x1 x2 x3)) := nrfl rfl
theorem PJk_indexAddrArr {x0 : Nat} {x1 : Nat} {x2 : Arg} {x3 : Arg} : PJk F X0 X (.indexAddrArr x0 x1 x2 x3) l R d E L = pKj F X0 X l R d E (pev E L (.indexAddrArr x0 x1 x2 x3)) := nrfl rfl
theorem PIk_indexStr {x0 : Arg} {x1 : Arg} : PIk F X0 X (.indexStr x0 x1) l R d E L = pKk F X0 X l R d E (pev E L (.indexStr x0 x1)) := nrfl rfl
theorem PJk_indexStr {x0 : Arg} {x1 : Arg} : PJk F X0 X (.indexStr x0 x1) l R d E L = pKj F X0 X l R d E (pev E L (.indexStr x0 x1)) := nrfl rfl
theorem PIk_indexArr {x0 : Nat} {x1 : Nat} {x2 : Option Nat} {x3 : Arg} {x4 : Arg} : PIk F X0 X (.indexArr x0 x1 x2 x3 x4) l R d E L = pKk F X0 X l R d E (pev E L (.indexArr x0 x1 x2 x3 x4)) := nrfl rfl
theorem PJk_indexArr {x0 : Nat} {x1 : Nat} {x2 : Option Nat} {x3 : Arg} {x4 : Arg} : PJk F X0 X (.indexArr x0 x1 x2 x3 x4) l R d E L = pKj F X0 X l R d E (pev E L (.indexArr x0 x1 x2 x3 x4)) := nrfl rfl
theorem PIk_extract {x0 : Arg} {x1 : Nat} : PIk F X0 X (.extract x0 x1) l R d E L = pKk F X0 X l R d E (pev E L (.extract x0 x1)) := nrfl rfl
theorem PJk_extract {x0 : Arg} {x1 : Nat} : PJk F X0 X (.extract x0 x1) l R d E L = pKj F X0 X l R d E (pev E L (.extract x0 x1)) := nrfl rfl
theorem PIk_lookup {x0 : KeyK} {x1 : Value} {x2 : Bool} {x3 : Arg} {x4 : Arg} : PIk F X0 X (.lookup x0 x1 x2 x3 x4) l R d E L = pKk F X0 X l R d E (pev E L (.lookup x0 x1 x2 x3 x4)) := nrfl rfl
theorem PJk_lookup {x0 : KeyK} {x1 : Value} {x2 : Bool} {x3 : Arg} {x4 : Arg} : PJk F X0 X (.lookup x0 x1 x2 x3 x4) l R d E L = pKj F X0 X l R d E (pev E L (.lookup x0 x1 x2 x3 x4)) := nrfl rfl
theorem PIk_mapUpdate {x0 : KeyK} {x1 : Arg} {x2 : Arg} {x3 : Arg} : PIk F X0 X (.mapUpdate x0 x1 x2 x3) l R d E L = pKk F X0 X l R d E (pev E L (.mapUpdate x0 x1 x2 x3)) := nrfl rfl
theorem PJk_mapUpdate {x0 : KeyK} {x1 : Arg} {x2 : Arg} {x3 : Arg} : PJk F X0 X (.mapUpdate x0 x1 x2 x3) l R d E L = pKj F X0 X l R d E (pev E L (.mapUpdate x0 x1 x2 x3)) := nrfl rfl
theorem PIk_rangeStr {x0 : Arg} : PIk F X0 X (.rangeStr x0) l R d E L = pKk F X0 X l R d E (pev E L (.rangeStr x0)) := nrfl rfl
theorem PJk_rangeStr {x0 : Arg} : PJk F X0 X (.rangeStr x0) l R d E L = pKj F X0 X l R d E (pev E L (.rangeStr x0)) := nrfl rfl
theorem PIk_nextStr {x0 : Arg} : PIk F X0 X (.nextStr x0) l R d E L = pKk F X0 X l R d E (pev E L (.nextStr x0)) := nrfl rfl
theorem PJk_nextStr {x0 : Arg} : PJk F X0 X (.nextStr x0) l R d E L = pKj F X0 X l R d E (pev E L (.nextStr x0)) := nrfl rfl
theorem PIk_lenStr {x0 : Arg} : PIk F X0 X (.lenStr x0) l R d E L = pKk F X0 X l R d E (pev E L (.lenStr x0)) := nrfl rfl
theorem PJk_lenStr {x0 : Arg} : PJk F X0 X (.lenStr x0) l R d E L = pKj F X0 X l R d E (pev E L (.lenStr x0)) := nrfl rfl
theorem PIk_lenSl {x0 : Arg} : PIk F X0 X (.lenSl x0) l R d E L = pKk F X0 X l R d E (pev E L (.lenSl x0)) := nrfl rfl
theorem PJk_lenSl {x0 : Arg} : PJk F X0 X (.lenSl x0) l R d E L = pKj F X0 X l R d E (pev E L (.lenSl x0)) := nrfl rfl
theorem PIk_append {x0 : TypeId} {x1 : Nat} {x2 : Nat} {x3 : Arg} {x4 : Arg} : PIk F X0 X (.append x0 x1 x2 x3 x4) l R d E L = pKk F X0 X l R d E (pev E L (.append x0 x1 x2 x3 x4)) := nrfl rfl
theorem PJk_append {x0 : TypeId} {x1 : Nat} {x2 : Nat} {x3 : Arg} {x4 : Arg} : PJk F X0 X (.append x0 x1 x2 x3 x4) l R d E L = pKj F X0 X l R d E (pev E L (.append x0 x1 x2 x3 x4)) := nrfl rfl
theorem PIk_clear {x0 : List Value} {x1 : Arg} : PIk F X0 X (.clear x0 x1) l R d E L = pKk F X0 X l R d E (pev E L (.clear x0 x1)) := nrfl rfl
theorem PJk_clear {x0 : List Value} {x1 : Arg} : PJk F X0 X (.clear x0 x1) l R d E L = pKj F X0 X l R d E (pev E L (.clear x0 x1)) := nrfl rfl
theorem PJk_eqNilslice {x0 : Bool} {x1 x2 : Arg} : PJk F X0 X (.eqNil .slice x0 x1 x2) l R d E L = pKj F X0 X l R d E (pev E L (.eqNil .slice x0 x1 x2)) := nrfl rfl
end
attribute [simp] PW_skip PW_ops PW_draw PW_seq PW_cond pcondK_bool PW_block PW_exit PW_ret PW_loop PW_range PO_nil PO_cons PQ_nil PQ_cons PIk_call PJk_call pCk_some pCj_some PIk_nil pNk_some pNk_fz pNk_slc pKk_some pKj_some pnext_norm pnext_exit pnext_ret pout_norm pout_exit pout_ret PIk_mov PJk_mov PIk_pick PJk_pick PIk_box PJk_box PIk_build PJk_build PIk_buildSlice PJk_buildSlice PIk_load PJk_load PIk_store PJk_store PIk_nilCheck PJk_nilCheck PIk_arith PJk_arith PIk_eqBool PJk_eqBool PIk_eqNilmap PJk_eqNilmap PIk_eqNilfunc PJk_eqNilfunc PIk_eqNilptr PJk_eqNilptr PIk_un PJk_un PIk_toInt PJk_toInt PIk_func PJk_func PIk_makeSlice PJk_makeSlice PIk_slice PJk_slice PIk_sliceStr PJk_sliceStr PIk_fieldAddr PJk_fieldAddr PIk_indexAddr PJk_indexAddr PIk_indexAddrArr PJk_indexAddrArr PIk_indexStr PJk_indexStr PIk_indexArr PJk_indexArr PIk_extract PJk_extract PIk_lookup PJk_lookup PIk_mapUpdate PJk_mapUpdate PIk_rangeStr PJk_rangeStr PIk_nextStr PJk_nextStr PIk_lenStr PJk_lenStr PIk_lenSl PJk_lenSl PIk_append PJk_append PIk_clear PJk_clear PJk_eqNilslice
attribute [simp] Nat.add_one_le_iff int_beq int_bne
attribute [simp] unV mkInt boundsV boundV arithV arithInt T.get_leaf
end Go.Den
/- Pen, part K: range over functions. -/
namespace Go.Den
variable {ρ ρ' : Rho} {ζ ζ' : Zeta} {A A' : Nat → Prop} {H H' : AH} {f f' : Nat → Nat} {E E' : PEnv} {e : Env} {L L' : List LObj} {g : Nat → Nat → Nat} {p : PV} {q : Bool} {n0 : Nat}
variable {F : FuncId → Option IFunc} {X0 X : Ext} {Q : Ex → PEnv → List LObj → Prop}
def psetAll (E : PEnv) : List Nat → List PV → Option PEnv
 | [], [] => some E
 | t :: ts, p :: ps => psetAll (E.set t p) ts ps
 | _, _ => none
def yK (K : PV → List LObj → Prop) (i : Nat) (E : PEnv) (ps : List Nat) (as bd : ICode) : Ex → List LObj → Prop
 | .norm, L => K (.v (.bool true)) (L.set i (.loop E ps as bd 0 none))
 | .pan _, _ => False
 | x, L => K (.v (.bool false)) (L.set i (.loop E ps as bd 2 (some x)))
attribute [simp] yK psetAll
theorem PF_code0 {f : FuncId} {fn : IFunc} {a c args : List PV} {K : PV → List LObj → Prop} (hE : X0 f = none) (hX : X f = none) (hF : F f = some fn)
  (h : PC F X0 X L.length fn.body (fun x E' L' => (x = .norm ∨ x = .ret) ∧ ∃ ps, press E' L' fn.results = some ps ∧ K (pone1 ps) L') (penv (funcArgs a args c)) L) : PF F X0 X false (.fn f a c) args L K := by
 refine PF_code hE hX hF (h.mono ?_)
 rintro x E' L' ⟨hx, ps, hps, hk⟩
 exact ⟨hx, ps, hps, _, _, pone1 ps, Abs.refl _ _ _, by rw [T.get_set, if_pos rfl], hk⟩
theorem VwL.same {τ : List Nat} {cs : List PV} (h : noIdL cs = true) : VwL τ L cs cs := F2.of_idx rfl fun i a _ => .same (noIdL_get h i a)
theorem Abs.viewL (τ : List Nat) (l : List (Nat × PV)) (hnd : τ.Nodup) (hlt : ∀ i ∈ τ, i < L.length) (hpin : ∀ i, i < n0 → τ[i]? = some i) (hn0 : n0 ≤ τ.length)
  (hL : F2 (fun i o' => ∃ o, L[i]? = some o ∧ VwO τ L o o') τ L') (hE : ∀ x ∈ l, ∃ p, E.get x.1 = some p ∧ Vw τ L p x.2) : Abs n0 E L (envOf l) L' :=
 Abs.viewE τ l hnd hlt hpin hL.length.symm hn0 (fun j i o' h1 h2 => by
  obtain ⟨o, h3, h4⟩ := hL.get h1
  rw [h2] at h3; cases h3; exact h4) hE
end Go.Den
/- Pen, part L: calls whose arguments are known, by running. -/
namespace Go.Den
variable {F : FuncId → Option IFunc} {X0 X : Ext} {n0 : Nat}
abbrev PCall := PV → List PV → List LObj → Option (PV × List LObj)
def prunOps (call : PCall) : List Ins → PEnv → List LObj → Option (PEnv × List LObj)
 | [], E, L => some (E, L)
 | i :: l, E, L => match pwanted E i.guard with
  | none => none
  | some false => prunOps call l (psetD E i.dst (.tup [])) L
  | some true => match i.op with
   | .call f as => match pea E f, peas E as with
    | some fv, some args => match call fv args L with
     | some (p, L') => prunOps call l (psetD E i.dst p) L'
     | none => none
    | _, _ => none
   | op => match pev E L op with
    | some (p, L', _) => prunOps call l (psetD E i.dst p) L'
    | none => none
def prunQ : List Ins → PEnv → List LObj → Option (PEnv × List LObj)
 | [], E, L => some (E, L)
 | i :: l, E, L => match pwanted E i.guard with
  | none => none
  | some false => prunQ l (psetD E i.dst (.tup [])) L
  | some true => match i.op with
   | .call _ _ => none
   | op => match pev E L op with
    | some (p, L', true) => prunQ l (psetD E i.dst p) L'
    | _ => none
def piter (f : PEnv → List LObj → Option (Ex × PEnv × List LObj)) : Nat → PEnv → List LObj → Option (Ex × PEnv × List LObj)
 | 0, _, _ => none
 | n + 1, E, L => match f E L with
  | some (.norm, E', L') => piter f n E' L'
  | r => r
def prun (call : PCall) (n : Nat) : ICode → PEnv → List LObj → Option (Ex × PEnv × List LObj)
 | .skip, E, L => some (.norm, E, L)
 | .ops l, E, L => match prunOps call l E L with
  | some (E', L') => some (.norm, E', L')
  | none => none
 | .draw q t, E, L => match prunQ q E L with
  | some (E1, L1) => match prunOps call t E1 L1 with
   | some (E', L') => some (.norm, E', L')
   | none => none
  | none => none
 | .seq a b, E, L => match prun call n a E L with
  | some (.norm, E', L') => prun call n b E' L'
  | r => r
 | .cond c a b, E, L => match pei E c with
  | some (.bool t) => match t with
   | true => prun call n a E L
   | false => prun call n b E L
  | _ => none
 | .block id c, E, L => match prun call n c E L with
  | some (.exit j, E', L') => if j = id then some (.norm, E', L') else some (.exit j, E', L')
  | r => r
 | .loop c, E, L => piter (prun call n c) n E L
 | .rangeFunc .., _, _ => none
 | .exit id, E, L => some (.exit id, E, L)
 | .ret, E, L => some (.ret, E, L)
 | .bad _, _, _ => none
def pcall (F : FuncId → Option IFunc) : Nat → PCall
 | 0, _, _, _ => none
 | n + 1, .fn f a c, args, L => match F f with
  | some fn => match prun (pcall F n) n fn.body (penv (funcArgs a args c)) L with
   | some (x, E', L') => match x with
    | .norm | .ret => match press E' L' fn.results with
     | some ps => some (pone1 ps, L')
     | none => none
    | _ => none
   | none => none
  | none => none
 | _, _, _, _ => none
def COk (F : FuncId → Option IFunc) (X0 X : Ext) (call : PCall) : Prop := ∀ fv args L p L', call fv args L = some (p, L') → PF F X0 X false fv args L (fun v L2 => v = p ∧ L2 = L')
theorem prunOps_ok {call : PCall} (hc : COk F X0 X call) {R : PEnv → List LObj → Prop} : ∀ {l : List Ins} {E E' : PEnv} {L L' : List LObj}, prunOps call l E L = some (E', L') → R E' L' → PO F X0 X l R E L := by
 intro l
 induction l with
 | nil => intro E E' L L' h hr; cases h; exact hr
 | cons i l ih =>
  intro E E' L L' h hr
  unfold PO
  simp only [prunOps] at h
  split at h
  ·cases h
  ·rename_i hw
   rw [hw, if_neg (by simp), if_pos rfl]
   exact ih h hr
  ·rename_i hw
   rw [hw, if_pos rfl]
   split at h
   ·rename_i f as hop
    split at h
    ·rename_i fv args h1 h2
     split at h
     ·rename_i p L1 h3
      rw [hop]
      refine ⟨fv, h1, args, h2, (hc _ _ _ _ _ h3).mono ?_⟩
      rintro v L2 ⟨rfl, rfl⟩
      exact ih h hr
     ·cases h
    ·cases h
   ·rename_i op hno
    split at h
    ·rename_i p L1 q hp
     have hk := ih h hr
     unfold PI
     split
     ·rename_i hop; exact absurd hop (hno _ _)
     ·rename_i hop; rw [hop] at hp; rw [hp]; exact hk
     ·rw [hp]; exact hk
    ·cases h
theorem prunQ_ok {R : PEnv → List LObj → Prop} : ∀ {l : List Ins} {E E' : PEnv} {L L' : List LObj}, prunQ l E L = some (E', L') → R E' L' → PQ F X0 X l R E L := by
 intro l
 induction l with
 | nil => intro E E' L L' h hr; cases h; exact hr
 | cons i l ih =>
  intro E E' L L' h hr
  unfold PQ
  simp only [prunQ] at h
  split at h
  ·cases h
  ·rename_i hw
   rw [hw, if_neg (by simp), if_pos rfl]
   exact ih h hr
  ·rename_i hw
   rw [hw, if_pos rfl]
   split at h
   ·cases h
   ·rename_i op hno
    split at h
    ·rename_i p L1 hp
     have hk := ih h hr
     unfold PJ
     split
     ·rename_i hop; exact absurd hop (hno _ _)
     ·rw [hp]; exact hk
    ·cases h
theorem prun_ok {call : PCall} (hc : COk F X0 X call) {n : Nat} : ∀ {c : ICode} {x : Ex} {E E' : PEnv} {L L' : List LObj}, prun call n c E L = some (x, E', L') → PC F X0 X n0 c (fun x2 E2 L2 => x2 = x ∧ E2 = E' ∧ L2 = L') E L := by
 intro c
 induction c with
 | skip => intro x E E' L L' h; cases h; exact PC_skip ⟨rfl, rfl, rfl⟩
 | ops l =>
  intro x E E' L L' h
  simp only [prun] at h
  split at h
  ·rename_i E1 L1 h1; cases h
   exact PC_ops (prunOps_ok hc h1 ⟨rfl, rfl, rfl⟩)
  ·cases h
 | draw q t =>
  intro x E E' L L' h
  simp only [prun] at h
  split at h
  ·rename_i E1 L1 h1
   split at h
   ·rename_i E2 L2 h2; cases h
    exact PC_draw (prunQ_ok h1 (prunOps_ok hc h2 ⟨rfl, rfl, rfl⟩))
   ·cases h
  ·cases h
 | seq a b iha ihb =>
  intro x E E' L L' h
  simp only [prun] at h
  split at h
  ·rename_i E1 L1 h1
   refine PC_seq ((iha h1).mono ?_)
   rintro x2 E2 L2 ⟨rfl, rfl, rfl⟩
   exact ihb h
  ·rename_i hno
   refine PC_seq ((iha h).mono ?_)
   rintro x2 E2 L2 ⟨rfl, rfl, rfl⟩
   cases x2 with
   | norm => exact absurd h (hno _ _)
   | _ => exact ⟨rfl, rfl, rfl⟩
 | cond c a b iha ihb =>
  intro x E E' L L' h
  simp only [prun] at h
  split at h
  ·rename_i t hc
   split at h
   ·exact PC_cond hc (by rw [if_pos rfl]; exact iha h)
   ·exact PC_cond hc (by rw [if_neg (by simp)]; exact ihb h)
  ·cases h
 | block id c ih =>
  intro x E E' L L' h
  simp only [prun] at h
  split at h
  ·rename_i j E1 L1 h1
   refine PC_block ((ih h1).mono ?_)
   rintro x2 E2 L2 ⟨rfl, rfl, rfl⟩
   simp only [pout]
   split at h
   ·rename_i hj; cases h; rw [if_pos hj]; exact ⟨rfl, rfl, rfl⟩
   ·rename_i hj; cases h; rw [if_neg hj]; exact ⟨rfl, rfl, rfl⟩
  ·rename_i hno
   refine PC_block ((ih h).mono ?_)
   rintro x2 E2 L2 ⟨rfl, rfl, rfl⟩
   cases x2 with
   | exit j => exact absurd h (hno _ _ _)
   | _ => exact ⟨rfl, rfl, rfl⟩
 | loop c ih =>
  intro x E E' L L' h
  simp only [prun] at h
  refine PC_loop (fun k E L => piter (prun call n c) k E L = some (x, E', L')) ?_ h
  intro k E L hk
  cases k with
  | zero => cases hk
  | succ k =>
   simp only [piter] at hk
   split at hk
   ·rename_i E1 L1 h1
    refine (ih h1).mono ?_
    rintro x2 E2 L2 ⟨rfl, rfl, rfl⟩
    exact ⟨k, _, _, Nat.lt_succ_self _, Abs.refl _ _ _, hk⟩
   ·rename_i hno
    refine (ih hk).mono ?_
    rintro x2 E2 L2 ⟨rfl, rfl, rfl⟩
    cases x2 with
    | norm => exact absurd hk (hno _ _)
    | _ => exact ⟨rfl, rfl, rfl⟩
 | rangeFunc f ps a b _ _ => intro x E E' L L' h; cases h
 | exit id => intro x E E' L L' h; cases h; exact PC_exit ⟨rfl, rfl, rfl⟩
 | ret => intro x E E' L L' h; cases h; exact PC_ret ⟨rfl, rfl, rfl⟩
 | bad w => intro x E E' L L' h; cases h
theorem pcall_ok (hX : ∀ f fn, F f = some fn → X0 f = none ∧ X f = none) : ∀ n, COk F X0 X (pcall F n) := by
 intro n
 induction n with
 | zero => intro fv args L p L' h; cases h
 | succ n ih =>
  intro fv args L p L' h
  cases fv with
  | fn f a c =>
   simp only [pcall] at h
   split at h
   ·rename_i fn hF
    split at h
    ·rename_i x E1 L1 h1
     have key : ∀ ps, press E1 L1 fn.results = some ps → (x = .norm ∨ x = .ret) → PF F X0 X false (.fn f a c) args L (fun v L2 => v = pone1 ps ∧ L2 = L1) := by
      intro ps hps hx
      refine PF_code0 (hX _ _ hF).1 (hX _ _ hF).2 hF ((prun_ok ih h1).mono ?_)
      rintro x2 E2 L2 ⟨rfl, rfl, rfl⟩
      exact ⟨hx, ps, hps, rfl, rfl⟩
     split at h
     ·split at h
      ·rename_i ps hps; cases h; exact key ps hps (.inl rfl)
      ·cases h
     ·split at h
      ·rename_i ps hps; cases h; exact key ps hps (.inr rfl)
      ·cases h
     ·cases h
    ·cases h
   ·cases h
  | _ => cases h
def pfreeze (L : List LObj) : PV → Option PV
 | .slc i 0 n _ => match prow L i with
  | some (t, cs) => if allNl cs ∧ noIdL cs = true then some (.fz t n cs) else none
  | none => none
 | p => if noId p = true then some p else none
def pfreezeL (L : List LObj) : List PV → Option (List PV)
 | [] => some []
 | p :: ps => match pfreeze L p, pfreezeL L ps with
  | some q, some qs => some (q :: qs)
  | _, _ => none
def pfreeze1 (L : List LObj) : PV → Option PV
 | .tup ps => match pfreezeL L ps with
  | some qs => some (.tup qs)
  | none => none
 | p => pfreeze L p
theorem pfreeze_ok {L : List LObj} {p v : PV} (h : pfreeze L p = some v) : Vw [] L p v ∧ noId v = true := by
 unfold pfreeze at h
 split at h
 ·split at h
  ·rename_i hr
   split at h
   ·rename_i hc; cases h
    exact ⟨Vw.frz hr hc.1 hc.2 rfl, by simpa [noId] using hc.2⟩
   ·cases h
  ·cases h
 ·split at h
  ·rename_i hn; cases h; exact ⟨.same hn, hn⟩
  ·cases h
theorem pfreezeL_ok {L : List LObj} : ∀ {ps qs : List PV}, pfreezeL L ps = some qs → F2 (Vw [] L) ps qs ∧ noIdL qs = true := by
 intro ps
 induction ps with
 | nil => intro qs h; cases h; exact ⟨.nil, rfl⟩
 | cons p ps ih =>
  intro qs h
  simp only [pfreezeL] at h
  split at h
  ·rename_i q qs h1 h2; cases h
   obtain ⟨a, b⟩ := pfreeze_ok h1
   obtain ⟨c, d⟩ := ih h2
   exact ⟨.cons a c, by simp [noIdL, b, d]⟩
  ·cases h
theorem pfreeze1_ok {L : List LObj} {p v : PV} (h : pfreeze1 L p = some v) : Vw [] L p v ∧ noId v = true := by
 unfold pfreeze1 at h
 split at h
 ·split at h
  ·rename_i hq; cases h
   obtain ⟨a, b⟩ := pfreezeL_ok hq
   exact ⟨.tup a.length (fun i h h' => F2.idx a i h h'), by simpa [noId] using b⟩
  ·cases h
 ·exact pfreeze_ok h
def prunF (F : FuncId → Option IFunc) (n : Nat) (f : FuncId) (args : List PV) : Option PV := match pcall F n (.fn f [] []) args [] with
 | some (p, L) => pfreeze1 L p
 | none => none
theorem PP_run (hX : ∀ f fn, F f = some fn → X0 f = none ∧ X f = none) {n : Nat} {f : FuncId} {args : List PV} {v : PV} (ha : noIdL args = true) (h : prunF F n f args = some v) : PP F X0 X (.fn f [] []) args v := by
 unfold prunF at h
 split at h
 ·rename_i p L hp
  cases n with
  | zero => cases hp
  | succ n =>
   simp only [pcall] at hp
   split at hp
   ·rename_i fn hF
    split at hp
    ·rename_i x E1 L1 h1
     obtain ⟨hw, hn⟩ := pfreeze1_ok h
     have key : ∀ ps, press E1 L1 fn.results = some ps → (x = .norm ∨ x = .ret) → pone1 ps = p → L1 = L → PP F X0 X (.fn f [] []) args v := by
      rintro ps hps hx rfl rfl
      refine PP_code (hX _ _ hF).1 (hX _ _ hF).2 hF (by simp [noId, noIdL]) ha hn ((prun_ok (pcall_ok hX n) h1).mono ?_)
      rintro x2 E2 L2 ⟨rfl, rfl, rfl⟩
      exact ⟨hx, ps, hps, hw⟩
     split at hp
     ·split at hp
      ·rename_i ps hps; cases hp; exact key ps hps (.inl rfl) rfl rfl
      ·cases hp
     ·split at hp
      ·rename_i ps hps; cases hp; exact key ps hps (.inr rfl) rfl rfl
      ·cases hp
     ·cases hp
    ·cases hp
   ·cases hp
 ·cases h
end Go.Den
/- Pen, part M: calls that only read the objects they are given; loops that go on with what is listed. -/
namespace Go.Den
variable {ρ ρ' : Rho} {ζ ζ' : Zeta} {A A' : Nat → Prop} {H H' : AH} {f f' : Nat → Nat} {E E' : PEnv} {e : Env} {L L' : List LObj} {g : Nat → Nat → Nat} {p : PV} {q : Bool} {n0 : Nat}
variable {F : FuncId → Option IFunc} {X0 X : Ext} {Q : Ex → PEnv → List LObj → Prop}
mutual
def zf : PV → Bool
 | .v _ => true
 | .ptr _ _ => true
 | .slc _ _ _ _ => true
 | .mapr _ => true
 | .yl _ => true
 | .fn _ a c => zfL a && zfL c
 | .ifc _ p => zf p
 | .agg cs => zfL cs
 | .tup cs => zfL cs
 | .fz _ _ _ => false
 | .fp _ => false
 | .ow _ _ _ cs => zfL cs
 | .bx _ cs => zfL cs
def zfL : List PV → Bool
 | [] => true
 | p :: ps => zf p && zfL ps
end
theorem zfL_iff {l : List PV} : zfL l = true ↔ ∀ p ∈ l, zf p = true := by
 induction l with
 | nil => simp [zfL]
 | cons a l ih => simp [zfL, ih]
theorem zfL_get {l : List PV} (h : zfL l = true) (i : Nat) (hi : i < l.length) : zf l[i] = true := zfL_iff.1 h _ (List.getElem_mem hi)
theorem VP.zf {x : Value} (h : VP ρ ζ p x) : Den.zf p = true → VP ρ ζ' p x := by
 induction h with
 | v h => intro _; exact .v h
 | ptr h => intro _; exact .ptr h
 | slc h h1 => intro _; exact .slc h h1
 | slcN h => intro _; exact .slcN h
 | mapr h => intro _; exact .mapr h
 | yl h => intro _; exact .yl h
 | fn h1 _ h3 _ ih1 ih2 =>
  intro hn; simp only [Den.zf, Bool.and_eq_true] at hn
  exact .fn h1 (fun i h h' => ih1 i h h' (zfL_get hn.1 i h)) h3 (fun i h h' => ih2 i h h' (zfL_get hn.2 i h))
 | ifc _ ih => intro hn; simp only [Den.zf] at hn; exact .ifc (ih hn)
 | agg h1 _ ih => intro hn; simp only [Den.zf] at hn; exact .agg h1 (fun i h h' => ih i h h' (zfL_get hn i h))
 | tup h1 _ ih => intro hn; simp only [Den.zf] at hn; exact .tup h1 (fun i h h' => ih i h h' (zfL_get hn i h))
 | fz => intro hn; simp [Den.zf] at hn
 | fz0 => intro hn; simp [Den.zf] at hn
 | fp => intro hn; simp [Den.zf] at hn
theorem WP.zf {x : Value} (h : WP A ρ ζ H f p x) : Den.zf p = true → WP A ρ ζ' H f p x := by
 induction h with
 | val h => intro hn; exact .val (h.zf hn)
 | ow g h1 h2 h3 h4 h5 _ h7 ih => intro hn; simp only [Den.zf] at hn; exact .ow g h1 h2 h3 h4 h5 (fun i h h' => ih i h h' (zfL_get hn i h)) h7
 | bx g h1 h2 h3 h5 _ h7 ih => intro hn; simp only [Den.zf] at hn; exact .bx g h1 h2 h3 h5 (fun i h h' => ih i h h' (zfL_get hn i h)) h7
 | ifc _ ih => intro hn; simp only [Den.zf] at hn; exact .ifc (ih hn)
theorem WL.zf {cs : List PV} {xs : List Value} (h : WL A ρ ζ H f cs xs) (hn : zfL cs = true) : WL A ρ ζ' H f cs xs := by
 obtain ⟨g, a, b, c⟩ := h
 exact ⟨g, a, fun i h h' => (b i h h').zf (zfL_get hn i h), c⟩
def zfO : LObj → Bool
 | .row _ cs => zfL cs
 | .map es _ => zfL (es.map fun e => e.2.1)
 | .rmap .. => false
 | .iter _ _ => true
 | .loop .. => false
 | .nil => true
 | .dead => true
theorem OP.zf {i : Nat} {o : LObj} (h : OP A ρ ζ H f i o) (hn : zfO o = true) : OP A ρ ζ' H f i o := by
 cases o with
 | row t cs =>
  rcases h with ⟨k, r, cells, f', h1, h2, h3, h4, h5, h6⟩ | h
  ·exact .inl ⟨k, r, cells, f', h1, h2, h3, h4, h5.zf hn, h6⟩
  ·exact .inr h
 | map es c => obtain ⟨k, es', f', h1, h0, h2, h3, ⟨h4, h5⟩, h6⟩ := h; exact ⟨k, es', f', h1, h0, h2, h3, ⟨h4, h5.zf hn⟩, h6⟩
 | rmap => cases hn
 | iter s pos => exact h
 | loop => cases hn
 | nil => exact h
 | dead => trivial
mutual
theorem zf_ren (θ : Nat → Nat) : ∀ p : PV, zf (ren θ p) = zf p
 | .v x => rfl
 | .ptr i o => rfl
 | .slc i o n c => rfl
 | .mapr i => rfl
 | .yl i => rfl
 | .fn f a c => by simp only [ren, zf, zfL_ren θ a, zfL_ren θ c]
 | .ifc t p => by simp only [ren, zf, zf_ren θ p]
 | .agg cs => by simp only [ren, zf, zfL_ren θ cs]
 | .tup cs => by simp only [ren, zf, zfL_ren θ cs]
 | .fz t n cs => rfl
 | .fp cs => rfl
 | .ow t n c cs => by simp only [ren, zf, zfL_ren θ cs]
 | .bx t cs => by simp only [ren, zf, zfL_ren θ cs]
theorem zfL_ren (θ : Nat → Nat) : ∀ l : List PV, zfL (renL θ l) = zfL l
 | [] => rfl
 | p :: ps => by simp only [renL, zfL, zf_ren θ p, zfL_ren θ ps]
end
theorem zfO_ren (θ : Nat → Nat) {o : LObj} (h : zfO o = true) : zfO (renO θ o) = true := by
 cases o with
 | row t cs => simpa [renO, zfO, zfL_ren] using h
 | map es c =>
  simp only [zfO, renO, List.map_map] at h ⊢
  rw [zfL_iff] at h ⊢
  intro p hp
  obtain ⟨x, hx, rfl⟩ := List.mem_map.1 hp
  show zf (ren θ x.2.1) = true
  rw [zf_ren]
  exact h _ (List.mem_map.2 ⟨x, hx, rfl⟩)
 | loop => rfl
 | rmap => rfl
 | _ => exact h
theorem PF.ro {fv fv' : PV} {args args' : List PV} {K : PV → List LObj → Prop} (hfv : Vw [] L fv fv') (hargs : VwL [] L args args') (hf : noId fv' = true) (ha : noIdL args' = true) (h : PF F X0 X q fv' args' [] K)
  (hz : ∀ v0 L0, K v0 L0 → zf v0 = true ∧ ∀ o ∈ L0, zfO o = true) (q' : Bool) :
  PF F X0 X q' fv args L (fun v L' => ∃ v0 L0, K v0 L0 ∧ v = ren (· + L.length) v0 ∧ L' = L ++ L0.map (renO (· + L.length))) := by
 intro A ρ ζ H dv dargs gz ⟨g, hg⟩ hv hargs'
 have hx := zall_x hg []
 have hvz : VP (fun _ => none) (zall [] L ρ ζ H) fv' dv := (hfv.ok hg hv).noId (.refl _) hf
 have haz : VPL (fun _ => none) (zall [] L ρ ζ H) args' dargs := by
  refine VPL.noId (ρ := rhoOf [] ρ) (.refl _) (F2.of_idx (hargs.length.symm.trans hargs'.length) fun i a b => ?_) ha
  have hi : i < args.length := by rw [hargs.length]; exact a
  exact (F2.idx hargs i hi a).ok hg (F2.idx hargs' i hi b)
 have hfrz : ∀ k z, zall [] L ρ ζ H k = some z → FrzRow H k z.r z := by
  intro k z hz
  unfold zall at hz
  split at hz
  ·rename_i hh
   obtain ⟨i, t, cs, h1, h2, h3⟩ := hh
   have hpr : prow L i = some (t, cs) := by simp [prow, h1]
   obtain ⟨_, r, cells, f', c2, c3, c4, c5, c6⟩ := hg.rowK hpr h2
   obtain ⟨z', d1, _, _, d2, d3⟩ := own_zr c2
   rw [d1] at hz; cases hz
   rw [d2]; exact d3
  ·exact (hg.frz k z hz).1
 refine (h (H.next ≤ ·) (fun _ => none) (zall [] L ρ ζ H) H dv dargs (fun k z hk => hx.le k z (gz k z hk)) ⟨fun _ _ => 0, fun i o hi => by simp at hi, fun r => by simp [sumN], fun k z hz => ⟨hfrz k z hz, by simp [sumN]⟩, fun r _ => by simp [sumN], fun j hj => hj, fun i k hk => (by cases hk), hg.wf⟩ hvz haz).mono ?_
 rintro v' H' ⟨ρ', ζ', v0, L0, c1, c2, ⟨g0, hg0⟩, c4, c5, _, _, c8⟩
 obtain ⟨z1, z2⟩ := hz _ _ c8
 have hA : ∀ j, H.next ≤ j → A j := hg.acc
 let ρ2 : Rho := fun i => if i < L.length then ρ i else ρ' (i - L.length)
 have hsh : (fun i => ρ2 (i + L.length)) = ρ' := by
  funext i
  show (if i + L.length < L.length then _ else _) = _
  rw [if_neg (by omega), Nat.add_sub_cancel]
 have hle : ρ.Le ρ2 := fun i k hk => by
  show (if i < L.length then _ else _) = _
  rw [if_pos (hg.dom i k hk)]; exact hk
 have hkp := Kp.of_only c5
 let g2 : Nat → Nat → Nat := fun i => if i < L.length then g i else tg (H.next ≤ ·) (g0 (i - L.length))
 have hlen : (L ++ L0.map (renO (· + L.length))).length = L.length + L0.length := by simp
 have hsum : ∀ r, sumN (L.length + L0.length) (fun i => g2 i r) = sumN L.length (fun i => g i r) + sumN L0.length (fun i => tg (H.next ≤ ·) (g0 i) r) := fun r => by
  rw [sumN_add]
  congr 1
  ·exact sumN_congr fun i hi => by show (if i < L.length then g i else _) r = _; rw [if_pos hi]
  ·exact sumN_congr fun i hi => by show (if L.length + i < L.length then _ else tg _ (g0 (L.length + i - L.length))) r = _; rw [if_neg (by omega), Nat.add_sub_cancel_left]
 have hlow : ∀ r, ¬ H.next ≤ r → sumN L0.length (fun i => tg (H.next ≤ ·) (g0 i) r) = 0 := fun r hr => sumN_zero fun i _ => by unfold tg; rw [if_neg hr]
 have hup : ∀ r, sumN L0.length (fun i => tg (H.next ≤ ·) (g0 i) r) ≤ sumN L0.length (fun i => g0 i r) := fun r => sumN_mono fun i _ => by unfold tg; split <;> omega
 refine ⟨ρ2, ζ, ren (· + L.length) v0, _, .refl _ _, hle, ⟨g2, ?_, ?_, ?_, ?_, ?_, ?_, hg0.wf⟩, ?_, c5.mono (fun j hj => hA j hj), fun _ => c5, by simp, v0, L0, c8, rfl, rfl⟩
 ·intro i o hi
  by_cases hlt : i < L.length
  ·rw [List.getElem?_append_left hlt] at hi
   show OP A ρ2 ζ H' (if i < L.length then g i else _) i o
   rw [if_pos hlt]
   exact (hg.objs i o hi).kp hkp hle (.refl _) (fun _ h => h) (fun _ h => h.elim)
  ·rw [List.getElem?_append_right (by omega), List.getElem?_map] at hi
   cases ho : L0[i - L.length]? with
   | none => rw [ho] at hi; cases hi
   | some o0 =>
    rw [ho] at hi
    cases hi
    have h1 := hg0.objs _ _ ho
    rw [← hsh] at h1
    have h2 := (h1.tightRen).zf (ζ' := ζ) (zfO_ren _ (z2 _ (List.mem_of_getElem? ho)))
    simp only [Nat.sub_add_cancel (show L.length ≤ i by omega)] at h2
    show OP A ρ2 ζ H' (if i < L.length then g i else tg (H.next ≤ ·) (g0 (i - L.length))) i _
    rw [if_neg hlt]
    exact h2.kp (Kp.refl H' (fun _ => False)) (.refl _) (.refl _) hA (fun _ h => h.elim)
 ·intro r
  rw [hlen, hsum]
  by_cases hr : H.next ≤ r
  ·have := hg.bnd r hr; have := hup r; have := hg0.sum r; omega
  ·have := hlow r hr; have := hg.sum r; omega
 ·intro k z hz
  rw [hlen, hsum]
  obtain ⟨d1, d2⟩ := hg.frz k z hz
  refine ⟨hkp.frz _ _ _ id d1, ?_⟩
  have : ¬ H.next ≤ z.r := by have := d1.lt; have := d1.le; omega
  rw [hlow _ this, d2]
 ·intro r hr
  rw [hlen, hsum]
  have := c5.next
  have := hg.bnd r (by omega)
  have := hg0.bnd r hr
  have := hup r
  omega
 ·intro j hj
  exact hA j (Nat.le_trans c5.next hj)
 ·intro i k hk
  rw [hlen]
  have hk' : (if i < L.length then ρ i else ρ' (i - L.length)) = some k := hk
  split at hk'
  ·omega
  ·have := hg0.dom _ _ hk'; omega
 ·rw [← hsh] at c4
  exact (c4.ren).zf (by rw [zf_ren]; exact z1)
def romO : LObj → LObj → Prop
 | .map es c, o => o = .rmap es c ∧ noIdL (es.map (·.2.1)) = true ∧ (es.map (·.2.1)).all nl = true
 | _, _ => False
theorem PF.rom (τ : List Nat) {M M' : List LObj} {fv fv' : PV} {args args' : List PV} {K : PV → List LObj → Prop} (hnd : τ.Nodup) (hlt : ∀ i ∈ τ, i < L.length) (hM : F2 (fun i o' => ∃ o, L[i]? = some o ∧ VwO τ L o o') τ M) (hM' : F2 romO M M')
  (hfv : Vw τ L fv fv') (hargs : VwL τ L args args') (h : PF F X0 X q fv' args' M' K)
  (hz : ∀ v0 L0, K v0 L0 → zf v0 = true ∧ ∀ i o, L0[i]? = some o → τ.length ≤ i → zfO o = true) (q' : Bool) :
  PF F X0 X q' fv args L (fun v L' => ∃ v0 L0, K v0 L0 ∧ v = ren (fun i => if i < τ.length then τ.getD i 0 else i - τ.length + L.length) v0 ∧ L' = L ++ (L0.drop τ.length).map (renO (fun i => if i < τ.length then τ.getD i 0 else i - τ.length + L.length))) := by
 intro A ρ ζ H dv dargs gz ⟨g, hg⟩ hv hargs'
 have hx := zall_x hg τ
 have hlenM : M.length = τ.length := hM.length.symm
 have hlenM' : M'.length = τ.length := by rw [← hM'.length]; exact hlenM
 have hview := hg.view (L' := M) τ hnd hlt hlenM (fun j i o' h1 h2 => by
  obtain ⟨o, h3, h4⟩ := hM.get h1
  rw [h2] at h3; cases h3; exact h4)
 have hvz : VP (rhoOf τ ρ) (zall τ L ρ ζ H) fv' dv := hfv.ok hg hv
 have haz : VPL (rhoOf τ ρ) (zall τ L ρ ζ H) args' dargs := F2.of_idx (hargs.length.symm.trans hargs'.length) fun i a b => by
  have hi : i < args.length := by rw [hargs.length]; exact a
  exact (F2.idx hargs i hi a).ok hg (F2.idx hargs' i hi b)
 generalize hgd : (fun j => g (τ.getD j L.length)) = gd at hview
 have hM2 : RHg (H.next ≤ ·) (rhoOf τ ρ) (zall τ L ρ ζ H) M' H gd := by
  refine ⟨fun i o hi => ?_, by rw [hlenM', ← hlenM]; exact hview.sum, fun k z hk => ⟨(hview.frz k z hk).1, by rw [hlenM', ← hlenM]; exact (hview.frz k z hk).2⟩, fun r hr => by rw [hlenM', ← hlenM]; exact hview.bnd r hr, fun j hj => hj, fun i k hk => by rw [hlenM', ← hlenM]; exact hview.dom i k hk, hg.wf⟩
  have hilt : i < M.length := by have := (List.getElem?_eq_some_iff.1 hi).1; omega
  have h1 := hview.objs i _ (List.getElem?_eq_getElem hilt)
  have h2 := F2.idx hM' i hilt (by omega)
  rw [List.getElem?_eq_getElem (by omega)] at hi
  cases hi
  generalize M[i] = a at h1 h2
  cases a with
  | map es c =>
   obtain ⟨e1, e2, e3⟩ := h2
   rw [e1]
   obtain ⟨k, es', f', b1, b0, b2, b3, ⟨b4, b5⟩, b6⟩ := h1
   refine ⟨k, es', b1, b0, b2, ⟨b4, b5.vpl e3⟩, ?_⟩
   have := b6 k; simp at this; omega
  | _ => exact h2.elim
 refine (h (H.next ≤ ·) (rhoOf τ ρ) (zall τ L ρ ζ H) H dv dargs (fun k z hk => hx.le k z (gz k z hk)) ⟨gd, hM2⟩ hvz haz).mono ?_
 rintro v' H' ⟨ρ', ζ', v0, L0, c1, c2, ⟨g0, hg0⟩, c4, c5, _, c7, c8⟩
 obtain ⟨z1, z2⟩ := hz _ _ c8
 have hA : ∀ j, H.next ≤ j → A j := hg.acc
 have hk := Kp.of_only c5
 have hl0 : τ.length ≤ L0.length := by omega
 generalize hθ : (fun i => if i < τ.length then τ.getD i 0 else i - τ.length + L.length) = θ
 let ρ2 : Rho := fun i => if i < L.length then ρ i else ρ' (i - L.length + τ.length)
 have hle : ρ.Le ρ2 := fun i k hk => by
  show (if i < L.length then _ else _) = _
  rw [if_pos (hg.dom i k hk)]; exact hk
 have hsh : ∀ i k, ρ' i = some k → ρ2 (θ i) = some k := fun i k hik => by
  show (if θ i < L.length then ρ (θ i) else ρ' (θ i - L.length + τ.length)) = some k
  subst hθ
  by_cases hi : i < τ.length
  ·simp only [if_pos hi]
   have hti : τ[i]? = some (τ.getD i 0) := by simp [List.getD_eq_getElem?_getD, hi]
   rw [if_pos (hlt _ (List.mem_of_getElem? hti))]
   -- the maps stand where they stood
   have h5 : ∃ k', rhoOf τ ρ i = some k' := by
    have hiM : i < M'.length := by omega
    have h6 := hM2.objs i _ (List.getElem?_eq_getElem hiM)
    have h7 := F2.idx hM' i (by omega) hiM
    generalize M'[i] = b at h6 h7
    generalize M[i]'(by omega) = a at h7
    cases a with
    | map es c => obtain ⟨rfl, _⟩ := h7; obtain ⟨k, es', b1, _⟩ := h6; exact ⟨_, b1⟩
    | _ => exact h7.elim
   obtain ⟨k', hk'⟩ := h5
   have h8 := c2 _ _ hk'
   rw [hik] at h8
   cases h8
   unfold rhoOf at hk'
   rw [hti] at hk'
   exact hk'
  ·simp only [if_neg hi]
   rw [if_neg (by omega), show i - τ.length + L.length - L.length + τ.length = i by omega]
   exact hik
 let g2 : Nat → Nat → Nat := fun i => if i < L.length then g i else tg (H.next ≤ ·) (g0 (i - L.length + τ.length))
 have hlen : (L ++ (L0.drop τ.length).map (renO θ)).length = L.length + (L0.length - τ.length) := by simp
 have hsum : ∀ r, sumN (L.length + (L0.length - τ.length)) (fun i => g2 i r) = sumN L.length (fun i => g i r) + sumN (L0.length - τ.length) (fun i => tg (H.next ≤ ·) (g0 (i + τ.length)) r) := fun r => by
  rw [sumN_add]
  congr 1
  ·exact sumN_congr fun i hi => by show (if i < L.length then g i else _) r = _; rw [if_pos hi]
  ·exact sumN_congr fun i hi => by show (if L.length + i < L.length then _ else tg _ (g0 (L.length + i - L.length + τ.length))) r = _; rw [if_neg (by omega), Nat.add_sub_cancel_left]
 have hlow : ∀ r, ¬ H.next ≤ r → sumN (L0.length - τ.length) (fun i => tg (H.next ≤ ·) (g0 (i + τ.length)) r) = 0 := fun r hr => sumN_zero fun i _ => by unfold tg; rw [if_neg hr]
 have hup : ∀ r, sumN (L0.length - τ.length) (fun i => tg (H.next ≤ ·) (g0 (i + τ.length)) r) ≤ sumN L0.length (fun i => g0 i r) := fun r => by
  have e : L0.length = τ.length + (L0.length - τ.length) := by omega
  rw [e, sumN_add, ← e]
  refine Nat.le_trans (sumN_mono fun i _ => ?_) (Nat.le_add_left _ _)
  unfold tg; rw [Nat.add_comm i]; split <;> omega
 have hrn : ∀ {p : PV} {x : Value}, VP ρ' ζ' p x → VP ρ2 ζ' (ren θ p) x := fun hp => VP.ren (ρ := ρ2) (θ := θ) (hp.mono (ρ' := fun i => ρ2 (θ i)) hsh (.refl _))
 refine ⟨ρ2, ζ, ren θ v0, L ++ (L0.drop τ.length).map (renO θ), .refl _ _, hle, ⟨g2, ?_, ?_, ?_, ?_, ?_, ?_, hg0.wf⟩, ?_, c5.mono (fun j hj => hA j hj), fun _ => c5, by simp, v0, L0, c8, rfl, rfl⟩
 ·intro i o hi
  by_cases hil : i < L.length
  ·rw [List.getElem?_append_left hil] at hi
   show OP A ρ2 ζ H' (if i < L.length then g i else _) i o
   rw [if_pos hil]
   exact (hg.objs i o hi).kp hk hle (.refl _) (fun _ h => h) (fun _ h => h.elim)
  ·rw [List.getElem?_append_right (by omega), List.getElem?_map, List.getElem?_drop] at hi
   have hco : τ.length + (i - L.length) = i - L.length + τ.length := Nat.add_comm _ _
   rw [hco] at hi
   cases ho : L0[i - L.length + τ.length]? with
   | none => rw [ho] at hi; cases hi
   | some o0 =>
    rw [ho] at hi
    cases hi
    have h1 := hg0.objs _ _ ho
    have h1' : OP (H.next ≤ ·) (fun i => ρ2 (θ i)) ζ' H' (g0 (i - L.length + τ.length)) (i - L.length + τ.length) o0 := h1.kp (Kp.refl H' (fun _ => False)) hsh (.refl _) (fun _ h => h) (fun _ h => h.elim)
    have h2 := (h1'.tightRen).zf (ζ' := ζ) (zfO_ren _ (z2 _ _ ho (by omega)))
    have hth : θ (i - L.length + τ.length) = i := by subst hθ; simp only []; rw [if_neg (by omega)]; omega
    rw [hth] at h2
    show OP A ρ2 ζ H' (if i < L.length then g i else tg (H.next ≤ ·) (g0 (i - L.length + τ.length))) i _
    rw [if_neg hil]
    exact h2.kp (Kp.refl H' (fun _ => False)) (.refl _) (.refl _) hA (fun _ h => h.elim)
 ·intro r
  rw [hlen, hsum]
  by_cases hr : H.next ≤ r
  ·have := hg.bnd r hr; have := hup r; have := hg0.sum r; omega
  ·have := hlow r hr; have := hg.sum r; omega
 ·intro k z hkz
  rw [hlen, hsum]
  obtain ⟨d1, d2⟩ := hg.frz k z hkz
  refine ⟨hk.frz _ _ _ id d1, ?_⟩
  have : ¬ H.next ≤ z.r := by have := d1.lt; have := d1.le; omega
  rw [hlow _ this, d2]
 ·intro r hr
  rw [hlen, hsum]
  have := c5.next
  have := hg.bnd r (by omega)
  have := hg0.bnd r hr
  have := hup r
  omega
 ·intro j hj
  exact hA j (Nat.le_trans c5.next hj)
 ·intro i k hik
  rw [hlen]
  have hk' : (if i < L.length then ρ i else ρ' (i - L.length + τ.length)) = some k := hik
  split at hk'
  ·omega
  ·have := hg0.dom _ _ hk'; omega
 ·exact (hrn c4).zf (by rw [zf_ren]; exact z1)
def Has (E : PEnv) : List (Nat × PV) → Prop
 | [] => True
 | x :: l => E.get x.1 = some x.2 ∧ Has E l
theorem Has_nil : Has E [] = True := nrfl rfl
theorem Has_cons {t : Nat} {p : PV} {l : List (Nat × PV)} : Has E ((t, p) :: l) = (E.get t = some p ∧ Has E l) := nrfl rfl
def HasV (τ : List Nat) (E : PEnv) (L : List LObj) : List (Nat × PV) → Prop
 | [] => True
 | x :: l => (∃ p, E.get x.1 = some p ∧ Vw τ L p x.2) ∧ HasV τ E L l
theorem HasV_nil {τ : List Nat} : HasV τ E L [] = True := nrfl rfl
theorem HasV_cons {τ : List Nat} {t : Nat} {p : PV} {l : List (Nat × PV)} : HasV τ E L ((t, p) :: l) = ((∃ q, E.get t = some q ∧ Vw τ L q p) ∧ HasV τ E L l) := nrfl rfl
theorem HasV.mem {τ : List Nat} {l : List (Nat × PV)} (h : HasV τ E L l) : ∀ x ∈ l, ∃ p, E.get x.1 = some p ∧ Vw τ L p x.2 := by
 induction l with
 | nil => intro x hx; simp at hx
 | cons a l ih =>
  intro x hx
  rcases List.mem_cons.1 hx with rfl | hx
  ·exact h.1
  ·exact ih h.2 x hx
theorem envC_nil {j : Nat} : (envOf []).get j = none := T.get_leaf j
theorem envC {k j : Nat} {v : PV} {l : List (Nat × PV)} : (envOf ((k, v) :: l)).get j = if j = k then some v else (envOf l).get j := by
 rw [show envOf ((k, v) :: l) = (envOf l).set k v from rfl, T.get_set]
theorem Has.set {l : List (Nat × PV)} {k : Nat} {v : PV} (h : Has E l) (hk : k ∉ l.map (·.1)) : Has (E.set k v) l := by
 induction l with
 | nil => trivial
 | cons a l ih =>
  simp only [List.map_cons, List.mem_cons, not_or] at hk
  exact ⟨by rw [T.get_set, if_neg (Ne.symm hk.1)]; exact h.1, ih h.2 hk.2⟩
theorem Has.env {l : List (Nat × PV)} (h : (l.map (·.1)).Nodup) : Has (envOf l) l := by
 induction l with
 | nil => trivial
 | cons a l ih =>
  simp only [List.map_cons, List.nodup_cons] at h
  refine ⟨by rw [show envOf (a :: l) = (envOf l).set a.1 a.2 from rfl, T.get_set, if_pos rfl], ?_⟩
  exact (ih h.2).set h.1
theorem Abs.dropAll (l : List (Nat × PV)) (h : HasV [] E L l) : Abs 0 E L (envOf l) [] :=
 Abs.viewL [] l List.nodup_nil (fun i h => by simp at h) (fun i h => by omega) (Nat.le_refl _) .nil h.mem
theorem Abs.keep (τ : List Nat) (l : List (Nat × PV)) (hnd : τ.Nodup) (hlt : ∀ i ∈ τ, i < L.length) (hL : F2 (fun i o' => ∃ o, L[i]? = some o ∧ VwO τ L o o') τ L') (h : HasV τ E L l) : Abs 0 E L (envOf l) L' :=
 Abs.viewL τ l hnd hlt (fun i h => by omega) (Nat.zero_le _) hL h.mem
def GoOn (J : Nat → PEnv → List LObj → Prop) (k : Nat) (E : PEnv) (L : List LObj) : Prop := ∃ k' E' L', k' < k ∧ Abs 0 E L E' L' ∧ J k' E' L'
@[congr] theorem GoOn_congr {J : Nat → PEnv → List LObj → Prop} {k : Nat} (h : E = E') (h' : L = L') : GoOn J k E L = GoOn J k E' L' := by rw [h, h']
theorem PC_loopG {c : ICode} (J : Nat → PEnv → List LObj → Prop) (round : ∀ k E L, J k E L → PW F X0 X 0 c (pnext (GoOn J k) Q) E L) {k : Nat} (h : J k E L) : PC F X0 X 0 (.loop c) Q E L :=
 PC_loop J (fun k E L hj => PW_ok _ (round k E L hj)) h
theorem GoOn.drop {J : Nat → PEnv → List LObj → Prop} {k : Nat} (l : List (Nat × PV)) (k' : Nat) (hk : k' < k) (hv : HasV [] E L l) (hj : J k' (envOf l) []) : GoOn J k E L := ⟨k', _, _, hk, Abs.dropAll l hv, hj⟩
theorem GoOn.same {J : Nat → PEnv → List LObj → Prop} {k : Nat} (k' : Nat) (hk : k' < k) (hj : J k' E L) : GoOn J k E L := ⟨k', _, _, hk, Abs.refl _ _ _, hj⟩
attribute [simp] Has_nil Has_cons HasV_nil HasV_cons
end Go.Den
/- Pen, part N: a region of operations in two. -/
namespace Go.Den
variable {F : FuncId → Option IFunc} {X0 X : Ext} {Q : Ex → PEnv → List LObj → Prop} {E : PEnv} {L : List LObj} {n0 : Nat}
theorem evs_append (inv : Inv) : ∀ (l1 l2 : List Ins) (e : Env) (H : AH), evs inv (l1 ++ l2) e H = match evs inv l1 e H with
  | some (.norm, e', H') => evs inv l2 e' H'
  | r => r := by
 intro l1
 induction l1 with
 | nil => intro l2 e H; rfl
 | cons i l1 ih =>
  intro l2 e H
  simp only [List.cons_append, evs]
  split
  ·rfl
  ·exact ih _ _ _
  ·split
   ·exact ih _ _ _
   ·rfl
   ·rfl
theorem wpC_ops_split {l1 l2 : List Ins} {Q : Ex → Env → AH → Prop} {e : Env} {H : AH} (h : wpC F X0 X (.ops l1) (nextC (wpC F X0 X (.ops l2) Q) Q) e H) : wpC F X0 X (.ops (l1 ++ l2)) Q e H := by
 obtain ⟨x, e1, H1, h1, h2⟩ := h
 cases x with
 | norm =>
  obtain ⟨y, e', H', h3, h4⟩ := h2
  refine ⟨y, e', H', h1.and2 h3 fun m a b => ?_, h4⟩
  simp only [run] at a b ⊢
  rw [evs_append, a]; exact b
 | _ =>
  refine ⟨_, e1, H1, h1.mono fun m a => ?_, h2⟩
  simp only [run] at a ⊢
  rw [evs_append, a]
theorem PC_opsSplit (n : Nat) {l : List Ins} (h : PC F X0 X n0 (.ops (l.take n)) (pnext (PC F X0 X n0 (.ops (l.drop n)) Q) Q) E L) : PC F X0 X n0 (.ops l) Q E L := by
 intro fx ρ ζ e H hs
 have hl : l = l.take n ++ l.drop n := (List.take_append_drop n l).symm
 rw [hl]
 refine wpC_ops_split ((h fx ρ ζ e H hs).mono ?_)
 rintro x e' H' ⟨ρ', ζ', E', L', hs', h'⟩
 cases x with
 | norm => exact h' fx ρ' ζ' e' H' hs'
 | _ => exact ⟨_, _, _, _, hs', h'⟩
end Go.Den
