/- Part 3 of the proof: a compiled form, its executor, what it computes. -/
import Derived.Test.YtabglcbliapijaaGreatDoorK2
import Derived.Lib.SlicesCompact
set_option linter.all false
set_option maxRecDepth 8000
set_option maxHeartbeats 8000000
/- Pen, part F: every operation on trees is right. -/
namespace Go.Den
variable {ρ ρ' : Rho} {ζ ζ' : Zeta} {A A' : Nat → Prop} {H H' : AH} {f f' : Nat → Nat} {E : PEnv} {e : Env} {L L' : List LObj} {g : Nat → Nat → Nat} {p : PV} {q : Bool}
theorem aggOf_ok (hr : RH A ρ ζ L H) {cs : List PV} {a : Array Value} (hv : VPL ρ ζ cs a.toList) {o : Nat} {agg : Option Nat} {op : IOp} (h : aggOf' cs o agg L = some (p,L',q))
  (hev : ∀ inv x,(match agg with | none => a.toList[o]? | some n => some (.agg ((a.toList.drop o).take n).toArray)) = some x → ev inv e H op = some (.ret x,H)) : Res A ρ ζ H e op p L' q := by
 unfold aggOf' at h
 split at h
 ·split at h
  ·rename_i hq
   cases h
   obtain ⟨c,hc,hw⟩ := hv.get hq
   exact .pure hr (fun inv => hev inv c hc) hw
  ·cases h
 ·cases h
  exact .pure hr (fun inv => hev inv _ rfl) (VP.agg' (hv.cut _ _))
theorem modify_map {α β : Type} (g : α → β) (f : α → α) (y : β) (hy : ∀ a,g (f a) = y) : ∀ (l : List α) (j : Nat),j < l.length → (l.modify j f).map g = (l.map g).take j ++ [y] ++ (l.map g).drop (j + 1) := by
 intro l
 induction l with
 | nil => intro j h; simp at h
 | cons a l ih =>
  intro j h
  cases j with
  | zero => simp [hy]
  | succ j =>
   have := ih j (by simpa using h)
   simpa using this
theorem pbytes_ok : ∀ {cs : List PV} {nc : List Value} {bs : List UInt8},VPL ρ ζ cs nc → pbytes cs = some bs → nc.all isU8 = true ∧ nc.map byteV = bs := by
 intro cs
 induction cs with
 | nil => intro nc bs h hb; cases h; simp [pbytes] at hb; subst hb; exact ⟨rfl,rfl⟩
 | cons p ps ih =>
  intro nc bs h hb
  cases h with
  | cons h1 h2 =>
   simp only [pbytes] at hb
   split at hb
   ·rename_i b bs' hb1 hb2; cases hb
    obtain ⟨h3,h4⟩ := ih h2 hb2
    cases p with
    | v x =>
     cases x with
     | int k n => cases k with
      | u8 => obtain ⟨rfl,_⟩ := h1.v_inv; simp [pbyte] at hb1; subst hb1; simp [h3,h4,isU8,byteV]
      | _ => simp [pbyte] at hb1
     | _ => simp [pbyte] at hb1
    | _ => simp [pbyte] at hb1
   ·cases hb
theorem pev_ok (gz : GZ ζ) (hg : RHg A ρ ζ L H g) (he : EnvP ρ ζ E e) {op : IOp} (h : pev E L op = some (p,L',q)) : Res A ρ ζ H e op p L' q := by
 have hr : RH A ρ ζ L H := ⟨g,hg⟩
 cases op with
 | mov x =>
  simp only [pev] at h
  split at h
  ·rename_i hx; cases h
   obtain ⟨y,h1,h2⟩ := pak he hx
   exact .pure hr (fun inv => by simp only [ev,h1,okO]) h2
  ·cases h
 | pick c a b =>
  simp only [pev] at h
  split at h
  ·rename_i t hc
   obtain ⟨h1,_⟩ := pei_ok he hc
   split at h
   ·rename_i hx; cases h
    cases t with
    | true =>
     obtain ⟨y,h2,h3⟩ := pak he (by simpa only [cond_true] using hx)
     exact .pure hr (fun inv => by simp only [ev,h1,h2,okO,cond_true]) h3
    | false =>
     obtain ⟨y,h2,h3⟩ := pak he (by simpa only [cond_false] using hx)
     exact .pure hr (fun inv => by simp only [ev,h1,h2,okO,cond_false]) h3
   ·cases h
  ·cases h
 | box t x =>
  simp only [pev] at h
  split at h
  ·rename_i hx; cases h
   obtain ⟨y,h1,h2⟩ := pak he hx
   obtain ⟨a,b⟩ := hg.newRow (t := t) true h2.cells
   exact ⟨_,_,_,fun inv => by simp only [ev,h1]; rfl,Rho.le_add hg.fresh,a,.ptr Rho.add_self,b,fun _ _ h _ => h⟩
  ·cases h
 | build zero ps =>
  simp only [pev] at h
  split at h
  ·rename_i hx
   obtain ⟨ys,h1,h2⟩ := peap_ok he hx
   split at h
   ·rename_i hz
    split at h
    ·rename_i hf; cases h
     obtain ⟨l',a,b⟩ := pfill_ok h2 (vl_map hz) hf
     exact .pure hr (fun inv => by simp only [ev,h1,a,ok1]) (VP.agg' b)
    ·cases h
   ·cases h
  ·cases h
 | buildSlice t len zero ps =>
  simp only [pev] at h
  split at h
  ·rename_i hx
   obtain ⟨ys,h1,h2⟩ := peap_ok he hx
   split at h
   ·rename_i hz
    split at h
    ·rename_i hf; cases h
     obtain ⟨l',a,b⟩ := pfill_ok h2 (vl_map hz) hf
     obtain ⟨c,d⟩ := hg.newRow (t := t) true b
     exact ⟨_,_,_,fun inv => by simp only [ev,h1,a]; rfl,Rho.le_add hg.fresh,c,.slc Rho.add_self (Nat.le_refl _),d,fun _ _ h _ => h⟩
    ·cases h
   ·cases h
  ·cases h
 | load agg a =>
  simp only [pev] at h
  split at h
  ·rename_i hx
   obtain ⟨y,h1,h2⟩ := pak he hx
   exact pload_ok hg h1 h2 h
  ·cases h
 | store n a v =>
  simp only [pev] at h
  split at h
  ·rename_i i o pv h1 h2
   obtain ⟨y,a1,a2⟩ := pak he h1
   obtain ⟨z,b1,b2⟩ := pak he h2
   split at h
   ·rename_i hrow
    split at h
    ·rename_i hc
     cases h
     exact pstore_ok hg a1 a2 b1 b2 hrow hc.1 hc.2.1 hc.2.2
    ·cases h
   ·cases h
  ·cases h
 | nilCheck x =>
  simp only [pev] at h
  split at h
  ·rename_i hx; cases h
   obtain ⟨y,h1,h2⟩ := pak he hx
   obtain ⟨k,hk,rfl⟩ := h2.ptr_inv
   exact .pure hr (fun inv => by simp only [ev,h1,ok1]) h2
  ·rename_i hx; cases h
   obtain ⟨y,h1,h2⟩ := pak he hx
   obtain ⟨k,o,z,_,_,_,rfl⟩ := h2.fp_inv
   exact .pure hr (fun inv => by simp only [ev,h1,ok1]) h2
  ·rename_i hx; cases h
   obtain ⟨y,h1,h2⟩ := pak he hx
   obtain ⟨a,c,rfl,_⟩ := h2.fn_inv
   exact .pure hr (fun inv => by simp only [ev,h1,ok1]) h2
  ·cases h
 | arith op x y =>
  simp only [pev] at h
  split at h
  ·rename_i hx hy
   obtain ⟨h1,_⟩ := pei_ok he hx
   obtain ⟨h2,_⟩ := pei_ok he hy
   split at h
   ·rename_i r hr'
    split at h
    ·rename_i ho; cases h
     exact .pure hr (fun inv => by simp only [ev,h1,h2,hr',okO]) (.v ho)
    ·cases h
   ·cases h
  ·cases h
 | eqBool neg x y =>
  simp only [pev] at h
  split at h
  ·rename_i hx hy
   obtain ⟨h1,_⟩ := pei_ok he hx
   obtain ⟨h2,_⟩ := pei_ok he hy
   cases h
   exact .pure hr (fun inv => by simp only [ev,h1,h2,ok1]) (.v rfl)
  ·cases h
 | eqNil k neg x y =>
  simp only [pev] at h
  split at h
  ·rename_i hx hy
   obtain ⟨a,h1,h3⟩ := pak he hx
   obtain ⟨b,h2,h4⟩ := pak he hy
   split at h
   ·rename_i r hr'; cases h
    exact .pure hr (fun inv => by simp only [ev,h1,h2,peqNil_ok h3 h4 hr',ok1]) (.v rfl)
   ·cases h
  ·cases h
 | eqPtr neg x y =>
  simp only [pev] at h
  split at h
  ·rename_i i o j o' hx hy
   obtain ⟨a,h1,h3⟩ := pak he hx
   obtain ⟨b,h2,h4⟩ := pak he hy
   split at h
   ·rename_i hij; cases h; subst hij
    obtain ⟨k,hk,rfl⟩ := h3.ptr_inv
    obtain ⟨k',hk',rfl⟩ := h4.ptr_inv
    rw [hk] at hk'; cases hk'
    refine .pure hr (x := .bool ((o == o') != neg)) (fun inv => ?_) (.v rfl)
    simp only [ev,h1,h2,ok1,Nat.beq_refl,cond_true]
    congr 4
    by_cases ho : o = o'
    ·subst ho; simp
    ·have : (({ block := k,off := o,spot := none } : Addr) == { block := k,off := o',spot := none }) = false := by
      apply beq_eq_false_iff_ne.2; intro hh; cases hh; exact ho rfl
     rw [this]; rw [show (o == o') = false from beq_eq_false_iff_ne.2 ho]
   ·cases h
  ·rename_i hno hx hy
   obtain ⟨a,h1,h3⟩ := pak he hx
   obtain ⟨b,h2,h4⟩ := pak he hy
   split at h
   ·rename_i r hr'; cases h
    have hq := peqNil_ok h3 h4 hr'
    refine .pure hr (x := .bool (r != neg)) (fun inv => ?_) (.v rfl)
    simp only [ev,h1,h2]
    split
    ·rename_i a' b' e1 e2
     cases e1; cases e2
     simp [eqNilV] at hq
    ·rename_i e1 e2; cases e1; cases e2; simp only [hq,ok1]
    ·rename_i hno' ; exact absurd rfl (hno' _ _ rfl)
   ·cases h
  ·cases h
 | un op x =>
  simp only [pev] at h
  split at h
  ·rename_i hx
   obtain ⟨h1,_⟩ := pei_ok he hx
   split at h
   ·rename_i r hr'
    split at h
    ·rename_i ho; cases h
     exact .pure hr (fun inv => by simp only [ev,h1,hr',okO]) (.v ho)
    ·cases h
   ·cases h
  ·cases h
 | toInt k x =>
  simp only [pev] at h
  split at h
  ·rename_i hx
   obtain ⟨h1,_⟩ := pei_ok he hx
   cases h
   exact .pure hr (fun inv => by simp only [ev,h1,ok1]) (.v rfl)
  ·cases h
 | iface t x =>
  simp only [pev] at h
  split at h
  ·rename_i hx; cases h
   obtain ⟨y,h1,h2⟩ := pak he hx
   exact .pure hr (fun inv => by simp only [ev,h1,ok1]) (.ifc h2)
  ·cases h
 | func fn first captured =>
  simp only [pev] at h
  split at h
  ·rename_i a b hx hy; cases h
   obtain ⟨xs,h1,h3⟩ := peas_ok he hx
   obtain ⟨ys,h2,h4⟩ := peas_ok he hy
   have g1 := VPL.to_arr (a' := xs.toArray) (by simpa using h3)
   have g2 := VPL.to_arr (a' := ys.toArray) (by simpa using h4)
   exact .pure hr (fun inv => by simp only [ev,h1,h2,ok1]) (.fn g1.1 g1.2 g2.1 g2.2)
  ·cases h
 | makeSlice t bytes zero l c =>
  simp only [pev] at h
  split at h
  ·rename_i l' c' hx hy
   obtain ⟨h1,_⟩ := pei_ok he hx
   obtain ⟨h2,_⟩ := pei_ok he hy
   split at h
   ·rename_i hc; cases h
    obtain ⟨a,b⟩ := hg.newRow (t := t) true (vl_map (repl_one hc.2 c'.toNat))
    exact ⟨_,_,_,fun inv => by simp only [ev,h1,h2,hc.1,and_self,if_true]; rfl,Rho.le_add hg.fresh,a,.slc Rho.add_self (by omega),b,fun _ _ h _ => h⟩
   ·cases h
  ·cases h
 | makeMap =>
  simp only [pev] at h
  cases h
  exact ⟨_,_,_,fun inv => rfl,Rho.le_add hg.fresh,hg.push ⟨H.next,[],fun _ => 0,by simp,Nat.lt_succ_self _,by rw [AH.gpu,if_pos rfl],hg.acc _ (Nat.le_refl _),⟨.nil,WL.of_vpl .nil⟩,fun x => by simp⟩,.mapr Rho.add_self,Only.push _ _ _,fun _ _ h _ => h⟩
 | slice t size x lo hi mx =>
  simp only [pev] at h
  split at h
  ·rename_i lo' hi' mx' e1 e2 e3
   have k1 := peo_ok he e1
   have k2 := peo_ok he e2
   have k3 := peo_ok he e3
   split at h
   ·rename_i i o len cap hx
    obtain ⟨y,h1,h2⟩ := pak he hx
    rcases h2.slc_inv with ⟨k,hk,hlc,rfl⟩ | ⟨hk,rfl,rfl,rfl,rfl⟩
    case inr =>
     split at h
     ·rename_i l h' m hb
      obtain ⟨b1,b2,b3⟩ := boundsV_le (Nat.le_refl 0) hb
      have : l = 0 ∧ h' = 0 ∧ m = 0 := by omega
      obtain ⟨rfl,rfl,rfl⟩ := this
      split at h
      ·cases h
       refine .pure hr (x := .slice none 0 0) (fun inv => ?_) (by simpa using VP.slcN hk)
       simp only [ev,h1,k1,k2,k3,hb,ok1,Nat.sub_self]
      ·cases h
     ·cases h
    split at h
    ·rename_i l h' m hb
     obtain ⟨b1,b2,b3⟩ := boundsV_le hlc hb
     split at h
     ·rename_i hc; cases h
      refine .pure hr (fun inv => ?_) (.slc hk (by omega))
      have : (Nat.beq l 0 || H.tyOk k t) = true := by
       rcases hc with rfl | hc
       ·simp
       ·cases hrow : prow L i with
        | none => rw [hrow] at hc; simp at hc
        | some tc =>
         rw [hrow] at hc
         obtain ⟨t',cs⟩ := tc
         simp at hc; subst hc
         obtain ⟨hi,r,cells,f',g2,_⟩ := hg.rowK hrow hk
         simp [own_ty g2]
      simp only [ev,h1,k1,k2,k3,hb,this,Option.isNone_none,Bool.and_self,cond_true,ok1,Option.isSome_none,Bool.false_and,cond_false]
     ·cases h
    ·cases h
   ·rename_i t' n cs hx
    obtain ⟨y,h1,h2⟩ := pak he hx
    split at h
    ·split at h
     ·rename_i l h' m hb
      split at h
      ·rename_i hc; cases h
       obtain ⟨rfl,hc⟩ := hc
       obtain ⟨b1,b2,b3⟩ := boundsV_le (Nat.le_refl n) hb
       rcases h2.fz_inv with ⟨rfl,rfl,a,rfl,ha⟩ | ⟨k,o,z,cap,hz,ho,ht,hvl,hn,rfl⟩
       ·have : l = 0 ∧ h' = 0 ∧ m = 0 := by omega
        obtain ⟨rfl,rfl,rfl⟩ := this
        refine .pure hr (x := .slice a 0 0) (fun inv => ?_) (by simp only [cut,List.drop_nil,List.take_nil,Nat.sub_self]; exact .fz0 ha)
        cases a with
        | none => simp only [ev,h1,k1,k2,k3,hb,ok1,Nat.sub_self]
        | some b => simp only [ev,h1,k1,k2,k3,hb,ok1,Nat.sub_self,ha b rfl,beq_self_eq_true,Bool.and_self,cond_true]
       ·obtain ⟨b4,_⟩ := boundsV_up hn hb
        have hle := window_le hvl ho
        have hlh : l * size ≤ h' * size := Nat.mul_le_mul_right _ b1
        have w := window hvl (l * size) ((h' - l) * size)
        refine .pure hr (x := .slice (some ⟨k,o + l * size,none⟩) (h' - l) (cap - l)) (fun inv => ?_) (.fz hz (by omega) ht rfl w.length (fun i a b => F2.idx w i a b) (by omega))
        simp only [ev,h1,k1,k2,k3,b4,frz_ty hg hz ht,Option.isNone_none,Bool.or_true,Bool.and_self,cond_true,ok1,Option.isSome_none,Bool.false_and,cond_false]
      ·cases h
     ·cases h
    ·cases h
   ·rename_i len cap hx
    obtain ⟨y,h1,h2⟩ := pak he hx
    obtain ⟨rfl,_⟩ := h2.v_inv
    split at h
    ·rename_i l h' m hb; cases h
     exact .pure hr (fun inv => by simp only [ev,h1,k1,k2,k3,hb,ok1]) (.v rfl)
    ·cases h
   ·cases h
  ·cases h
 | sliceStr x lo hi =>
  simp only [pev] at h
  split at h
  ·rename_i s lo' hi' e0 e1 e2
   obtain ⟨h1,_⟩ := pei_ok he e0
   have k1 := peo_ok he e1
   have k2 := peo_ok he e2
   split at h
   ·rename_i hb; cases h
    exact .pure hr (fun inv => by simp only [ev,h1,k1,k2,hb,ok1]) (.v rfl)
   ·cases h
  ·cases h
 | sliceArr n size x lo hi mx =>
  simp only [pev] at h
  split at h
  ·rename_i lo' hi' mx' e1 e2 e3
   have k1 := peo_ok he e1
   have k2 := peo_ok he e2
   have k3 := peo_ok he e3
   split at h
   ·rename_i i o hx
    obtain ⟨y,h1,h2⟩ := pak he hx
    obtain ⟨k,hk,rfl⟩ := h2.ptr_inv
    split at h
    ·rename_i l h' m hb; cases h
     obtain ⟨b1,b2,b3⟩ := boundsV_le (Nat.le_refl n) hb
     exact .pure hr (fun inv => by simp only [ev,h1,k1,k2,k3,hb,Option.isNone_none,cond_true,ok1]) (.slc hk (by omega))
    ·cases h
   ·cases h
  ·cases h
 | fieldAddr off x =>
  simp only [pev] at h
  split at h
  ·rename_i i o hx; cases h
   obtain ⟨y,h1,h2⟩ := pak he hx
   obtain ⟨k,hk,rfl⟩ := h2.ptr_inv
   exact .pure hr (fun inv => by simp only [ev,h1,addrV,Option.isNone_none,cond_true,okO]) (.ptr hk)
  ·rename_i cs hx
   split at h
   ·rename_i hoff; cases h
    obtain ⟨y,h1,h2⟩ := pak he hx
    obtain ⟨k,o,z,hz,ho,hvl,rfl⟩ := h2.fp_inv
    have hle := window_le hvl ho
    have w := window_drop hvl off
    exact .pure hr (fun inv => by simp only [ev,h1,addrV,Option.isNone_none,cond_true,okO]) (.fp hz (by omega) rfl w.length (fun i a b => F2.idx w i a b))
   ·cases h
  ·cases h
 | field off agg x =>
  simp only [pev] at h
  split at h
  ·rename_i hx
   obtain ⟨y,h1,h2⟩ := pak he hx
   obtain ⟨a,rfl,hv⟩ := h2.agg_inv
   refine aggOf_ok hr hv h (fun inv x hx => ?_)
   cases agg <;> (simp only [ev,h1]; simp only at hx; rw [hx]; rfl)
  ·cases h
 | indexAddr size x i =>
  simp only [pev] at h
  split at h
  ·rename_i j o len cap k0 n hx hi
   obtain ⟨y,h1,h2⟩ := pak he hx
   obtain ⟨h3,_⟩ := pei_ok he hi
   rcases h2.slc_inv with ⟨k,hk,hlc,rfl⟩ | ⟨hk,rfl,rfl,rfl,rfl⟩
   case inr =>
    split at h
    ·rename_i hc; omega
    ·cases h
   split at h
   ·rename_i hc; cases h
    exact .pure hr (fun inv => by simp only [ev,h1,h3,hc.1,hc.2,and_self,if_true,Option.isNone_none,cond_true,ok1]) (.ptr hk)
   ·cases h
  ·rename_i t len cs k0 n hx hi
   obtain ⟨y,h1,h2⟩ := pak he hx
   obtain ⟨h3,_⟩ := pei_ok he hi
   split at h
   ·rename_i hc; cases h
    obtain ⟨c1,c2,c3⟩ := hc
    rcases h2.fz_inv with ⟨rfl,rfl,a9,rfl,ha9⟩ | ⟨k,o,z,cap,hz,ho,ht,hvl,hn,rfl⟩
    ·omega
    ·have hle := window_le hvl ho
     have w := window hvl (n.toNat * size) size
     have hob : o + n.toNat * size ≤ z.cs.length := by
      simp [cut] at c3
      rcases Nat.eq_zero_or_pos size with rfl | hs
      ·simpa using ho
      ·omega
     exact .pure hr (fun inv => by simp only [ev,h1,h3,c1,c2,and_self,if_true,Option.isNone_none,cond_true,ok1]) (.fp hz hob rfl w.length (fun i a b => F2.idx w i a b))
   ·cases h
  ·cases h
 | indexAddrArr len size x i =>
  simp only [pev] at h
  split at h
  ·rename_i j o k0 n hx hi
   obtain ⟨y,h1,h2⟩ := pak he hx
   obtain ⟨h3,_⟩ := pei_ok he hi
   obtain ⟨k,hk,rfl⟩ := h2.ptr_inv
   split at h
   ·rename_i hc; cases h
    exact .pure hr (fun inv => by simp only [ev,h1,h3,hc.1,hc.2,and_self,if_true,Option.isNone_none,cond_true,ok1]) (.ptr hk)
   ·cases h
  ·rename_i cs k0 n hx hi
   obtain ⟨y,h1,h2⟩ := pak he hx
   obtain ⟨h3,_⟩ := pei_ok he hi
   split at h
   ·rename_i hc; cases h
    obtain ⟨c1,c2,c3⟩ := hc
    obtain ⟨k,o,z,hz,ho,hvl,rfl⟩ := h2.fp_inv
    have hle := window_le hvl ho
    have w := window_drop hvl (n.toNat * size)
    exact .pure hr (fun inv => by simp only [ev,h1,h3,c1,c2,and_self,if_true,Option.isNone_none,cond_true,ok1]) (.fp hz (by omega) rfl w.length (fun i a b => F2.idx w i a b))
   ·cases h
  ·rename_i a k0 n hx hi
   obtain ⟨y,h1,h2⟩ := pak he hx
   obtain ⟨h3,_⟩ := pei_ok he hi
   obtain ⟨rfl,_⟩ := h2.v_inv
   split at h
   ·rename_i z hz
    split at h
    ·rename_i hc; cases h
     obtain ⟨c0,c4,c1,c2,c3⟩ := hc
     obtain ⟨ab,ao,asp⟩ := a
     cases c0
     cases c4
     have hone := glZ_one hz
     refine .pure hr (fun inv => by simp only [ev,h1,h3,c1,c2,and_self,if_true,Option.isNone_none,cond_true,ok1]) (.fp (gz _ _ hz) (o := 0 + n.toNat * size) (by omega) rfl (by simp) (fun i a b => ?_))
     simp only [List.getElem_map,List.getElem_take,List.getElem_drop,Nat.zero_add]
     exact .v (List.all_eq_true.1 hone _ (List.getElem_mem _))
    ·cases h
   ·cases h
  ·cases h
 | indexStr x i =>
  simp only [pev] at h
  split at h
  ·rename_i s k0 n hx hi
   obtain ⟨h1,_⟩ := pei_ok he hx
   obtain ⟨h3,_⟩ := pei_ok he hi
   split at h
   ·rename_i hc
    split at h
    ·rename_i b hb; cases h
     exact .pure hr (fun inv => by simp only [ev,h1,h3,hc,if_true,hb,ok1]) (.v rfl)
    ·cases h
   ·cases h
  ·cases h
 | indexArr len size agg x i =>
  simp only [pev] at h
  split at h
  ·rename_i cs k0 n hx hi
   obtain ⟨y,h1,h2⟩ := pak he hx
   obtain ⟨h3,_⟩ := pei_ok he hi
   obtain ⟨a,rfl,hv⟩ := h2.agg_inv
   split at h
   ·rename_i hc
    refine aggOf_ok hr hv h (fun inv x hx => ?_)
    cases agg <;> (simp only [ev,h1,h3,hc.1,hc.2,and_self,if_true]; simp only at hx; rw [hx]; rfl)
   ·cases h
  ·cases h
 | extract x i =>
  simp only [pev] at h
  split at h
  ·rename_i cs hx
   obtain ⟨y,h1,h2⟩ := pak he hx
   obtain ⟨a,rfl,hv⟩ := h2.tup_inv
   split at h
   ·rename_i hq; cases h
    obtain ⟨c,hc,hw⟩ := hv.get hq
    exact .pure hr (fun inv => by simp only [ev,h1,hc,okO]) hw
   ·cases h
  ·cases h
 | lookup kk zero ok m k =>
  simp only [pev] at h
  split at h
  ·rename_i m' k' z hm hk hz
   obtain ⟨y,h1,h2⟩ := pak he hm
   obtain ⟨h3,_⟩ := pei_ok he hk
   have h4 := ofV_ok (ρ := ρ) (ζ := ζ) hz
   split at h
   ·rename_i es c hmap
    obtain ⟨es',f',h5,h6,h7⟩ := pmap_ok hg h2 hmap
    split at h
    ·rename_i hko
     split at h
     ·rename_i j x0 hf
      rcases pfind_ok h6 hf with ⟨hn,_⟩ | ⟨d,a,x,hr',g1,g2,g3⟩
      ·cases hn
      ·cases hr'
       split at h
       ·rename_i hnl; cases h
        obtain ⟨x',g4,g5⟩ := h7.get g1
        rw [g2] at g4; cases g4
        have g6 := g5.nl hnl
        cases ok with
        | true => exact .pure hr (x := .tuple #[x,.bool true]) (fun inv => by simp only [ev,h1,h3,h5,hko,g3,cond_true,ok1]) (VP.tup' (b := [x,.bool true]) (.cons g6 (.cons (.v rfl) .nil)))
        | false => exact .pure hr (fun inv => by simp only [ev,h1,h3,h5,hko,g3,cond_true,cond_false,ok1]) g6
       ·cases h
     ·rename_i hf; cases h
      rcases pfind_ok h6 hf with ⟨_,g3⟩ | ⟨d,a,x,hr',_⟩
      ·cases ok with
       | true => exact .pure hr (x := .tuple #[zero,.bool false]) (fun inv => by simp only [ev,h1,h3,h5,hko,g3,cond_true,ok1]) (VP.tup' (b := [zero,.bool false]) (.cons h4 (.cons (.v rfl) .nil)))
       | false => exact .pure hr (fun inv => by simp only [ev,h1,h3,h5,hko,g3,cond_true,cond_false,ok1]) h4
      ·cases hr'
     ·cases h
    ·cases h
   ·cases h
  ·cases h
 | assertTo t zero ok x =>
  simp only [pev] at h
  split at h
  ·rename_i t' p' z hx hz
   obtain ⟨y,h1,h2⟩ := pak he hx
   obtain ⟨y',rfl,h3⟩ := h2.ifc_inv
   have h4 := ofV_ok (ρ := ρ) (ζ := ζ) hz
   split at h
   ·rename_i ht; cases h; subst ht
    cases ok with
    | true => exact .pure hr (x := .tuple #[y',.bool true]) (fun inv => by simp only [ev,h1,Nat.beq_refl,cond_true,ok1]) (VP.tup' (b := [y',.bool true]) (.cons h3 (.cons (.v rfl) .nil)))
    | false => exact .pure hr (fun inv => by simp only [ev,h1,Nat.beq_refl,cond_true,cond_false,ok1]) h3
   ·rename_i ht
    have hb : Nat.beq t t' = false := by cases hh : Nat.beq t t' <;> first | rfl | exact absurd (Nat.eq_of_beq_eq_true hh) ht
    cases ok with
    | true => simp only [cond_true] at h; cases h; exact .pure hr (x := .tuple #[zero,.bool false]) (fun inv => by simp only [ev,h1,hb,cond_true,cond_false,ok1]) (VP.tup' (b := [zero,.bool false]) (.cons h4 (.cons (.v rfl) .nil)))
    | false => simp only [cond_false] at h; cases h
  ·rename_i z hx hz
   obtain ⟨y,h1,h2⟩ := pak he hx
   obtain ⟨rfl,_⟩ := h2.v_inv
   have h4 := ofV_ok (ρ := ρ) (ζ := ζ) hz
   cases ok with
   | true => simp only [cond_true] at h; cases h; exact .pure hr (x := .tuple #[zero,.bool false]) (fun inv => by simp only [ev,h1,cond_true,ok1]) (VP.tup' (b := [zero,.bool false]) (.cons h4 (.cons (.v rfl) .nil)))
   | false => simp only [cond_false] at h; cases h
  ·cases h
 | lenStr x =>
  simp only [pev] at h
  split at h
  ·rename_i hx; cases h
   obtain ⟨h1,_⟩ := pei_ok he hx
   exact .pure hr (fun inv => by simp only [ev,h1,ok1]) (.v rfl)
  ·cases h
 | ofBytes x =>
  simp only [pev] at h
  split at h
  ·rename_i i o n c hx
   split at h
   ·rename_i cs m hsrc
    split at h
    ·rename_i bs hb; cases h
     obtain ⟨y,h1,h2⟩ := pak he hx
     obtain ⟨nc,hnc,hnv,hnm⟩ := psrc_ok hg h2 hsrc
     obtain ⟨hu,hbs⟩ := pbytes_ok hnv hb
     refine .pure hr (fun inv => ?_) (.v rfl)
     rcases h2.slc_inv with ⟨k,hk,hlc,rfl⟩ | ⟨hk,rfl,rfl,rfl,rfl⟩
     ·simp only [ev,h1,hnc,hu,cond_true,ok1,hbs]
     ·simp only [ev,h1,hnc,hu,cond_true,ok1,hbs]
    ·cases h
   ·cases h
  ·cases h
 | lenSl x =>
  simp only [pev] at h
  split at h
  ·rename_i hx; cases h
   obtain ⟨y,h1,h2⟩ := pak he hx
   rcases h2.slc_inv with ⟨k,hk,hlc,rfl⟩ | ⟨hk,rfl,rfl,rfl,rfl⟩
   ·exact .pure hr (fun inv => by simp only [ev,h1,ok1]) (.v rfl)
   ·exact .pure hr (fun inv => by simp only [ev,h1,ok1]) (.v rfl)
  ·rename_i hx; cases h
   obtain ⟨y,h1,h2⟩ := pak he hx
   rcases h2.fz_inv with ⟨rfl,rfl,a9,rfl,ha9⟩ | ⟨k,o,z,cap,hz,ho,ht,hvl,hn,rfl⟩
   ·exact .pure hr (fun inv => by simp only [ev,h1,ok1]) (.v rfl)
   ·exact .pure hr (fun inv => by simp only [ev,h1,ok1]) (.v rfl)
  ·rename_i hx; cases h
   obtain ⟨y,h1,h2⟩ := pak he hx
   obtain ⟨rfl,_⟩ := h2.v_inv
   exact .pure hr (fun inv => by simp only [ev,h1,ok1]) (.v rfl)
  ·cases h
 | lenMap x =>
  simp only [pev] at h
  split at h
  ·rename_i m' hm
   obtain ⟨y,h1,h2⟩ := pak he hm
   split at h
   ·rename_i es c hmap; cases h
    obtain ⟨es',f',h5,h6,h7⟩ := pmap_ok hg h2 hmap
    exact .pure hr (fun inv => by simp only [ev,h1,h5,ok1,h6.length]) (.v rfl)
   ·cases h
  ·cases h
 | lenArr n => simp only [pev] at h; cases h; exact .pure hr (fun inv => rfl) (.v rfl)
 | append t size bytes s x =>
  simp only [pev] at h
  split at h
  ·rename_i hs hx
   obtain ⟨y,h1,h2⟩ := pak he hs
   obtain ⟨z,h3,h4⟩ := pak he hx
   exact pappend_ok hg h1 h3 h2 h4 h
  ·cases h
 | minMax mx x y =>
  simp only [pev] at h
  split at h
  ·rename_i hx hy
   obtain ⟨h1,_⟩ := pei_ok he hx
   obtain ⟨h2,_⟩ := pei_ok he hy
   split at h
   ·rename_i hc; cases h
    exact .pure hr (fun inv => by simp only [ev,h1,h2,hc,if_true,ok1]) (.v rfl)
   ·cases h
  ·cases h
 | mapUpdate kk m k v =>
  simp only [pev] at h
  split at h
  ·rename_i i k' p' hm hk hv
   obtain ⟨y,h1,h2⟩ := pak he hm
   obtain ⟨h3,_⟩ := pei_ok he hk
   obtain ⟨z,h4,h5⟩ := pak he hv
   obtain ⟨kd,hkd,rfl⟩ := h2.mapr_inv
   split at h
   ·rename_i es c hL
    have hi : i < L.length := (List.getElem?_eq_some_iff.1 hL).1
    obtain ⟨k0,es',f',g1,g2,g3,g4,⟨g5,g6⟩,g7⟩ := hg.objs _ _ hL
    rw [hkd] at g1; cases g1
    have hg0 : f' kd = 0 ∧ 1 ≤ g i kd := by
     have := hg.sum kd; have := sumN_le (g := fun i => g i kd) hi; have := g7 kd; simp at this; omega
    have put : ∀ (es1 : List (Value × PV × Nat)) (es2 : List MapEntry) (c' : Nat),EL A ρ ζ H f' es1 es2 → RH A ρ ζ (L.set i (.map es1 c')) (H.put kd (.map es2 c')) ∧ Only H (H.put kd (.map es2 c')) A := by
     intro es1 es2 c' hel
     have hkp := Kp.putObj (o' := .map es2 c') g3 noRow_map
     refine ⟨⟨g,hg.set hi hg0.2 hkp rfl (fun j o hj => ?_) ⟨kd,es2,f',hkd,g2,by rw [AH.gpt,if_pos rfl],g4,⟨hel.1,hel.2.kp hkp (.refl _) (.refl _) (fun _ h => h) (fun x hx => by subst hx; exact hg0.1)⟩,g7⟩⟩,(Only.put H kd _).mono (fun j hj => by subst hj; exact g4)⟩
     rw [AH.gpt] at hj
     show j < H.next
     split at hj
     ·omega
     ·exact hg.wf _ _ hj
    split at h
    ·rename_i hko
     split at h
     ·rename_i j x0 hf; cases h
      rcases pfind_ok g5 hf with ⟨hn,_⟩ | ⟨d,a,x,hr',q1,q2,q3⟩
      ·cases hn
      ·cases hr'
       have hel : EL A ρ ζ H f' (es.modify (0 + d) fun e => (k',p',e.2.2)) (es'.modify (0 + d) fun e => { e with key := k',val := z }) := by
        refine ⟨?_, ?_⟩
        ·refine F2.of_idx (by simp [g5.length]) (fun i a b => ?_)
         simp only [List.getElem_modify]
         split
         ·exact ⟨rfl,(F2.idx g5 i (by simpa using a) (by simpa using b)).2⟩
         ·exact F2.idx g5 i (by simpa using a) (by simpa using b)
        ·have hd1 : 0 + d < es.length := by have := (List.getElem?_eq_some_iff.1 q1).1; simp at this; omega
         have hd2 : 0 + d < es'.length := by have := (List.getElem?_eq_some_iff.1 q2).1; simp at this; omega
         have e1 := modify_map (fun x : Value × PV × Nat => x.2.1) (fun e => (k',p',e.2.2)) p' (fun _ => rfl) es (0 + d) hd1
         have e2 := modify_map (fun x : MapEntry => x.val) (fun e => { e with key := k',val := z }) z (fun _ => rfl) es' (0 + d) hd2
         rw [e1,e2]
         have := g6.splice (o := 0 + d) (.cons h5 .nil : VPL ρ ζ [p'] [z])
         simpa [Den.splice] using this
       obtain ⟨hA,hB⟩ := put _ _ c hel
       exact ⟨undefV,_,ρ,fun inv => by simp only [ev,h1,h3,h4,g3,hko,q3,cond_true,ok1],.refl _,hA,VP.tup (a := []) (a' := #[]) rfl (fun i h => by simp at h),hB,fun h => by cases h⟩
     ·rename_i hf; cases h
      rcases pfind_ok g5 hf with ⟨_,q3⟩ | ⟨d,a,x,hr',_⟩
      ·obtain ⟨hA,hB⟩ := put (es ++ [(k',p',c)]) (es' ++ [{ key := k',val := z,born := c }]) (c + 1) ⟨g5.append (.cons ⟨rfl,rfl⟩ .nil),by
        rw [List.map_append,List.map_append]
        exact (g6.append (WL.of_vpl (f := fun _ => 0) (.cons h5 .nil))).le (fun x => by simp)⟩
       exact ⟨undefV,_,ρ,fun inv => by simp only [ev,h1,h3,h4,g3,hko,q3,cond_true,ok1],.refl _,hA,VP.tup (a := []) (a' := #[]) rfl (fun i h => by simp at h),hB,fun h => by cases h⟩
      ·cases hr'
     ·cases h
    ·cases h
   ·cases h
  ·cases h
 | rangeStr x =>
  simp only [pev] at h
  split at h
  ·rename_i s hx; cases h
   obtain ⟨h1,_⟩ := pei_ok he hx
   exact ⟨_,_,_,fun inv => by simp only [ev,h1]; rfl,Rho.le_add hg.fresh,hg.push ⟨H.next,Rho.add_self,Nat.lt_succ_self _,by rw [AH.gpu,if_pos rfl],hg.acc _ (Nat.le_refl _),by simp⟩,.ptr Rho.add_self,Only.push _ _ _,fun _ _ h _ => h⟩
  ·cases h
 | nextStr x =>
  simp only [pev] at h
  split at h
  ·rename_i i hx
   obtain ⟨y,h1,h2⟩ := pak he hx
   obtain ⟨k,hk,rfl⟩ := h2.ptr_inv
   split at h
   ·rename_i s pos hL
    have hi : i < L.length := (List.getElem?_eq_some_iff.1 hL).1
    obtain ⟨k0,g1,g2,g3,g4,g5⟩ := hg.objs _ _ hL
    rw [hk] at g1; cases g1
    split at h
    ·rename_i hc; cases h
     have hkp := Kp.putObj (o' := .iter s (pos + (Utf8.decode s pos).2)) g3 noRow_iter
     refine ⟨_,_,ρ,fun inv => by simp only [ev,h1,g3,Nat.ble_eq_true_of_le hc,cond_true]; rfl,.refl _,⟨g,hg.set hi g5 hkp rfl (fun j o hj => ?_) ⟨k,hk,g2,by rw [AH.gpt,if_pos rfl],g4,g5⟩⟩,VP.tup' (.cons (.v rfl) (.cons (.v rfl) (.cons (.v rfl) .nil))),(Only.put H k _).mono (fun j hj => by subst hj; exact g4),fun h => by cases h⟩
     rw [AH.gpt] at hj
     show j < H.next
     split at hj
     ·omega
     ·exact hg.wf _ _ hj
    ·rename_i hc; cases h
     have hb : Nat.ble (pos + 1) s.size = false := by
      cases hh : Nat.ble (pos + 1) s.size
      ·rfl
      ·exact absurd (Nat.le_of_ble_eq_true hh) hc
     exact .pure hr (fun inv => by simp only [ev,h1,g3,hb,cond_false]; rfl) (VP.tup' (.cons (.v rfl) .nil))
   ·cases h
  ·cases h
 | clear zero x =>
  simp only [pev] at h
  split at h
  ·rename_i i o len cap hx
   obtain ⟨y,a1,hv⟩ := pak he hx
   split at h
   ·rename_i hz; cases h
    subst hz
    rcases hv.slc_inv with ⟨k,hk,_,rfl⟩ | ⟨hk,_,_,_,rfl⟩
    ·exact .pure hr (fun inv => by simp only [ev,a1,beq_self_eq_true,cond_true]; rfl) (VP.tup (a := []) (a' := #[]) rfl (fun i h => by simp at h))
    ·exact .pure hr (fun inv => by simp only [ev,a1,beq_self_eq_true,cond_true]; rfl) (VP.tup (a := []) (a' := #[]) rfl (fun i h => by simp at h))
   ·rename_i hz
    split at h
    ·rename_i t cs hrow
     split at h
     ·rename_i hc; cases h
      rcases hv.slc_inv with ⟨k,hk,_,rfl⟩ | ⟨hk,_,h0,_,rfl⟩
      case inr => exact absurd h0 hz
      obtain ⟨hi,r,cells,f',g2,g3,g4,g5,g6⟩ := hg.rowK hrow hk
      obtain ⟨H1,a,b,c,d⟩ := g2.write (splice cells o (repl zero len))
      have hkp := Kp.of_own g2 c
      have hg0 : f' r = 0 ∧ 1 ≤ g i r := by
       have := hg.sum r; have := sumN_le (g := fun i => g i r) hi; have := g6 r; simp at this; omega
      have hvs : VPL ρ ζ ((repl zero len).map .v) (repl zero len) := F2.of_idx (by simp) fun i h1 h2 => by
       simp only [List.getElem_map]
       exact .v (List.all_eq_true.1 (repl_one hc.2 len) _ (List.getElem_mem _))
      refine ⟨_,H1,ρ,fun inv => ?_,.refl _,⟨g,hg.set hi hg0.2 hkp d (write_wf a hg.wf) (.inl ⟨k,r,_,f',hk,b,g3,g4, ?_,g6⟩)⟩,VP.tup (a := []) (a' := #[]) rfl (fun i h => by simp at h),c.mono ?_,fun h => by cases h⟩
      ·have e2 : Nat.ble (o + len * zero.length) cells.length = true := Nat.ble_eq_true_of_le (by rw [← g5.length]; exact hc.1)
       have e3 : (len == 0) = false := by simpa using hz
       simp only [ev,a1,e3,cond_false,g2.rowAt.row,e2,hc.2,Option.isNone_none,Bool.and_self,cond_true,a,ok1]
      ·exact (g5.kp hkp (.refl _) (.refl _) (fun _ h => h) (fun x hx => by subst hx; exact hg0.1)).splice hvs
      ·rintro j (rfl | rfl)
       ·exact g4
       ·exact g3
     ·cases h
    ·cases h
  ·cases h
 | _ => simp only [pev] at h; cases h
end Go.Den
/- Pen, part G: code and calls on trees. -/
namespace Go.Den
variable {ρ ρ' : Rho} {ζ ζ' : Zeta} {A A' : Nat → Prop} {H H' : AH} {f f' : Nat → Nat} {E E' : PEnv} {e : Env} {L L' : List LObj} {g : Nat → Nat → Nat} {p : PV} {q : Bool}
structure Fx where
 A : Nat → Prop
 H0 : AH
 ρ0 : Rho
 ζ0 : Zeta
 gz : GZ ζ0
structure RS (n0 : Nat) (fx : Fx) (ρ : Rho) (ζ : Zeta) (E : PEnv) (L : List LObj) (e : Env) (H : AH) : Prop where
 rh : RH fx.A ρ ζ L H
 env : EnvP ρ ζ E e
 only : Only fx.H0 H fx.A
 base : fx.ρ0.Le ρ
 dom : ∀ i k,fx.ρ0 i = some k → i < n0
 len : n0 ≤ L.length
 zet : fx.ζ0.X fx.A ζ
theorem RS.gz {n0 : Nat} {fx : Fx} (hs : RS n0 fx ρ ζ E L e H) : GZ ζ := fun k z h => hs.zet.le k z (fx.gz k z h)
theorem Only.transA {H H1 H2 : AH} {S : Nat → Prop} (h : Only H H1 S) (h' : Only H1 H2 S) : Only H H2 S := h.trans h' (fun _ hj => .inl hj)
def psetD (E : PEnv) (d : Option Nat) (p : PV) : PEnv := match d with | some t => E.set t p | none => E
def pwanted (E : PEnv) : Option (Nat × Bool) → Option Bool
 | none => some true
 | some (t,b) => match E.get t with
  | some (.v (.bool c)) => some (c == b)
  | some _ => some false
  | none => none
variable (F : FuncId → Option IFunc) (X0 X : Ext)
def PF (q : Bool) (fv : PV) (args : List PV) (L : List LObj) (K : PV → List LObj → Prop) : Prop :=
 ∀ (A : Nat → Prop) (ρ : Rho) (ζ : Zeta) (H : AH) (dv : Value) (dargs : List Value),GZ ζ → RH A ρ ζ L H → VP ρ ζ fv dv → VPL ρ ζ args dargs →
  wpF F X0 X dv dargs (fun v' H' => ∃ ρ' ζ' v L',ζ.X A ζ' ∧ ρ.Le ρ' ∧ RH A ρ' ζ' L' H' ∧ VP ρ' ζ' v v' ∧ Only H H' A ∧ (q = true → Only H H' (H.next ≤ ·)) ∧ L.length ≤ L'.length ∧ K v L') H
def PC (n0 : Nat) (c : ICode) (Q : Ex → PEnv → List LObj → Prop) (E : PEnv) (L : List LObj) : Prop :=
 ∀ (fx : Fx) (ρ : Rho) (ζ : Zeta) (e : Env) (H : AH),RS n0 fx ρ ζ E L e H → wpC F X0 X c (fun x e' H' => ∃ ρ' ζ' E' L',RS n0 fx ρ' ζ' E' L' e' H' ∧ Q x E' L') e H
def pK (K : PV → List LObj → Prop) : PRes → Prop
 | some (p,L',_) => K p L'
 | none => False
def pKq (K : PV → List LObj → Prop) : PRes → Prop
 | some (p,L',true) => K p L'
 | _ => False
def pnilK (K : PV → List LObj → Prop) (L : List LObj) : PRes → Option PV → Option PV → Prop
 | some (p,L',_),_,_ => K p L'
 | none,some (.fz _ 0 _),some (.v (.slice none _ _)) => ∀ b,K (.v (.bool b)) L
 | none,some (.slc _ _ 0 _),some (.v (.slice none _ _)) => ∀ b,K (.v (.bool b)) L
 | none,_,_ => False
def PI (op : IOp) (K : PV → List LObj → Prop) (E : PEnv) (L : List LObj) : Prop :=
 match op with
 | .call f as => ∃ fv,pea E f = some fv ∧ ∃ args,peas E as = some args ∧ PF F X0 X false fv args L K
 | .eqNil .slice neg x y => pnilK K L (pev E L (.eqNil .slice neg x y)) (pea E x) (pea E y)
 | op => pK K (pev E L op)
def PJ (op : IOp) (K : PV → List LObj → Prop) (E : PEnv) (L : List LObj) : Prop :=
 match op with
 | .call f as => ∃ fv,pea E f = some fv ∧ ∃ args,peas E as = some args ∧ PF F X0 X true fv args L K
 | op => pKq K (pev E L op)
def PO : List Ins → (PEnv → List LObj → Prop) → PEnv → List LObj → Prop
 | [],Q,E,L => Q E L
 | i :: l,Q,E,L => if pwanted E i.guard = some true then PI F X0 X i.op (fun p L' => PO l Q (psetD E i.dst p) L') E L
  else if pwanted E i.guard = some false then PO l Q (psetD E i.dst (.tup [])) L else False
def PQ : List Ins → (PEnv → List LObj → Prop) → PEnv → List LObj → Prop
 | [],Q,E,L => Q E L
 | i :: l,Q,E,L => if pwanted E i.guard = some true then PJ F X0 X i.op (fun p L' => PQ l Q (psetD E i.dst p) L') E L
  else if pwanted E i.guard = some false then PQ l Q (psetD E i.dst (.tup [])) L else False
variable {F X0 X}
theorem PF.mono {fv : PV} {args : List PV} {K K' : PV → List LObj → Prop} (h : PF F X0 X q fv args L K) (hk : ∀ v L,K v L → K' v L) : PF F X0 X q fv args L K' := by
 intro A ρ ζ H dv dargs h0 h1 h2 h3
 exact (h A ρ ζ H dv dargs h0 h1 h2 h3).mono fun v' H' ⟨ρ',ζ',v,L',a,b,c,d,e,f,g,k⟩ => ⟨ρ',ζ',v,L',a,b,c,d,e,f,g,hk _ _ k⟩
theorem PC.mono {n0 : Nat} {c : ICode} {Q Q' : Ex → PEnv → List LObj → Prop} (h : PC F X0 X n0 c Q E L) (hq : ∀ x E L,Q x E L → Q' x E L) : PC F X0 X n0 c Q' E L := by
 intro fx ρ ζ e H hs
 exact (h fx ρ ζ e H hs).mono fun x e' H' ⟨ρ',ζ',E',L',a,b⟩ => ⟨ρ',ζ',E',L',a,hq _ _ _ b⟩
theorem pwanted_ok (he : EnvP ρ ζ E e) {gd : Option (Nat × Bool)} {b : Bool} (h : pwanted E gd = some b) : wtI e gd = some b := by
 cases gd with
 | none => exact h
 | some tb =>
  obtain ⟨t,b0⟩ := tb
  simp only [pwanted] at h
  simp only [wtI]
  split at h
  ·rename_i c hc
   obtain ⟨x,h1,h2⟩ := he t _ hc
   obtain ⟨rfl,_⟩ := h2.v_inv
   rw [h1]; exact h
  ·rename_i p hno hp
   obtain ⟨x,h1,h2⟩ := he t _ hp
   rw [h1]
   cases h
   cases x <;> first | rfl | skip
   rename_i c
   exfalso
   cases h2 with
   | v _ => exact hno c rfl
  ·cases h
theorem RS.step {n0 : Nat} {fx : Fx} (hs : RS n0 fx ρ ζ E L e H) {d : Option Nat} {x : Value} (hr : ρ.Le ρ') (hz : ζ.X fx.A ζ') (h : RH fx.A ρ' ζ' L' H') (hv : VP ρ' ζ' p x) (ho : Only H H' fx.A) (hl : L.length ≤ L'.length) :
  RS n0 fx ρ' ζ' (psetD E d p) L' (setD e d x) H' := by
 refine ⟨h, ?_,hs.only.transA ho,hs.base.trans hr,hs.dom,Nat.le_trans hs.len hl,hs.zet.trans hz⟩
 cases d with
 | none => exact hs.env.mono hr hz.le
 | some d => exact (hs.env.mono hr hz.le).set hv
theorem VP.undef : VP ρ ζ (.tup []) undefV := VP.tup (a := []) (a' := #[]) rfl (fun i h => by simp at h)
theorem pload_len {agg : Option Nat} {a : PV} (h : pload L agg a = some (p,L',q)) : L.length ≤ L'.length := by
 unfold pload at h
 repeat' (split at h)
 all_goals first | cases h | skip
 all_goals first | exact Nat.le_refl _ | simp
theorem pappend_len {t : TypeId} {size bytes : Nat} {s x : PV} (h : pappend L t size bytes s x = some (p,L',q)) : L.length ≤ L'.length := by
 unfold pappend at h
 split at h
 ·cases h
 repeat' (split at h)
 all_goals first | cases h | skip
 all_goals first | exact Nat.le_refl _ | simp
theorem aggOf_len {cs : List PV} {o : Nat} {agg : Option Nat} (h : aggOf' cs o agg L = some (p,L',q)) : L.length ≤ L'.length := by
 unfold aggOf' at h
 repeat' (split at h)
 all_goals first | cases h | skip
 all_goals exact Nat.le_refl _
theorem pev_len {op : IOp} (h : pev E L op = some (p,L',q)) : L.length ≤ L'.length := by
 unfold pev at h
 repeat' (split at h)
 all_goals first | cases h | skip
 all_goals first
  | exact Nat.le_refl _
  | exact pload_len h
  | exact pappend_len h
  | exact aggOf_len h
  | (simp only [cond_eq_ite] at h; split at h <;> cases h <;> exact Nat.le_refl _)
  | (simp; done)
theorem PO_ok {n0 : Nat} {fx : Fx} {Q : PEnv → List LObj → Prop} : ∀ (l : List Ins) {ρ : Rho} {ζ : Zeta} {E : PEnv} {L : List LObj} {e : Env} {H : AH},RS n0 fx ρ ζ E L e H → PO F X0 X l Q E L → wpO F X0 X l (fun e' H' => ∃ ρ' ζ' E' L',RS n0 fx ρ' ζ' E' L' e' H' ∧ Q E' L') e H := by
 intro l
 induction l with
 | nil => intro ρ ζ E L e H hs h; exact ⟨ρ,ζ,E,L,hs,h⟩
 | cons i l ih =>
  intro ρ ζ E L e H hs h
  simp only [PO] at h
  split at h
  ·rename_i hw
   refine ⟨true,pwanted_ok hs.env hw, ?_⟩
   rw [if_pos rfl]
   unfold PI at h
   split at h
   ·rename_i fa as hop
    obtain ⟨fv,h1,args,h2,h3⟩ := h
    obtain ⟨dv,a1,a2⟩ := pak hs.env h1
    obtain ⟨dargs,b1,b2⟩ := peas_ok hs.env h2
    rw [hop]
    refine wpI_call a1 b1 ((h3 fx.A ρ ζ H dv dargs hs.gz hs.rh a2 b2).mono ?_)
    rintro v' H' ⟨ρ',ζ',v,L',c1,c2,c3,c4,c5,c6,c7,c8⟩
    exact ih (hs.step c2 c1 c3 c4 c5 c7) c8
   ·rename_i neg x y hop
    rw [hop]
    have plain : ∀ {p L' q},pev E L (.eqNil .slice neg x y) = some (p,L',q) → PO F X0 X l Q (psetD E i.dst p) L' → wpI F X0 X (.eqNil .slice neg x y) (fun v H' => wpO F X0 X l (fun e' H' => ∃ ρ' ζ' E' L',RS n0 fx ρ' ζ' E' L' e' H' ∧ Q E' L') (setD e i.dst v) H') e H := by
     intro p L' q hp h
     obtain ⟨g,hg⟩ := hs.rh
     obtain ⟨x,H',ρ',c1,c2,c3,c4,c5,c6⟩ := pev_ok hs.gz hg hs.env hp
     exact ⟨x,H',.all fun m => c1 _,ih (hs.step c2 (.refl _ _) c3 c4 c5 (pev_len hp)) h⟩
    unfold pnilK at h
    split at h
    ·rename_i hp; exact plain hp h
    ·rename_i hp hx hy
     obtain ⟨a,a1,a2⟩ := pak hs.env hx
     obtain ⟨b,b1,b2⟩ := pak hs.env hy
     have key : ∃ r,eqNilV .slice a b = some r := by
      rw [b2.v_inv.1]
      rcases a2.fz_inv with ⟨_,rfl,a9,rfl,_⟩ | ⟨k,o,z,cap,_,_,_,_,_,rfl⟩
      ·cases a9 <;> exact ⟨_,rfl⟩
      ·exact ⟨_,rfl⟩
     obtain ⟨r,hr⟩ := key
     exact ⟨.bool (r != neg),H,.all fun m => by simp only [ev,a1,b1,hr,ok1],ih (hs.step (.refl _) (.refl _ _) hs.rh (.v rfl) (Only.refl _ _) (Nat.le_refl _)) (h _)⟩
    ·rename_i hp hx hy
     obtain ⟨a,a1,a2⟩ := pak hs.env hx
     obtain ⟨b,b1,b2⟩ := pak hs.env hy
     have key : ∃ r,eqNilV .slice a b = some r := by
      rw [b2.v_inv.1]
      rcases a2.slc_inv with ⟨k,_,_,rfl⟩ | ⟨_,_,_,_,rfl⟩
      ·exact ⟨_,rfl⟩
      ·exact ⟨_,rfl⟩
     obtain ⟨r,hr⟩ := key
     exact ⟨.bool (r != neg),H,.all fun m => by simp only [ev,a1,b1,hr,ok1],ih (hs.step (.refl _) (.refl _ _) hs.rh (.v rfl) (Only.refl _ _) (Nat.le_refl _)) (h _)⟩
    ·exact h.elim
   ·unfold pK at h
    split at h
    ·rename_i p L' q hp
     obtain ⟨g,hg⟩ := hs.rh
     obtain ⟨x,H',ρ',c1,c2,c3,c4,c5,c6⟩ := pev_ok hs.gz hg hs.env hp
     exact ⟨x,H',.all fun m => c1 _,ih (hs.step c2 (.refl _ _) c3 c4 c5 (pev_len hp)) h⟩
    ·exact h.elim
  ·split at h
   ·rename_i hw
    refine ⟨false,pwanted_ok hs.env hw, ?_⟩
    rw [if_neg (by simp)]
    exact ih (hs.step (.refl _) (.refl _ _) hs.rh VP.undef (Only.refl _ _) (Nat.le_refl _)) h
   ·exact h.elim
theorem Kp.low (H : AH) (l : Nat) : Kp H ⟨H.objs,H.next,l⟩ (fun _ => False) :=
 ⟨Nat.le_refl _,fun _ _ _ _ _ h => ⟨h.lt,h.own,h.ext⟩,fun _ _ _ _ h => ⟨h.lt,h.le,h.at_,h.root⟩,fun _ _ _ _ h _ => h⟩
theorem RHg.low (h : RHg A ρ ζ L H g) (l : Nat) : RHg A ρ ζ L ⟨H.objs,H.next,l⟩ g :=
 ⟨fun i o hi => (h.objs i o hi).kp (Kp.low H l) (.refl _) (.refl _) (fun _ h => h) (fun _ h => h.elim),h.sum,fun k z hz => let ⟨a,b⟩ := h.frz k z hz; ⟨(Kp.low H l).frz _ _ _ id a,b⟩,h.bnd,h.acc,h.dom,h.wf⟩
theorem RH.low (h : RH A ρ ζ L H) (l : Nat) : RH A ρ ζ L ⟨H.objs,H.next,l⟩ := let ⟨g,x⟩ := h; ⟨g,x.low l⟩
theorem PQ_ok {n0 : Nat} {fx : Fx} {Q : PEnv → List LObj → Prop} : ∀ (l : List Ins) {ρ : Rho} {ζ : Zeta} {E : PEnv} {L : List LObj} {e : Env} {H : AH},RS n0 fx ρ ζ E L e H → PQ F X0 X l Q E L → wpQ F X0 X l (fun e' H' => ∃ ρ' ζ' E' L',RS n0 fx ρ' ζ' E' L' e' H' ∧ Q E' L') e H := by
 intro l
 induction l with
 | nil => intro ρ ζ E L e H hs h; exact ⟨ρ,ζ,E,L,hs,h⟩
 | cons i l ih =>
  intro ρ ζ E L e H hs h
  simp only [PQ] at h
  split at h
  ·rename_i hw
   refine ⟨true,pwanted_ok hs.env hw, ?_⟩
   rw [if_pos rfl]
   have back : ∀ {H' : AH} {S : Nat → Prop},Only ⟨H.objs,H.next,H.next⟩ H' S → Only H ⟨H'.objs,H'.next,H.low⟩ S := fun ho => ⟨ho.next,ho.get,fun b h1 _ _ => h1⟩
   unfold PJ at h
   split at h
   ·rename_i fa as hop
    obtain ⟨fv,h1,args,h2,h3⟩ := h
    obtain ⟨dv,a1,a2⟩ := pak hs.env h1
    obtain ⟨dargs,b1,b2⟩ := peas_ok hs.env h2
    rw [hop]
    refine wpI_call a1 b1 ((h3 fx.A ρ ζ _ dv dargs hs.gz (hs.rh.low H.next) a2 b2).mono ?_)
    rintro v' H' ⟨ρ',ζ',v,L',c1,c2,c3,c4,c5,c6,c7,c8⟩
    refine ⟨(c6 rfl).low _ (Nat.le_refl _) (Nat.le_refl _) (fun j hj => hj), ?_⟩
    exact ih (hs.step c2 c1 (c3.low _) c4 (back c5) c7) c8
   ·unfold pKq at h
    split at h
    ·rename_i p L' hp
     obtain ⟨g,hg⟩ := hs.rh
     obtain ⟨x,H',ρ',c1,c2,c3,c4,c5,c6⟩ := pev_ok hs.gz (hg.low H.next) hs.env hp
     exact ⟨x,H',.all fun m => c1 _,c6 rfl _ (Nat.le_refl _) (Nat.le_refl _),ih (hs.step c2 (.refl _ _) (c3.low _) c4 (back c5) (pev_len hp)) h⟩
    ·exact h.elim
  ·split at h
   ·rename_i hw
    refine ⟨false,pwanted_ok hs.env hw, ?_⟩
    rw [if_neg (by simp)]
    exact ih (hs.step (.refl _) (.refl _ _) hs.rh VP.undef (Only.refl _ _) (Nat.le_refl _)) h
   ·exact h.elim
variable {n0 : Nat} {Q : Ex → PEnv → List LObj → Prop}
theorem PC_skip (h : Q .norm E L) : PC F X0 X n0 .skip Q E L := fun _ _ _ _ _ hs => wpC_skip ⟨_,_,_,_,hs,h⟩
theorem PC_exit {id : Nat} (h : Q (.exit id) E L) : PC F X0 X n0 (.exit id) Q E L := fun _ _ _ _ _ hs => wpC_exit ⟨_,_,_,_,hs,h⟩
theorem PC_ret (h : Q .ret E L) : PC F X0 X n0 .ret Q E L := fun _ _ _ _ _ hs => wpC_ret ⟨_,_,_,_,hs,h⟩
theorem PC_ops {l : List Ins} (h : PO F X0 X l (Q .norm) E L) : PC F X0 X n0 (.ops l) Q E L := fun _ _ _ _ _ hs => wpC_ops (PO_ok l hs h)
theorem PC_draw {l l' : List Ins} (h : PQ F X0 X l (PO F X0 X l' (Q .norm)) E L) : PC F X0 X n0 (.draw l l') Q E L := fun _ _ _ _ _ hs =>
 wpC_draw (wpQ_to l (fun _ _ ⟨_,_,_,_,hs,h⟩ => PO_ok l' hs h) (PQ_ok l hs h))
def pnext (k : PEnv → List LObj → Prop) (Q : Ex → PEnv → List LObj → Prop) : Ex → PEnv → List LObj → Prop
 | .norm,E,L => k E L
 | x,E,L => Q x E L
theorem PCq {a b : ICode} (h : PC F X0 X n0 a (pnext (PC F X0 X n0 b Q) Q) E L) : PC F X0 X n0 (.seq a b) Q E L := by
 intro fx ρ ζ e H hs
 refine wpC_seq ((h fx ρ ζ e H hs).mono ?_)
 rintro x e' H' ⟨ρ',ζ',E',L',hs',h'⟩
 cases x with
 | norm => exact h' fx ρ' ζ' e' H' hs'
 | _ => exact ⟨_,_,_,_,hs',h'⟩
theorem PC_cond {c : Arg} {a b : ICode} {t : Bool} (hc : pei E c = some (.bool t)) (h : if t = true then PC F X0 X n0 a Q E L else PC F X0 X n0 b Q E L) : PC F X0 X n0 (.cond c a b) Q E L := by
 intro fx ρ ζ e H hs
 refine wpC_cond (pei_ok hs.env hc).1 ?_
 cases t
 ·rw [if_neg (by simp)] at h ⊢; exact h _ _ _ _ _ hs
 ·rw [if_pos rfl] at h ⊢; exact h _ _ _ _ _ hs
def pout (id : Nat) (Q : Ex → PEnv → List LObj → Prop) : Ex → PEnv → List LObj → Prop
 | .exit j,E,L => if j = id then Q .norm E L else Q (.exit j) E L
 | x,E,L => Q x E L
theorem PC_block {id : Nat} {c : ICode} (h : PC F X0 X n0 c (pout id Q) E L) : PC F X0 X n0 (.block id c) Q E L := by
 intro fx ρ ζ e H hs
 refine wpC_block ((h fx ρ ζ e H hs).mono ?_)
 rintro x e' H' ⟨ρ',ζ',E',L',hs',h'⟩
 cases x with
 | exit j =>
  simp only [outC,pout] at h' ⊢
  by_cases hj : j = id
  ·rw [if_pos hj] at h' ⊢; exact ⟨_,_,_,_,hs',h'⟩
  ·rw [if_neg hj] at h' ⊢; exact ⟨_,_,_,_,hs',h'⟩
 | _ => exact ⟨_,_,_,_,hs',h'⟩
def Abs (n0 : Nat) (E : PEnv) (L : List LObj) (E' : PEnv) (L' : List LObj) : Prop := ∀ (fx : Fx) (ρ : Rho) (ζ : Zeta) (e : Env) (H : AH),RS n0 fx ρ ζ E L e H → ∃ ρ' ζ',RS n0 fx ρ' ζ' E' L' e H
theorem Abs.refl (n0 : Nat) (E : PEnv) (L : List LObj) : Abs n0 E L E L := fun _ ρ ζ _ _ h => ⟨ρ,ζ,h⟩
theorem Abs.trans {E2 : PEnv} {L2 : List LObj} (h : Abs n0 E L E' L') (h' : Abs n0 E' L' E2 L2) : Abs n0 E L E2 L2 := fun fx ρ ζ e H hs => let ⟨ρ',ζ',x⟩ := h fx ρ ζ e H hs; h' fx ρ' ζ' e H x
theorem PC.abs {c : ICode} (ha : Abs n0 E L E' L') (h : PC F X0 X n0 c Q E' L') : PC F X0 X n0 c Q E L := fun fx ρ ζ e H hs => let ⟨ρ',ζ',x⟩ := ha fx ρ ζ e H hs; h fx ρ' ζ' e H x
theorem PC_loop {c : ICode} (J : Nat → PEnv → List LObj → Prop) (round : ∀ k E L,J k E L → PC F X0 X n0 c (pnext (fun E' L' => ∃ k' E'' L'',k' < k ∧ Abs n0 E' L' E'' L'' ∧ J k' E'' L'') Q) E L) {k : Nat} (h : J k E L) : PC F X0 X n0 (.loop c) Q E L := by
 intro fx ρ ζ e H hs
 refine wpC_loop (fun k e H => ∃ ρ ζ E L,RS n0 fx ρ ζ E L e H ∧ J k E L) ?_ (k := k) ⟨_,_,_,_,hs,h⟩
 rintro k e H ⟨ρ,ζ,E,L,hs,hj⟩
 refine (round k E L hj fx ρ ζ e H hs).mono ?_
 rintro x e' H' ⟨ρ',ζ',E',L',hs',h'⟩
 cases x with
 | norm =>
  obtain ⟨k',E2,L2,hk,ha,hj'⟩ := h'
  obtain ⟨ρ2,ζ2,hs2⟩ := ha _ _ _ _ _ hs'
  exact ⟨k',hk,_,_,_,_,hs2,hj'⟩
 | _ => exact ⟨_,_,_,_,hs',h'⟩
def penv (args : List PV) : PEnv := T.ofFrom 0 args
theorem penv_ok {args : List PV} {dargs : List Value} (h : VPL ρ ζ args dargs) : EnvP ρ ζ (penv args) (T.ofFrom 0 dargs) := by
 intro t p hp
 unfold penv at hp
 rw [T.get_ofFrom] at hp ⊢
 simp only [Nat.zero_le,if_true,Nat.sub_zero] at hp ⊢
 exact h.get hp
def ploadv (L : List LObj) (agg : Option Nat) : PV → Option PV
 | .ptr i o => match prow L i with
  | some (_,cs) => match agg with
   | none => match cs[o]? with
    | some q => if nl q = true then some q else none
    | none => none
   | some n => if o + n ≤ cs.length ∧ allNl (cut cs o n) then some (.agg (cut cs o n)) else none
  | none => none
 | _ => none
theorem ploadv_ok (hr : RH A ρ ζ L H) {agg : Option Nat} {a : PV} {y : Value} (hv : VP ρ ζ a y) (h : ploadv L agg a = some p) : ∃ x,loadV H agg y = some x ∧ VP ρ ζ p x := by
 obtain ⟨g,hg⟩ := hr
 unfold ploadv at h
 split at h
 ·rename_i i o
  obtain ⟨k,hk,rfl⟩ := hv.ptr_inv
  split at h
  ·rename_i t cs hrow
   obtain ⟨hi,r,cells,f',h2,h3,h4,h5,h6⟩ := hg.rowK hrow hk
   have hrw := h2.rowAt.row
   split at h
   ·split at h
    ·rename_i y hy
     obtain ⟨c,hc,hw⟩ := h5.get hy
     split at h
     ·rename_i hn
      cases h
      exact ⟨c,by simp only [loadV,hrw,hc,Option.isNone_none,cond_true],hw.nl hn⟩
     ·cases h
    ·cases h
   ·rename_i n
    split at h
    ·rename_i hc
     cases h
     obtain ⟨fa,fb,w1,w2,_⟩ := h5.take o
     obtain ⟨fc,fd,w4,w5,_⟩ := w2.take n
     have hvl : VPL ρ ζ (cut cs o n) ((cells.drop o).take n) := w4.vpl hc.2
     have : Nat.ble (o + n) cells.length = true := Nat.ble_eq_true_of_le (by rw [← h5.length]; exact hc.1)
     exact ⟨_,by simp only [loadV,hrw,this,Option.isNone_none,Bool.and_self,cond_true],VP.agg' hvl⟩
    ·cases h
  ·cases h
 ·cases h
def pres (E : PEnv) (L : List LObj) : IRes → Option PV
 | .tmp t => E.get t
 | .cell a agg => match E.get a with
  | some p => ploadv L agg p
  | none => none
def press (E : PEnv) (L : List LObj) : List IRes → Option (List PV)
 | [] => some []
 | r :: rs => match pres E L r,press E L rs with
  | some v,some vs => some (v :: vs)
  | _,_ => none
def pone1 : List PV → PV
 | [p] => p
 | ps => .tup ps
theorem pres_ok (hr : RH A ρ ζ L H) (he : EnvP ρ ζ E e) {r : IRes} (h : pres E L r = some p) : ∃ x,resV e H r = some x ∧ VP ρ ζ p x := by
 cases r with
 | tmp t => exact he t p h
 | cell a agg =>
  simp only [pres] at h
  split at h
  ·rename_i pa hpa
   obtain ⟨y,h1,h2⟩ := he a _ hpa
   obtain ⟨x,h3,h4⟩ := ploadv_ok hr h2 h
   exact ⟨x,by simp only [resV,h1,h3],h4⟩
  ·cases h
theorem press_ok (hr : RH A ρ ζ L H) (he : EnvP ρ ζ E e) : ∀ {rs : List IRes} {ps : List PV},press E L rs = some ps → ∃ xs,resVs e H rs = some xs ∧ VPL ρ ζ ps xs := by
 intro rs
 induction rs with
 | nil => intro ps h; cases h; exact ⟨[],rfl,.nil⟩
 | cons r rs ih =>
  intro ps h
  simp only [press] at h
  split at h
  ·rename_i v vs h1 h2
   cases h
   obtain ⟨x,a1,a2⟩ := pres_ok hr he h1
   obtain ⟨xs,b1,b2⟩ := ih h2
   exact ⟨x :: xs,by simp only [resVs,a1,b1],.cons a2 b2⟩
  ·cases h
theorem pone1_ok {rs : List IRes} {ps : List PV} {xs : List Value} (h : VPL ρ ζ ps xs) (hv : resVs e H rs = some xs) : ∃ x,resOut e H rs = some x ∧ VP ρ ζ (pone1 ps) x := by
 unfold resOut
 rw [hv]
 cases h with
 | nil => exact ⟨_,rfl,VP.tup' .nil⟩
 | cons h1 h2 => cases h2 with
  | nil => exact ⟨_,rfl,h1⟩
  | cons h2 h3 => exact ⟨_,rfl,VP.tup' (.cons h1 (.cons h2 h3))⟩
def funcArgs (a args c : List PV) : List PV := a ++ args ++ c
theorem PF_code {f : FuncId} {fn : IFunc} {a c args : List PV} {K : PV → List LObj → Prop} (hE : X0 f = none) (hX : X f = none) (hF : F f = some fn)
  (h : PC F X0 X L.length fn.body (fun x E' L' => (x = .norm ∨ x = .ret) ∧ ∃ ps,press E' L' fn.results = some ps ∧ ∃ E2 L2 v,Abs L.length (E'.set 0 (pone1 ps)) L' E2 L2 ∧ E2.get 0 = some v ∧ K v L2) (penv (funcArgs a args c)) L) : PF F X0 X false (.fn f a c) args L K := by
 intro A ρ ζ H dv dargs gz hr hv ha
 obtain ⟨a',c',rfl,h1,h2⟩ := hv.fn_inv
 refine wpF_code hE hX hF ?_
 have hs : RS L.length ⟨A,H,ρ,ζ,gz⟩ ρ ζ (penv (funcArgs a args c)) L (T.ofFrom 0 (a'.toList ++ dargs ++ c'.toList)) H :=
  ⟨hr,penv_ok ((h1.append ha).append h2),Only.refl _ _,.refl _,let ⟨g,hg⟩ := hr; hg.dom,Nat.le_refl _,.refl _ _⟩
 refine (h _ _ _ _ _ hs).mono ?_
 rintro x e' H' ⟨ρ',ζ',E',L',hs',hx,ps,hps,E2,L2,v,hab,hg,hk⟩
 obtain ⟨xs,b1,b2⟩ := press_ok hs'.rh hs'.env hps
 obtain ⟨y,c1,c2⟩ := pone1_ok b2 b1
 have hs2 : RS L.length ⟨A,H,ρ,ζ,gz⟩ ρ' ζ' (E'.set 0 (pone1 ps)) L' (e'.set 0 y) H' := ⟨hs'.rh,hs'.env.set c2,hs'.only,hs'.base,hs'.dom,hs'.len,hs'.zet⟩
 obtain ⟨ρ2,ζ2,hs3⟩ := hab _ _ _ _ _ hs2
 obtain ⟨y',d1,d2⟩ := hs3.env 0 v hg
 rw [T.get_set,if_pos rfl] at d1
 cases d1
 exact ⟨hx,y,c1,ρ2,ζ2,v,L2,hs3.zet,hs3.base,hs3.rh,d2,hs3.only,(fun h => by cases h),hs3.len,hk⟩
end Go.Den
/- Pen, part H: the same state seen otherwise: other numbers of objects, lists that nobody writes any more. -/
namespace Go.Den
variable {ρ ρ' : Rho} {ζ ζ' : Zeta} {A A' : Nat → Prop} {H H' : AH} {f f' : Nat → Nat} {E E' : PEnv} {e : Env} {L L' : List LObj} {g : Nat → Nat → Nat} {p : PV} {q : Bool}
mutual
def noId : PV → Bool
 | .v _ => true
 | .ptr _ _ => false
 | .slc _ _ _ _ => false
 | .mapr _ => false
 | .yl _ => false
 | .fn _ a c => noIdL a && noIdL c
 | .ifc _ p => noId p
 | .agg cs => noIdL cs
 | .tup cs => noIdL cs
 | .fz _ _ cs => noIdL cs
 | .fp cs => noIdL cs
 | .ow _ _ _ cs => noIdL cs
 | .bx _ cs => noIdL cs
def noIdL : List PV → Bool
 | [] => true
 | p :: ps => noId p && noIdL ps
end
theorem nIi {l : List PV} : noIdL l = true ↔ ∀ p ∈ l,noId p = true := by
 induction l with
 | nil => simp [noIdL]
 | cons a l ih => simp [noIdL,ih]
theorem nIg {l : List PV} (h : noIdL l = true) (i : Nat) (hi : i < l.length) : noId l[i] = true := nIi.1 h _ (List.getElem_mem hi)
theorem VP.noId (hz : ζ.Le ζ') {x : Value} (h : VP ρ ζ p x) : noId p = true → VP ρ' ζ' p x := by
 induction h with
 | v h => intro _; exact .v h
 | ptr h => intro hn; simp [Den.noId] at hn
 | slc h h1 => intro hn; simp [Den.noId] at hn
 | slcN h => intro hn; simp [Den.noId] at hn
 | mapr h => intro hn; simp [Den.noId] at hn
 | yl h => intro hn; simp [Den.noId] at hn
 | fn h1 _ h3 _ ih1 ih2 =>
  intro hn; simp only [Den.noId,Bool.and_eq_true] at hn
  exact .fn h1 (fun i h h' => ih1 i h h' (nIg hn.1 i h)) h3 (fun i h h' => ih2 i h h' (nIg hn.2 i h))
 | ifc _ ih => intro hn; simp only [Den.noId] at hn; exact .ifc (ih hn)
 | agg h1 _ ih => intro hn; simp only [Den.noId] at hn; exact .agg h1 (fun i h h' => ih i h h' (nIg hn i h))
 | tup h1 _ ih => intro hn; simp only [Den.noId] at hn; exact .tup h1 (fun i h h' => ih i h h' (nIg hn i h))
 | fz h1 h0 h2 h3 h4 _ h6 ih => intro hn; simp only [Den.noId] at hn; exact .fz (hz _ _ h1) h0 h2 h3 h4 (fun i h h' => ih i h h' (nIg hn i h)) h6
 | fz0 h => intro _; exact .fz0 h
 | fp h1 h0 h3 h4 _ ih => intro hn; simp only [Den.noId] at hn; exact .fp (hz _ _ h1) h0 h3 h4 (fun i h h' => ih i h h' (nIg hn i h))
theorem VPL.noId (hz : ζ.Le ζ') {ps : List PV} {xs : List Value} (h : VPL ρ ζ ps xs) (hn : noIdL ps = true) : VPL ρ' ζ' ps xs :=
 F2.of_idx h.length fun i h1 h2 => (F2.idx h i h1 h2).noId hz (nIg hn i h1)
theorem WP.noId (hz : ζ.Le ζ') {x : Value} (h : WP A ρ ζ H f p x) : noId p = true → WP A ρ' ζ' H f p x := by
 induction h with
 | val h => intro hn; exact .val (h.noId hz hn)
 | ow g h1 h2 h3 h4 h5 _ h7 ih => intro hn; simp only [Den.noId] at hn; exact .ow g h1 h2 h3 h4 h5 (fun i h h' => ih i h h' (nIg hn i h)) h7
 | bx g h1 h2 h3 h5 _ h7 ih => intro hn; simp only [Den.noId] at hn; exact .bx g h1 h2 h3 h5 (fun i h h' => ih i h h' (nIg hn i h)) h7
 | ifc _ ih => intro hn; simp only [Den.noId] at hn; exact .ifc (ih hn)
inductive Vw (τ : List Nat) (L : List LObj) : PV → PV → Prop
 | same {p : PV} : noId p = true → Vw τ L p p
 | nil {t : TypeId} : Vw τ L (.v (.slice none 0 0)) (.fz t 0 [])
 | nilr {i j : Nat} : τ[j]? = some i → L[i]? = some .nil → Vw τ L (.v (.slice none 0 0)) (.slc j 0 0 0)
 | ptr {i j o : Nat} : τ[j]? = some i → Vw τ L (.ptr i o) (.ptr j o)
 | slc {i j o n c : Nat} : τ[j]? = some i → Vw τ L (.slc i o n c) (.slc j o n c)
 | mapr {i j : Nat} : τ[j]? = some i → Vw τ L (.mapr i) (.mapr j)
 | yl {i j : Nat} : τ[j]? = some i → Vw τ L (.yl i) (.yl j)
 | fn {f : FuncId} {a a' c c' : List PV} : a.length = a'.length → (∀ i (h : i < a.length) (h' : i < a'.length),Vw τ L a[i] a'[i]) → c.length = c'.length → (∀ i (h : i < c.length) (h' : i < c'.length),Vw τ L c[i] c'[i]) → Vw τ L (.fn f a c) (.fn f a' c')
 | ifc {t : TypeId} {p p' : PV} : Vw τ L p p' → Vw τ L (.ifc t p) (.ifc t p')
 | agg {a a' : List PV} : a.length = a'.length → (∀ i (h : i < a.length) (h' : i < a'.length),Vw τ L a[i] a'[i]) → Vw τ L (.agg a) (.agg a')
 | tup {a a' : List PV} : a.length = a'.length → (∀ i (h : i < a.length) (h' : i < a'.length),Vw τ L a[i] a'[i]) → Vw τ L (.tup a) (.tup a')
 | fzs {i o n c : Nat} {t : TypeId} {cs cs' cs'' : List PV} : i ∉ τ → prow L i = some (t,cs) → allNl cs → o ≤ cs.length → cs'' = (cs.drop o).take cs''.length → cs''.length = cs'.length → (∀ i (h : i < cs''.length) (h' : i < cs'.length),Vw τ L cs''[i] cs'[i]) → Vw τ L (.slc i o n c) (.fz t n cs')
 | fzp {i o : Nat} {t : TypeId} {cs cs' cs'' : List PV} : i ∉ τ → prow L i = some (t,cs) → allNl cs → o ≤ cs.length → cs'' = (cs.drop o).take cs''.length → cs''.length = cs'.length → (∀ i (h : i < cs''.length) (h' : i < cs'.length),Vw τ L cs''[i] cs'[i]) → Vw τ L (.ptr i o) (.fp cs')
def zrOf (H : AH) (k : Nat) : Option Zr := match H.get k with
 | some (.cells cs t _ ex r _ _) => some ⟨t,ex,cs,r⟩
 | _ => none
open Classical in
noncomputable def zall (τ : List Nat) (L : List LObj) (ρ : Rho) (ζ : Zeta) (H : AH) : Zeta := fun k =>
 if ∃ i t cs,L[i]? = some (.row t cs) ∧ ρ i = some (some k) ∧ i ∉ τ then zrOf H k else ζ k
theorem own_zr {k r : Nat} {t : TypeId} {cells : List Value} (h : Own H k r t cells) : ∃ z,zrOf H k = some z ∧ z.t = t ∧ z.cs = cells ∧ z.r = r ∧ FrzRow H k r z := by
 obtain ⟨t',ro,ex,thr,tip,h1⟩ := h.rowAt.at_
 have ht : t' = t := by
  rcases h.own with ⟨_,ex,thr,_,h2⟩ | ⟨_,⟨thr,tip,h2⟩,_⟩ <;> (rw [h1] at h2; cases h2; rfl)
 subst ht
 exact ⟨⟨t',ex,cells,r⟩,by simp [zrOf,h1],rfl,rfl,rfl,h.lt,h.rowAt.le,⟨_,_,_,h1⟩,h.rowAt.root⟩
theorem frz_root {k r r' : Nat} {z z' : Zr} (h : FrzRow H k r z) (h' : FrzRow H k r' z') : r = r' := by
 obtain ⟨_,_,_,h1⟩ := h.at_
 obtain ⟨_,_,_,h2⟩ := h'.at_
 rw [h1] at h2
 simp only [Option.some.injEq,AObj.cells.injEq] at h2
 exact h2.2.2.2.2.1
theorem zall_x (hg : RHg A ρ ζ L H g) (τ : List Nat) : ζ.X A (zall τ L ρ ζ H) := by
 refine ⟨fun k z hz => ?_,fun k z hz => ?_⟩
 ·unfold zall
  split
  ·rename_i hh
   obtain ⟨i,t,cs,h1,h2,h3⟩ := hh
   exfalso
   obtain ⟨a,b⟩ := hg.frz k z hz
   have hpr : prow L i = some (t,cs) := by simp [prow,h1]
   obtain ⟨_,r,cells,f',c2,c3,c4,c5,c6⟩ := hg.rowK hpr h2
   obtain ⟨z',_,_,_,_,d⟩ := own_zr c2
   have := frz_root a d
   have hi : i < L.length := (List.getElem?_eq_some_iff.1 h1).1
   have := sumN_le (g := fun i => g i z.r) hi
   have := c6 z.r
   simp_all
  ·exact hz
 ·unfold zall at hz
  split at hz
  ·rename_i hh
   obtain ⟨i,t,cs,h1,h2,h3⟩ := hh
   have hpr : prow L i = some (t,cs) := by simp [prow,h1]
   obtain ⟨_,r,cells,f',c2,c3,c4,c5,c6⟩ := hg.rowK hpr h2
   obtain ⟨z',d1,_,_,d2,_⟩ := own_zr c2
   rw [d1] at hz; cases hz
   exact .inr (d2 ▸ c4)
  ·exact .inl hz
theorem zall_row (hg : RHg A ρ ζ L H g) {τ : List Nat} {i : Nat} {t : TypeId} {cs : List PV} (hi : i ∉ τ) (hrow : prow L i = some (t,cs)) (hn : allNl cs) : (∃ k z,ρ i = some (some k) ∧ zall τ L ρ ζ H k = some z ∧ z.t = t ∧ VPL ρ ζ cs z.cs) ∨ (cs = [] ∧ ρ i = some none) := by
 obtain ⟨hlt,⟨k,r,cells,f',h1,h2,h3,h4,h5,h6⟩ | h1⟩ := hg.row hrow
 case inr => exact .inr h1
 obtain ⟨z,d1,d2,d3,d4,d5⟩ := own_zr h2
 refine .inl ⟨k,z,h1, ?_,d2,d3 ▸ h5.vpl hn⟩
 unfold zall
 rw [if_pos ⟨i,t,cs,prow_some hrow,h1,hi⟩]
 exact d1
def rhoOf (τ : List Nat) (ρ : Rho) : Rho := fun j => τ[j]?.bind ρ
theorem Vw.ok (hg : RHg A ρ ζ L H g) {τ : List Nat} {p' : PV} (h : Vw τ L p p') : ∀ {x : Value},VP ρ ζ p x → VP (rhoOf τ ρ) (zall τ L ρ ζ H) p' x := by
 induction h with
 | same hn => intro x hx; exact hx.noId (zall_x hg τ).le hn
 | nil => intro x hx; rw [hx.v_inv.1]; exact .fzN
 | ptr h => intro x hx; obtain ⟨k,hk,rfl⟩ := hx.ptr_inv; exact .ptr (by simp [rhoOf,h,hk])
 | nilr h h1 => intro x hx; rw [hx.v_inv.1]; have h2 := hg.objs _ _ h1; exact .slcN (by simp only [rhoOf,h]; exact h2)
 | slc h =>
  intro x hx
  rcases hx.slc_inv with ⟨k,hk,hl,rfl⟩ | ⟨hk,rfl,rfl,rfl,rfl⟩
  ·exact .slc (by simp [rhoOf,h,hk]) hl
  ·exact .slcN (by simp [rhoOf,h,hk])
 | mapr h => intro x hx; obtain ⟨k,hk,rfl⟩ := hx.mapr_inv; exact .mapr (by simp [rhoOf,h,hk])
 | yl h => intro x hx; cases hx with | yl hk => exact .yl (by simp [rhoOf,h,hk])
 | fn h1 _ h3 _ ih1 ih2 =>
  intro x hx
  cases hx with
  | fn g1 g2 g3 g4 => exact .fn (by omega) (fun i h h' => ih1 i (by omega) h (g2 i (by omega) h')) (by omega) (fun i h h' => ih2 i (by omega) h (g4 i (by omega) h'))
 | ifc _ ih => intro x hx; obtain ⟨y,rfl,hy⟩ := hx.ifc_inv; exact .ifc (ih hy)
 | agg h1 _ ih =>
  intro x hx
  cases hx with
  | agg g1 g2 => exact .agg (by omega) (fun i h h' => ih i (by omega) h (g2 i (by omega) h'))
 | tup h1 _ ih =>
  intro x hx
  cases hx with
  | tup g1 g2 => exact .tup (by omega) (fun i h h' => ih i (by omega) h (g2 i (by omega) h'))
 | fzs hi hrow hn ho hc hl _ ih =>
  rename_i i o n c t cs cs' cs'' _
  intro x hx
  rcases hx.slc_inv with ⟨k,hk,hlc,rfl⟩ | ⟨hk,rfl,rfl,rfl,rfl⟩
  case inr =>
   obtain ⟨_,rfl⟩ := hg.rowN hrow hk
   have hc' : cs'' = [] := by rw [hc]; simp
   subst hc'
   have : cs' = [] := List.eq_nil_of_length_eq_zero (by simpa using hl.symm)
   subst this
   exact .fzN
  rcases zall_row hg hi hrow hn with ⟨k',z,h1,h2,h3,h4⟩ | ⟨_,h1⟩
  case inr => rw [hk] at h1; cases h1
  rw [hk] at h1; cases h1
  have hv : VPL ρ ζ cs'' ((z.cs.drop o).take cs''.length) := by
   conv => arg 3; rw [hc]
   exact (h4.drop o).take _
  have hlen := hv.length
  refine .fz h2 (by rw [← h4.length]; exact ho) (.inr h3) rfl (by rw [← hl]; exact hlen) (fun j a b => ?_) hlc
  have := ih j (by omega) a (F2.idx hv j (by omega) (by omega))
  simp only [← hl]
  exact this
 | fzp hi hrow hn ho hc hl _ ih =>
  rename_i i o t cs cs' cs'' _
  intro x hx
  obtain ⟨k,hk,rfl⟩ := hx.ptr_inv
  rcases zall_row hg hi hrow hn with ⟨k',z,h1,h2,h3,h4⟩ | ⟨_,h1⟩
  case inr => rw [hk] at h1; cases h1
  rw [hk] at h1; cases h1
  have hv : VPL ρ ζ cs'' ((z.cs.drop o).take cs''.length) := by
   conv => arg 3; rw [hc]
   exact (h4.drop o).take _
  have hlen := hv.length
  refine .fp h2 (by rw [← h4.length]; exact ho) rfl (by rw [← hl]; exact hlen) (fun j a b => ?_)
  have := ih j (by omega) a (F2.idx hv j (by omega) (by omega))
  simp only [← hl]
  exact this
theorem Vw.okW (hg : RHg A ρ ζ L H g) {τ : List Nat} {x : Value} (hw : WP A ρ ζ H f p x) : ∀ {p' : PV},Vw τ L p p' → WP A (rhoOf τ ρ) (zall τ L ρ ζ H) H f p' x := by
 have hz := (zall_x hg τ).le
 induction hw with
 | val hv => intro p' h; exact .val (h.ok hg hv)
 | ow g h1 h2 h3 h4 h5 h6 h7 ih =>
  intro p' h
  cases h with
  | same hn => exact WP.noId (ρ := ρ) hz (.ow g h1 h2 h3 h4 h5 h6 h7) hn
 | bx g h1 h2 h3 h5 h6 h7 ih =>
  intro p' h
  cases h with
  | same hn => exact WP.noId (ρ := ρ) hz (.bx g h1 h2 h3 h5 h6 h7) hn
 | ifc hw ih =>
  intro p' h
  cases h with
  | same hn => exact WP.noId (ρ := ρ) hz (.ifc hw) hn
  | ifc h => exact .ifc (ih h)
abbrev VwL (τ : List Nat) (L : List LObj) := F2 (Vw τ L)
theorem Vw.okWL (hg : RHg A ρ ζ L H g) {τ : List Nat} {cs cs' : List PV} {xs : List Value} (h : VwL τ L cs cs') (hw : WL A ρ ζ H f cs xs) : WL A (rhoOf τ ρ) (zall τ L ρ ζ H) H f cs' xs := by
 obtain ⟨g',h1,h2,h3⟩ := hw
 have hl := h.length
 refine ⟨g',by omega,fun i a b => Vw.okW hg (h2 i (by omega) b) (F2.idx h i (by omega) a),fun x => by rw [← hl]; exact h3 x⟩
inductive VwO (τ : List Nat) (L : List LObj) : LObj → LObj → Prop
 | row {t : TypeId} {cs cs' : List PV} : VwL τ L cs cs' → VwO τ L (.row t cs) (.row t cs')
 | map {es es' : List (Value × PV × Nat)} {c : Nat} : F2 (fun a b => a.1 = b.1 ∧ a.2.2 = b.2.2 ∧ Vw τ L a.2.1 b.2.1) es es' → VwO τ L (.map es c) (.map es' c)
 | rmap {es es' : List (Value × PV × Nat)} {c : Nat} : F2 (fun a b => a.1 = b.1 ∧ a.2.2 = b.2.2 ∧ Vw τ L a.2.1 b.2.1) es es' → VwO τ L (.rmap es c) (.rmap es' c)
 | loop {E E' : T PV} {ps : List Nat} {as bd : ICode} {st : Nat} {pend : Option Ex} : (∀ t p',E'.get t = some p' → ∃ p,E.get t = some p ∧ Vw τ L p p') → VwO τ L (.loop E ps as bd st pend) (.loop E' ps as bd st pend)
 | iter {s : ByteArray} {pos : Nat} : VwO τ L (.iter s pos) (.iter s pos)
 | nil : VwO τ L .nil .nil
 | nilr {t : TypeId} : VwO τ L .nil (.row t [])
 | dead {o : LObj} : VwO τ L o .dead
theorem sum_sub : ∀ (τ : List Nat) (n : Nat) (g : Nat → Nat),τ.Nodup → (∀ i ∈ τ,i < n) → (τ.map g).sum ≤ sumN n g := by
 intro τ
 induction τ with
 | nil => intro n g _ _; simp
 | cons i τ ih =>
  intro n g hn hl
  rw [List.nodup_cons] at hn
  have hi := hl i (by simp)
  have h1 := ih n (fun j => if j = i then 0 else g j) hn.2 (fun j hj => hl j (by simp [hj]))
  have h2 := sumN_upd (n := n) (i := i) (g := g) (y := 0) hi
  have h3 : τ.map (fun j => if j = i then 0 else g j) = τ.map g := List.map_congr_left fun j hj => by rw [if_neg]; rintro rfl; exact hn.1 hj
  rw [h3] at h1
  simp only [List.map_cons,List.sum_cons]
  omega
theorem sum_get (τ : List Nat) (d : Nat) (g : Nat → Nat) : sumN τ.length (fun j => g (τ.getD j d)) = (τ.map g).sum := by
 induction τ with
 | nil => rfl
 | cons i τ ih =>
  have h1 : sumN (1 + τ.length) (fun j => g ((i :: τ).getD j d)) = g i + sumN τ.length (fun j => g (τ.getD j d)) := by
   rw [sumN_add]
   congr 1
   ·simp [sumN]
   ·exact sumN_congr fun j hj => by simp [List.getD_eq_getElem?_getD,Nat.add_comm 1 j]
  simp only [List.length_cons,List.map_cons,List.sum_cons]
  rw [Nat.add_comm τ.length 1,h1,ih]
theorem RHg.view (hg : RHg A ρ ζ L H g) (τ : List Nat) (hnd : τ.Nodup) (hlt : ∀ i ∈ τ,i < L.length) (hlen : L'.length = τ.length)
  (hL : ∀ (j i : Nat) (o' : LObj),τ[j]? = some i → L'[j]? = some o' → ∃ o,L[i]? = some o ∧ VwO τ L o o') : RHg A (rhoOf τ ρ) (zall τ L ρ ζ H) L' H (fun j => g (τ.getD j L.length)) := by
 refine ⟨?_, ?_, ?_, ?_,hg.acc, ?_,hg.wf⟩
 ·intro j o' hj
  have hjt : j < τ.length := by rw [← hlen]; exact (List.getElem?_eq_some_iff.1 hj).1
  have hti : τ[j]? = some (τ.getD j L.length) := by simp [List.getD_eq_getElem?_getD,hjt]
  obtain ⟨o,h1,h2⟩ := hL j _ o' hti hj
  have hop := hg.objs _ _ h1
  have hrho : ∀ k,ρ (τ.getD j L.length) = some k → rhoOf τ ρ j = some k := fun k hk => by unfold rhoOf; rw [hti]; exact hk
  cases h2 with
  | row hv =>
   rcases hop with ⟨k,r,cells,f',c1,c2,c3,c4,c5,c6⟩ | ⟨c1,c2⟩
   ·exact .inl ⟨k,r,cells,f',hrho _ c1,c2,c3,c4,Vw.okWL hg hv c5,c6⟩
   ·subst c1; exact .inr ⟨List.eq_nil_of_length_eq_zero (by simpa using hv.length.symm),hrho _ c2⟩
  | nil => exact hrho _ hop
  | nilr => exact .inr ⟨rfl,hrho _ hop⟩
  | map hv =>
   obtain ⟨k,es',f',c1,c0,c2,c3,⟨c4,c5⟩,c6⟩ := hop
   refine ⟨k,es',f',hrho _ c1,c0,c2,c3,⟨?_,Vw.okWL hg ?_ c5⟩,c6⟩
   ·have := hv.length
    exact F2.of_idx (by rw [← this]; exact c4.length) fun i a b => by
     have d1 := F2.idx hv i (by omega) a
     have d2 := F2.idx c4 i (by omega) b
     exact ⟨d1.1.symm.trans d2.1,d1.2.1.symm.trans d2.2⟩
   ·exact F2.of_idx (by simpa using hv.length) fun i a b => by
     simp only [List.getElem_map]
     exact (F2.idx hv i (by simpa using a) (by simpa using b)).2.2
  | rmap hv =>
   obtain ⟨k,es',c1,c0,c2,⟨c4,c5⟩,c6⟩ := hop
   refine ⟨k,es',hrho _ c1,c0,c2,⟨?_, ?_⟩,c6⟩
   ·have := hv.length
    exact F2.of_idx (by rw [← this]; exact c4.length) fun i a b => by
     have d1 := F2.idx hv i (by omega) a
     have d2 := F2.idx c4 i (by omega) b
     exact ⟨d1.1.symm.trans d2.1,d1.2.1.symm.trans d2.2⟩
   ·have hl := hv.length
    have hl5 := c5.length
    simp only [List.length_map] at hl5
    exact F2.of_idx (by simp only [List.length_map]; omega) fun i a b => by
     simp only [List.length_map] at a b
     have d1 := (F2.idx hv i (by omega) a).2.2
     have d2 := F2.idx c5 i (by simp only [List.length_map]; omega) (by simpa using b)
     simp only [List.getElem_map] at d2 ⊢
     exact d1.ok hg d2
  | iter =>
   obtain ⟨k,c1,c2,c3,c4,c5⟩ := hop
   exact ⟨k,hrho _ c1,c2,c3,c4,c5⟩
  | loop hv =>
   obtain ⟨k,e',c1,c2,c3,c4,c6,c5⟩ := hop
   refine ⟨k,e',hrho _ c1,c2,c3,c4,fun t p' hp' => ?_,c5⟩
   obtain ⟨p,d1,d2⟩ := hv t p' hp'
   obtain ⟨x,d3,d4⟩ := c6 t p d1
   exact ⟨x,d3,d2.ok hg d4⟩
  | dead => trivial
 ·intro r
  rw [hlen,sum_get τ L.length (fun i => g i r)]
  exact Nat.le_trans (sum_sub τ L.length (fun i => g i r) hnd hlt) (hg.sum r)
 ·intro k z hz
  rw [hlen,sum_get τ L.length (fun i => g i z.r)]
  unfold zall at hz
  split at hz
  ·rename_i hh
   obtain ⟨i,t,cs,h1,h2,h3⟩ := hh
   have hpr : prow L i = some (t,cs) := by simp [prow,h1]
   obtain ⟨_,r,cells,f',c2,c3,c4,c5,c6⟩ := hg.rowK hpr h2
   obtain ⟨z',d1,_,_,d2,d3⟩ := own_zr c2
   rw [d1] at hz; cases hz
   rw [d2]
   have hi : i < L.length := (List.getElem?_eq_some_iff.1 h1).1
   have q1 := sum_sub (i :: τ) L.length (fun i => g i r) (List.nodup_cons.2 ⟨h3,hnd⟩) (fun j hj => (List.mem_cons.1 hj).elim (fun e => e ▸ hi) (hlt j))
   simp only [List.map_cons,List.sum_cons] at q1
   have q2 := hg.sum r
   have q3 := c6 r
   simp only [if_true] at q3
   exact ⟨d3,by omega⟩
  ·obtain ⟨a,b⟩ := hg.frz k z hz
   exact ⟨a,Nat.eq_zero_of_le_zero (Nat.le_trans (sum_sub τ L.length (fun i => g i z.r) hnd hlt) (Nat.le_of_eq b))⟩
 ·intro r hr
  rw [hlen,sum_get τ L.length (fun i => g i r)]
  exact Nat.eq_zero_of_le_zero (Nat.le_trans (sum_sub τ L.length (fun i => g i r) hnd hlt) (Nat.le_of_eq (hg.bnd r hr)))
 ·intro i k hk
  unfold rhoOf at hk
  rw [hlen]
  cases hh : τ[i]? with
  | none => rw [hh] at hk; cases hk
  | some _ => exact (List.getElem?_eq_some_iff.1 hh).1
theorem Abs.view {n0 : Nat} (τ : List Nat) (hnd : τ.Nodup) (hlt : ∀ i ∈ τ,i < L.length) (hpin : ∀ i,i < n0 → τ[i]? = some i) (hlen : L'.length = τ.length) (hn0 : n0 ≤ τ.length)
  (hL : ∀ (j i : Nat) (o' : LObj),τ[j]? = some i → L'[j]? = some o' → ∃ o,L[i]? = some o ∧ VwO τ L o o') (hE : ∀ t p',E'.get t = some p' → ∃ p,E.get t = some p ∧ Vw τ L p p') : Abs n0 E L E' L' := by
 intro fx ρ ζ e H hs
 obtain ⟨g,hg⟩ := hs.rh
 have hx := zall_x hg τ
 refine ⟨rhoOf τ ρ,zall τ L ρ ζ H,⟨⟨fun j => g (τ.getD j L.length),hg.view τ hnd hlt hlen hL⟩, ?_,hs.only, ?_,hs.dom,by rw [hlen]; exact hn0,hs.zet.trans hx⟩⟩
 ·intro t p' hp'
  obtain ⟨p,h1,h2⟩ := hE t p' hp'
  obtain ⟨x,h3,h4⟩ := hs.env t p h1
  exact ⟨x,h3,h2.ok hg h4⟩
 ·intro i k hk
  have hi := hs.dom i k hk
  unfold rhoOf
  rw [hpin i hi]
  exact hs.base i k hk
theorem Abs.addNil (n0 : Nat) (E : PEnv) (L : List LObj) : Abs n0 E L E (L ++ [.nil]) := by
 intro fx ρ ζ e H hs
 obtain ⟨g,hg⟩ := hs.rh
 have hle := Rho.le_add (k := none) hg.fresh
 exact ⟨_,ζ,hg.pushN Rho.add_self,hs.env.mono hle (.refl _),hs.only,hs.base.trans hle,hs.dom,by have := hs.len; simp; omega,hs.zet⟩
end Go.Den
/- Pen, part I: a call that is given no objects. -/
namespace Go.Den
variable {ρ ρ' : Rho} {ζ ζ' : Zeta} {A A' : Nat → Prop} {H H' : AH} {f f' : Nat → Nat} {E E' : PEnv} {e : Env} {L L' : List LObj} {g : Nat → Nat → Nat} {p : PV} {q : Bool}
mutual
def ren (θ : Nat → Nat) : PV → PV
 | .v x => .v x
 | .ptr i o => .ptr (θ i) o
 | .slc i o n c => .slc (θ i) o n c
 | .mapr i => .mapr (θ i)
 | .yl i => .yl (θ i)
 | .fn f a c => .fn f (renL θ a) (renL θ c)
 | .ifc t p => .ifc t (ren θ p)
 | .agg cs => .agg (renL θ cs)
 | .tup cs => .tup (renL θ cs)
 | .fz t n cs => .fz t n (renL θ cs)
 | .fp cs => .fp (renL θ cs)
 | .ow t n c cs => .ow t n c (renL θ cs)
 | .bx t cs => .bx t (renL θ cs)
def renL (θ : Nat → Nat) : List PV → List PV
 | [] => []
 | p :: ps => ren θ p :: renL θ ps
end
theorem renL_map (θ : Nat → Nat) (l : List PV) : renL θ l = l.map (ren θ) := by
 induction l with
 | nil => rfl
 | cons a l ih => simp [renL,ih]
@[simp] theorem renL_length (θ : Nat → Nat) (l : List PV) : (renL θ l).length = l.length := by rw [renL_map]; simp
theorem renL_get (θ : Nat → Nat) (l : List PV) (i : Nat) (h : i < (renL θ l).length) : (renL θ l)[i] = ren θ (l[i]'(by simpa using h)) := by
 simp only [renL_map,List.getElem_map]
mutual
theorem ren_noId (θ : Nat → Nat) : ∀ p : PV,noId p = true → ren θ p = p
 | .v x,_ => rfl
 | .ptr i o,h => by simp [noId] at h
 | .slc i o n c,h => by simp [noId] at h
 | .mapr i,h => by simp [noId] at h
 | .yl i,h => by simp [noId] at h
 | .fn f a c,h => by simp only [noId,Bool.and_eq_true] at h; simp only [ren,renL_noId θ a h.1,renL_noId θ c h.2]
 | .ifc t p,h => by simp only [noId] at h; simp only [ren,ren_noId θ p h]
 | .agg cs,h => by simp only [noId] at h; simp only [ren,renL_noId θ cs h]
 | .tup cs,h => by simp only [noId] at h; simp only [ren,renL_noId θ cs h]
 | .fz t n cs,h => by simp only [noId] at h; simp only [ren,renL_noId θ cs h]
 | .fp cs,h => by simp only [noId] at h; simp only [ren,renL_noId θ cs h]
 | .ow t n c cs,h => by simp only [noId] at h; simp only [ren,renL_noId θ cs h]
 | .bx t cs,h => by simp only [noId] at h; simp only [ren,renL_noId θ cs h]
theorem renL_noId (θ : Nat → Nat) : ∀ l : List PV,noIdL l = true → renL θ l = l
 | [],_ => rfl
 | p :: ps,h => by simp only [noIdL,Bool.and_eq_true] at h; simp only [renL,ren_noId θ p h.1,renL_noId θ ps h.2]
end
def renO (θ : Nat → Nat) : LObj → LObj
 | .row t cs => .row t (renL θ cs)
 | .map es c => .map (es.map fun e => (e.1,ren θ e.2.1,e.2.2)) c
 | .rmap .. => .dead
 | .iter s pos => .iter s pos
 | .loop .. => .dead
 | .nil => .nil
 | .dead => .dead
theorem VP.ren {θ : Nat → Nat} {x : Value} (h : VP (fun i => ρ (θ i)) ζ p x) : VP ρ ζ (Den.ren θ p) x := by
 induction h with
 | v h => exact .v h
 | ptr h => exact .ptr h
 | slc h h1 => exact .slc h h1
 | slcN h => exact .slcN h
 | mapr h => exact .mapr h
 | yl h => exact .yl h
 | fn h1 _ h3 _ ih1 ih2 => exact .fn (by simpa using h1) (fun i h h' => by rw [renL_get]; exact ih1 i (by simpa using h) h') (by simpa using h3) (fun i h h' => by rw [renL_get]; exact ih2 i (by simpa using h) h')
 | ifc _ ih => exact .ifc ih
 | agg h1 _ ih => exact .agg (by simpa using h1) (fun i h h' => by rw [renL_get]; exact ih i (by simpa using h) h')
 | tup h1 _ ih => exact .tup (by simpa using h1) (fun i h h' => by rw [renL_get]; exact ih i (by simpa using h) h')
 | fz h1 h0 h2 h3 h4 _ h6 ih => exact .fz h1 h0 h2 (by simpa using h3) (by simpa using h4) (fun i h h' => by rw [renL_get]; exact ih i (by simpa using h) h') h6
 | fz0 h => exact .fz0 h
 | fp h1 h0 h3 h4 _ ih => exact .fp h1 h0 (by simpa using h3) (by simpa using h4) (fun i h h' => by rw [renL_get]; exact ih i (by simpa using h) h')
theorem WP.ren {θ : Nat → Nat} {x : Value} (h : WP A (fun i => ρ (θ i)) ζ H f p x) : WP A ρ ζ H f (Den.ren θ p) x := by
 induction h with
 | val h => exact .val h.ren
 | ow g h1 h2 h3 h4 h5 _ h7 ih => exact .ow g h1 h2 h3 h4 (by simpa using h5) (fun i h h' => by rw [renL_get]; exact ih i (by simpa using h) h') (by simpa using h7)
 | bx g h1 h2 h3 h5 _ h7 ih => exact .bx g h1 h2 h3 (by simpa using h5) (fun i h h' => by rw [renL_get]; exact ih i (by simpa using h) h') (by simpa using h7)
 | ifc _ ih => exact .ifc ih
theorem WL.ren {θ : Nat → Nat} {cs : List PV} {xs : List Value} (h : WL A (fun i => ρ (θ i)) ζ H f cs xs) : WL A ρ ζ H f (renL θ cs) xs := by
 obtain ⟨g,a,b,c⟩ := h
 exact ⟨g,by simpa using a,fun i h h' => by rw [renL_get]; exact (b i (by simpa using h) h').ren,by simpa using c⟩
theorem OP.ren {θ : Nat → Nat} {i : Nat} {o : LObj} (h : OP A (fun i => ρ (θ i)) ζ H f i o) : OP A ρ ζ H f (θ i) (renO θ o) := by
 cases o with
 | row t cs =>
  rcases h with ⟨k,r,cells,f',h1,h2,h3,h4,h5,h6⟩ | ⟨h1,h2⟩
  ·exact .inl ⟨k,r,cells,f',h1,h2,h3,h4,h5.ren,h6⟩
  ·subst h1; exact .inr ⟨rfl,h2⟩
 | map es c =>
  obtain ⟨k,es',f',h1,h0,h2,h3,⟨h4,h5⟩,h6⟩ := h
  refine ⟨k,es',f',h1,h0,h2,h3,⟨?_, ?_⟩,h6⟩
  ·exact F2.of_idx (by simpa using h4.length) fun i a b => by simpa using F2.idx h4 i (by simpa using a) b
  ·have := h5.ren
   rw [renL_map] at this
   simpa [List.map_map,Function.comp_def] using this
 | rmap => trivial
 | iter s pos => exact h
 | loop => trivial
 | nil => exact h
 | dead => trivial
open Classical in
noncomputable def tg (A : Nat → Prop) (f : Nat → Nat) : Nat → Nat := fun r => if A r then f r else 0
theorem tg_sum (A : Nat → Prop) (n r : Nat) (hr : A r) (g : Nat → Nat → Nat) (f : Nat → Nat) (h : ∀ x,(if x = r then 1 else 0) + sumN n (fun i => g i x) ≤ f x) : ∀ x,(if x = r then 1 else 0) + sumN n (fun i => tg A (g i) x) ≤ tg A f x := by
 intro x
 unfold tg
 by_cases hx : A x
 ·simp only [hx,if_true]; exact h x
 ·have : x ≠ r := fun e => hx (e ▸ hr)
  simp only [hx,if_false,this]
  rw [sumN_zero (fun _ _ => rfl)]
  exact Nat.le_refl _
theorem tg_le (A : Nat → Prop) (n : Nat) (g : Nat → Nat → Nat) (f : Nat → Nat) (h : ∀ x,sumN n (fun i => g i x) ≤ f x) : ∀ x,sumN n (fun i => tg A (g i) x) ≤ tg A f x := by
 intro x
 unfold tg
 by_cases hx : A x
 ·simp only [hx,if_true]; exact h x
 ·simp only [hx,if_false]; rw [sumN_zero (fun _ _ => rfl)]; exact Nat.le_refl _
theorem WP.tight {x : Value} (h : WP A ρ ζ H f p x) : WP A ρ ζ H (tg A f) p x := by
 induction h with
 | val h => exact .val h
 | ow g h1 h2 h3 h4 h5 _ h7 ih => exact .ow (fun i => tg A (g i)) h1 h2 h3 h4 h5 ih (tg_sum A _ _ h3 g _ h7)
 | bx g h1 h2 h3 h5 _ h7 ih => exact .bx (fun i => tg A (g i)) h1 h2 h3 h5 ih (tg_sum A _ _ h3 g _ h7)
 | ifc _ ih => exact .ifc ih
theorem WL.tight {cs : List PV} {xs : List Value} (h : WL A ρ ζ H f cs xs) : WL A ρ ζ H (tg A f) cs xs := by
 obtain ⟨g,a,b,c⟩ := h
 exact ⟨fun i => tg A (g i),a,fun i h h' => (b i h h').tight,tg_le A _ g f c⟩
theorem tg_add (A : Nat → Prop) (r : Nat) (hr : A r) (f' f : Nat → Nat) (h : ∀ x,(if x = r then 1 else 0) + f' x ≤ f x) : ∀ x,(if x = r then 1 else 0) + tg A f' x ≤ tg A f x := by
 intro x
 unfold tg
 by_cases hx : A x
 ·simp only [hx,if_true]; exact h x
 ·have : x ≠ r := fun e => hx (e ▸ hr)
  simp [hx,this]
theorem OP.tight {i : Nat} {o : LObj} (h : OP A ρ ζ H f i o) (hn : ∀ es c,o ≠ .rmap es c) : OP A ρ ζ H (tg A f) i o := by
 cases o with
 | row t cs =>
  rcases h with ⟨k,r,cells,f',h1,h2,h3,h4,h5,h6⟩ | h
  ·exact .inl ⟨k,r,cells,tg A f',h1,h2,h3,h4,h5.tight,tg_add A r h4 f' f h6⟩
  ·exact .inr h
 | map es c => obtain ⟨k,es',f',h1,h0,h2,h3,⟨h4,h5⟩,h6⟩ := h; exact ⟨k,es',tg A f',h1,h0,h2,h3,⟨h4,h5.tight⟩,tg_add A k h3 f' f h6⟩
 | rmap es c => exact absurd rfl (hn es c)
 | iter s pos => obtain ⟨k,h1,h0,h2,h3,h4⟩ := h; exact ⟨k,h1,h0,h2,h3,by unfold tg; simp [h3,h4]⟩
 | loop E ps as bd st pend => obtain ⟨k,e,h1,h0,h2,h3,h5,h4⟩ := h; exact ⟨k,e,h1,h0,h2,h3,h5,by unfold tg; simp [h3,h4]⟩
 | nil => exact h
 | dead => trivial
theorem Kp.of_only {H H' : AH} (h : Only H H' (H.next ≤ ·)) : Kp H H' (fun _ => False) := by
 refine ⟨h.next,fun k r t cs _ ho => ?_,fun k r z _ hf => ?_,fun j o hj _ hg _ => ?_⟩
 ·have := ho.lt; have := ho.rowAt.le
  exact ho.only h (by omega) (by omega)
 ·have := hf.lt; have := hf.le
  exact hf.only h (by omega) (by omega)
 ·rw [h.get j hj (by omega)]; exact hg
variable {F : FuncId → Option IFunc} {X0 X : Ext}
theorem OP.tightRen {θ : Nat → Nat} {i : Nat} {o : LObj} (h : OP A (fun i => ρ (θ i)) ζ H f i o) : OP A ρ ζ H (tg A f) (θ i) (renO θ o) := by
 cases o with
 | rmap => trivial
 | _ => exact (h.tight (by simp)).ren
theorem PF.frame0 {fv : PV} {args : List PV} {K : PV → List LObj → Prop} (hf : noId fv = true) (ha : noIdL args = true) (h : PF F X0 X q fv args [] K) (q' : Bool) (L : List LObj) :
  PF F X0 X q' fv args L (fun v L' => ∃ v0 L0,K v0 L0 ∧ v = ren (· + L.length) v0 ∧ L' = L ++ L0.map (renO (· + L.length))) := by
 intro A ρ ζ H dv dargs gz ⟨g,hg⟩ hv hargs
 have hz0 : ζ.Le ζ := .refl _
 refine (h (H.next ≤ ·) (fun _ => none) ζ H dv dargs gz ⟨fun _ _ => 0,fun i o hi => by simp at hi,fun r => by simp [sumN],fun k z hz => ⟨(hg.frz k z hz).1,by simp [sumN]⟩,fun r _ => by simp [sumN],fun j hj => hj,fun i k hk => (by cases hk),hg.wf⟩
  (hv.noId hz0 hf) (hargs.noId hz0 ha)).mono ?_
 rintro v' H' ⟨ρ',ζ',v0,L0,c1,c2,⟨g0,hg0⟩,c4,c5,_,_,c8⟩
 have hA : ∀ j,H.next ≤ j → A j := hg.acc
 let ρ2 : Rho := fun i => if i < L.length then ρ i else ρ' (i - L.length)
 have hsh : (fun i => ρ2 (i + L.length)) = ρ' := by
  funext i
  show (if i + L.length < L.length then _ else _) = _
  rw [if_neg (by omega),Nat.add_sub_cancel]
 have hle : ρ.Le ρ2 := fun i k hk => by
  show (if i < L.length then _ else _) = _
  rw [if_pos (hg.dom i k hk)]; exact hk
 have hkp := Kp.of_only c5
 let g2 : Nat → Nat → Nat := fun i => if i < L.length then g i else tg (H.next ≤ ·) (g0 (i - L.length))
 have hlen : (L ++ L0.map (renO (· + L.length))).length = L.length + L0.length := by simp
 have hsum : ∀ r,sumN (L.length + L0.length) (fun i => g2 i r) = sumN L.length (fun i => g i r) + sumN L0.length (fun i => tg (H.next ≤ ·) (g0 i) r) := fun r => by
  rw [sumN_add]
  congr 1
  ·exact sumN_congr fun i hi => by show (if i < L.length then g i else _) r = _; rw [if_pos hi]
  ·exact sumN_congr fun i hi => by show (if L.length + i < L.length then _ else tg _ (g0 (L.length + i - L.length))) r = _; rw [if_neg (by omega),Nat.add_sub_cancel_left]
 have hlow : ∀ r,¬ H.next ≤ r → sumN L0.length (fun i => tg (H.next ≤ ·) (g0 i) r) = 0 := fun r hr => sumN_zero fun i _ => by unfold tg; rw [if_neg hr]
 have hup : ∀ r,sumN L0.length (fun i => tg (H.next ≤ ·) (g0 i) r) ≤ sumN L0.length (fun i => g0 i r) := fun r => sumN_mono fun i _ => by unfold tg; split <;> omega
 refine ⟨ρ2,ζ',ren (· + L.length) v0,_,⟨c1.le,fun k z hz => (c1.new k z hz).imp id (hA _)⟩,hle,⟨g2, ?_, ?_, ?_, ?_, ?_, ?_,hg0.wf⟩, ?_,c5.mono (fun j hj => hA j hj),fun _ => c5,by simp,v0,L0,c8,rfl,rfl⟩
 ·intro i o hi
  by_cases hlt : i < L.length
  ·rw [List.getElem?_append_left hlt] at hi
   show OP A ρ2 ζ' H' (if i < L.length then g i else _) i o
   rw [if_pos hlt]
   exact (hg.objs i o hi).kp hkp hle c1.le (fun _ h => h) (fun _ h => h.elim)
  ·rw [List.getElem?_append_right (by omega),List.getElem?_map] at hi
   cases ho : L0[i - L.length]? with
   | none => rw [ho] at hi; cases hi
   | some o0 =>
    rw [ho] at hi
    cases hi
    have h1 := hg0.objs _ _ ho
    rw [← hsh] at h1
    have h2 := h1.tightRen
    simp only [Nat.sub_add_cancel (show L.length ≤ i by omega)] at h2
    show OP A ρ2 ζ' H' (if i < L.length then g i else tg (H.next ≤ ·) (g0 (i - L.length))) i _
    rw [if_neg hlt]
    exact h2.kp (Kp.refl H' (fun _ => False)) (.refl _) (.refl _) hA (fun _ h => h.elim)
 ·intro r
  rw [hlen,hsum]
  by_cases hr : H.next ≤ r
  ·have := hg.bnd r hr; have := hup r; have := hg0.sum r; omega
  ·have := hlow r hr; have := hg.sum r; omega
 ·intro k z hz
  rw [hlen,hsum]
  obtain ⟨d1,d2⟩ := hg0.frz k z hz
  refine ⟨d1, ?_⟩
  have := hup z.r
  rcases c1.new k z hz with h1 | h1
  ·have := (hg.frz k z h1).2; omega
  ·have := hg.bnd z.r h1; omega
 ·intro r hr
  rw [hlen,hsum]
  have := c5.next
  have := hg.bnd r (by omega)
  have := hg0.bnd r hr
  have := hup r
  omega
 ·intro j hj
  exact hA j (Nat.le_trans c5.next hj)
 ·intro i k hk
  rw [hlen]
  have hk' : (if i < L.length then ρ i else ρ' (i - L.length)) = some k := hk
  split at hk'
  ·omega
  ·have := hg0.dom _ _ hk'; omega
 ·rw [← hsh] at c4
  exact c4.ren
def PP (F : FuncId → Option IFunc) (X0 X : Ext) (fv : PV) (args : List PV) (v : PV) : Prop := ∀ q L,PF F X0 X q fv args L (fun v' L' => v' = v ∧ L' = L)
theorem PP.of {fv : PV} {args : List PV} {v : PV} (hf : noId fv = true) (ha : noIdL args = true) (hv : noId v = true) (h : PF F X0 X q fv args [] (fun v' L' => v' = v ∧ L' = [])) : PP F X0 X fv args v := by
 intro q' L
 refine (PF.frame0 hf ha h q' L).mono ?_
 rintro v' L' ⟨v0,L0,⟨rfl,rfl⟩,rfl,rfl⟩
 exact ⟨ren_noId _ _ hv,by simp⟩
theorem PPc {f : FuncId} {fn : IFunc} {a c args : List PV} {v : PV} (hE : X0 f = none) (hX : X f = none) (hF : F f = some fn) (hf : noId (.fn f a c) = true) (ha : noIdL args = true) (hv : noId v = true)
  (h : PC F X0 X 0 fn.body (fun x E' L' => (x = .norm ∨ x = .ret) ∧ ∃ ps,press E' L' fn.results = some ps ∧ Vw [] L' (pone1 ps) v) (penv (funcArgs a args c)) []) : PP F X0 X (.fn f a c) args v := by
 refine PP.of hf ha hv (PF_code hE hX hF (PC.mono h ?_))
 rintro x E' L' ⟨hx,ps,hps,hw⟩
 refine ⟨hx,ps,hps,(T.leaf : PEnv).set 0 v,[],v, ?_,by simp,rfl,rfl⟩
 refine Abs.view [] List.nodup_nil (fun i h => by simp at h) (fun i h => by simp at h) rfl (Nat.le_refl _) (fun j i o h => by simp at h) (fun t p' hp => ?_)
 rw [T.get_set] at hp
 split at hp
 ·rename_i ht; cases hp; subst ht
  exact ⟨pone1 ps,by rw [T.get_set,if_pos rfl],hw⟩
 ·simp [T.get] at hp
end Go.Den
/- Pen, part J: running code on trees by simp. -/
namespace Go.Den
variable {F : FuncId → Option IFunc} {X0 X : Ext} {E E' : PEnv} {L L' : List LObj} {n0 : Nat} {Q : Ex → PEnv → List LObj → Prop}
theorem nrfl {α : Type} {a b : α} (h : a = b) : a = b := h
theorem T.get_leaf {α : Type} (k : Nat) : (T.leaf : T α).get k = none := rfl
def envOf (l : List (Nat × PV)) : PEnv := l.foldr (fun x E => E.set x.1 x.2) .leaf
theorem envOf_mem : ∀ {l : List (Nat × PV)} {t : Nat} {p : PV},(envOf l).get t = some p → (t,p) ∈ l := by
 intro l
 induction l with
 | nil => intro t p h; simp [envOf,T.get] at h
 | cons a l ih =>
  intro t p h
  simp only [envOf,List.foldr_cons] at h
  rw [T.get_set] at h
  split at h
  ·rename_i ht; cases h; subst ht; simp
  ·exact List.mem_cons_of_mem _ (ih h)
theorem Abs.viewE (τ : List Nat) (l : List (Nat × PV)) (hnd : τ.Nodup) (hlt : ∀ i ∈ τ,i < L.length) (hpin : ∀ i,i < n0 → τ[i]? = some i) (hlen : L'.length = τ.length) (hn0 : n0 ≤ τ.length)
  (hL : ∀ (j i : Nat) (o' : LObj),τ[j]? = some i → L'[j]? = some o' → ∃ o,L[i]? = some o ∧ VwO τ L o o') (hE : ∀ x ∈ l,∃ p,E.get x.1 = some p ∧ Vw τ L p x.2) : Abs n0 E L (envOf l) L' :=
 Abs.view τ hnd hlt hpin hlen hn0 hL (fun _ _ hp => hE _ (envOf_mem hp))
abbrev pin (n : Int) : PV := .v (.int .i64 n)
abbrev pbool (b : Bool) : PV := .v (.bool b)
theorem cut1 {α : Type} {l : List α} {f : α → PV} {i : Nat} (h : i < l.length) : cut (l.map f) i 1 = [f l[i]] := by
 unfold cut
 rw [← List.map_drop,← List.map_take,List.drop_eq_getElem_cons h]
 rfl
theorem cut_take {α : Type} {l : List α} {f : α → PV} {n : Nat} : cut (l.map f) 0 n = (l.take n).map f := by simp [cut,List.map_take]
theorem cut_drop {α : Type} {l : List α} {f : α → PV} {o n : Nat} (h : o + n = l.length) : cut (l.map f) o n = (l.drop o).map f := by
 unfold cut
 rw [← List.map_drop,List.take_of_length_le (by simp; omega)]
theorem cutk {α : Type} {l : List α} {enc : α → List PV} {k i : Nat} (hk : ∀ x,(enc x).length = k) (h : i < l.length) : cut (l.flatMap enc) (i * k) k = enc l[i] := by
 induction l generalizing i with
 | nil => simp at h
 | cons a l ih =>
  cases i with
  | zero => simp [cut,← hk a]
  | succ i =>
   have := ih (i := i) (by simpa using h)
   simp only [cut] at this ⊢
   rw [List.flatMap_cons,Nat.add_mul,Nat.one_mul,Nat.add_comm (i * k) k,← List.drop_drop]
   rw [show List.drop k (enc a ++ List.flatMap enc l) = List.flatMap enc l by rw [← hk a]; simp]
   simpa using this
theorem flatMap_len {α : Type} {l : List α} {enc : α → List PV} {k : Nat} (hk : ∀ x,(enc x).length = k) : (l.flatMap enc).length = l.length * k := by
 induction l with
 | nil => simp
 | cons a l ih => simp [ih,hk,Nat.add_mul,Nat.add_comm]
theorem noIdL_append {a b : List PV} : noIdL (a ++ b) = true ↔ noIdL a = true ∧ noIdL b = true := by
 simp only [nIi,List.mem_append]
 exact ⟨fun h => ⟨fun p hp => h p (.inl hp),fun p hp => h p (.inr hp)⟩,fun h p hp => hp.elim (h.1 p) (h.2 p)⟩
theorem noIdL_mapI {α : Type} {l : List α} {f : α → PV} : noIdL (l.map f) = true ↔ ∀ x ∈ l,noId (f x) = true := by
 simp [nIi]
theorem noIdL_flatMapI {α : Type} {l : List α} {f : α → List PV} : noIdL (l.flatMap f) = true ↔ ∀ x ∈ l,noIdL (f x) = true := by
 simp only [nIi,List.mem_flatMap]
 exact ⟨fun h x hx p hp => h p ⟨x,hx,hp⟩,fun h p ⟨x,hx,hp⟩ => h x hx p hp⟩
theorem noIdL_take {l : List PV} {i : Nat} (h : noIdL l = true) : noIdL (l.take i) = true := nIi.2 fun p hp => nIi.1 h p (List.mem_of_mem_take hp)
theorem noIdL_drop {l : List PV} {i : Nat} (h : noIdL l = true) : noIdL (l.drop i) = true := nIi.2 fun p hp => nIi.1 h p (List.mem_of_mem_drop hp)
theorem noIdL_set {l : List PV} {i : Nat} {p : PV} (h : noIdL l = true) (hp : noId p = true) : noIdL (l.set i p) = true := nIi.2 fun q hq => (List.mem_or_eq_of_mem_set hq).elim (nIi.1 h q) (fun e => e ▸ hp)
attribute [simp] noIdL_append noIdL_mapI noIdL_flatMapI noIdL_take noIdL_drop noIdL_set
def recs {α : Type} (t : TypeId) (enc : α → List PV) (l : List α) : PV := .fz t l.length (l.flatMap enc)
theorem noIdL_map {α : Type} {l : List α} {f : α → PV} (h : ∀ x ∈ l,noId (f x) = true) : noIdL (l.map f) = true := nIi.2 fun p hp => by
 obtain ⟨x,hx,rfl⟩ := List.mem_map.1 hp; exact h x hx
def ints (t : TypeId) (l : List Int) : PV := .fz t l.length (l.map pin)
@[simp] theorem ints_noId {t : TypeId} {l : List Int} : noId (ints t l) = true := by simp only [ints,noId]; exact noIdL_map fun _ _ => rfl
section
variable (F X0 X)
def PW (n0 : Nat) : ICode → (Ex → PEnv → List LObj → Prop) → PEnv → List LObj → Prop
 | .skip,Q,E,L => Q .norm E L
 | .ops l,Q,E,L => PO F X0 X l (Q .norm) E L
 | .draw l l',Q,E,L => PQ F X0 X l (PO F X0 X l' (Q .norm)) E L
 | .seq a b,Q,E,L => PW n0 a (pnext (PW n0 b Q) Q) E L
 | .cond c a b,Q,E,L => match pei E c with
  | some (.bool t) => (t = true → PW n0 a Q E L) ∧ (t = false → PW n0 b Q E L)
  | _ => False
 | .block id c,Q,E,L => PW n0 c (pout id Q) E L
 | .exit id,Q,E,L => Q (.exit id) E L
 | .ret,Q,E,L => Q .ret E L
 | c,Q,E,L => PC F X0 X n0 c Q E L
end
theorem PW_ok : ∀ (c : ICode) {Q : Ex → PEnv → List LObj → Prop} {E : PEnv} {L : List LObj},PW F X0 X n0 c Q E L → PC F X0 X n0 c Q E L := by
 intro c
 induction c with
 | skip => intro Q E L h; exact PC_skip h
 | ops l => intro Q E L h; exact PC_ops h
 | draw l l' => intro Q E L h; exact PC_draw h
 | seq a b iha ihb =>
  intro Q E L h
  refine PCq ((iha h).mono fun x E L h => ?_)
  cases x <;> first | exact ihb h | exact h
 | cond c a b iha ihb =>
  intro Q E L h
  simp only [PW] at h
  split at h
  ·rename_i t hc
   refine PC_cond hc ?_
   cases t
   ·rw [if_neg (by simp)]; exact ihb (h.2 rfl)
   ·rw [if_pos rfl]; exact iha (h.1 rfl)
  ·exact h.elim
 | block id c ih => intro Q E L h; exact PC_block (ih h)
 | exit id => intro Q E L h; exact PC_exit h
 | ret => intro Q E L h; exact PC_ret h
 | loop c _ => intro Q E L h; exact h
 | rangeFunc f ps a b _ _ => intro Q E L h; exact h
 | bad w => intro Q E L h; exact h
@[congr] theorem PW_congr {c : ICode} {Q : Ex → PEnv → List LObj → Prop} {E E' : PEnv} {L L' : List LObj} (h : E = E') (h' : L = L') : PW F X0 X n0 c Q E L = PW F X0 X n0 c Q E' L' := by rw [h,h']
@[congr] theorem PC_congr {c : ICode} {Q : Ex → PEnv → List LObj → Prop} {E E' : PEnv} {L L' : List LObj} (h : E = E') (h' : L = L') : PC F X0 X n0 c Q E L = PC F X0 X n0 c Q E' L' := by rw [h,h']
@[congr] theorem PO_congr {l : List Ins} {Q : PEnv → List LObj → Prop} {E E' : PEnv} {L L' : List LObj} (h : E = E') (h' : L = L') : PO F X0 X l Q E L = PO F X0 X l Q E' L' := by rw [h,h']
@[congr] theorem PQ_congr {l : List Ins} {Q : PEnv → List LObj → Prop} {E E' : PEnv} {L L' : List LObj} (h : E = E') (h' : L = L') : PQ F X0 X l Q E L = PQ F X0 X l Q E' L' := by rw [h,h']
@[congr] theorem PF_congr {q : Bool} {fv fv' : PV} {as as' : List PV} {K : PV → List LObj → Prop} {L L' : List LObj} (h0 : fv = fv') (h : as = as') (h' : L = L') : PF F X0 X q fv as L K = PF F X0 X q fv' as' L' K := by rw [h0,h,h']
@[congr] theorem PI_congr {op : IOp} {K : PV → List LObj → Prop} {E E' : PEnv} {L L' : List LObj} (h : E = E') (h' : L = L') : PI F X0 X op K E L = PI F X0 X op K E' L' := by rw [h,h']
@[congr] theorem PJ_congr {op : IOp} {K : PV → List LObj → Prop} {E E' : PEnv} {L L' : List LObj} (h : E = E') (h' : L = L') : PJ F X0 X op K E L = PJ F X0 X op K E' L' := by rw [h,h']
@[congr] theorem pnext_congr {k : PEnv → List LObj → Prop} {Q : Ex → PEnv → List LObj → Prop} {x x' : Ex} {E E' : PEnv} {L L' : List LObj} (hx : x = x') (h : E = E') (h' : L = L') : pnext k Q x E L = pnext k Q x' E' L' := by rw [hx,h,h']
@[congr] theorem pout_congr {id : Nat} {Q : Ex → PEnv → List LObj → Prop} {x x' : Ex} {E E' : PEnv} {L L' : List LObj} (hx : x = x') (h : E = E') (h' : L = L') : pout id Q x E L = pout id Q x' E' L' := by rw [hx,h,h']
theorem PC_loop0 {c : ICode} (J : Nat → PEnv → List LObj → Prop) (round : ∀ k E L,J k E L → PW F X0 X n0 c (pnext (fun E' L' => ∃ k',k' < k ∧ J k' E' L') Q) E L) {k : Nat} (h : J k E L) : PC F X0 X n0 (.loop c) Q E L :=
 PC_loop J (fun k E L hj => (PW_ok _ (round k E L hj)).mono fun x E' L' h => by
  cases x <;> first | exact h | (obtain ⟨k',a,b⟩ := h; exact ⟨k',E',L',a,Abs.refl _ _ _,b⟩)) h
theorem PP.run {fv : PV} {args : List PV} {v : PV} (h : PP F X0 X fv args v) {q : Bool} {L : List LObj} {K : PV → List LObj → Prop} (hk : K v L) : PF F X0 X q fv args L K := (h q L).mono fun _ _ h => by rw [h.1,h.2]; exact hk
theorem Vw.decT {τ : List Nat} {p : Prop} [Decidable p] (h : p) : Vw τ L (.v (.bool true)) (.v (.bool (decide p))) := by rw [decide_eq_true h]; exact .same rfl
theorem Vw.decF {τ : List Nat} {p : Prop} [Decidable p] (h : ¬ p) : Vw τ L (.v (.bool false)) (.v (.bool (decide p))) := by rw [decide_eq_false h]; exact .same rfl
theorem Vw.frz {i n c : Nat} {t : TypeId} {cs : List PV} {p' : PV} (h : prow L i = some (t,cs)) (hn : allNl cs) (hid : noIdL cs = true) (e : p' = .fz t n cs) : Vw [] L (.slc i 0 n c) p' := by
 subst e
 exact .fzs (cs'' := cs) (by simp) h hn (Nat.zero_le _) (by simp) rfl (fun i a b => .same (nIg hid i a))
theorem Vw.eq {τ : List Nat} {p p' : PV} (h : p = p') (hn : noId p = true) : Vw τ L p p' := h ▸ .same hn
theorem nl_v {x : Value} : nl (.v x) = true := rfl
theorem allNl_nil : allNl [] := rfl
theorem allNl_cons {a : PV} {l : List PV} : allNl (a :: l) ↔ nl a = true ∧ allNl l := by simp [allNl]
theorem allNl_append {a b : List PV} : allNl (a ++ b) ↔ allNl a ∧ allNl b := by simp [allNl]
theorem allNl_map {α : Type} {l : List α} {f : α → PV} : allNl (l.map f) ↔ ∀ x ∈ l,nl (f x) = true := by simp [allNl]
theorem allNl_flatMap {α : Type} {l : List α} {f : α → List PV} : allNl (l.flatMap f) ↔ ∀ x ∈ l,allNl (f x) := by
 simp only [allNl,List.all_eq_true,List.mem_flatMap]
 exact ⟨fun h x hx p hp => h p ⟨x,hx,hp⟩,fun h p ⟨x,hx,hp⟩ => h x hx p hp⟩
theorem allNl_take {l : List PV} {i : Nat} (h : allNl l) : allNl (l.take i) := by
 simp only [allNl,List.all_eq_true] at h ⊢; exact fun p hp => h p (List.mem_of_mem_take hp)
theorem allNl_drop {l : List PV} {i : Nat} (h : allNl l) : allNl (l.drop i) := by
 simp only [allNl,List.all_eq_true] at h ⊢; exact fun p hp => h p (List.mem_of_mem_drop hp)
theorem allNl_cut {l : List PV} {i n : Nat} (h : allNl l) : allNl (cut l i n) := allNl_take (allNl_drop h)
theorem allNl_set {l : List PV} {i : Nat} {p : PV} (h : allNl l) (hp : nl p = true) : allNl (l.set i p) := by
 simp only [allNl,List.all_eq_true] at h ⊢
 intro q hq
 rcases List.mem_or_eq_of_mem_set hq with h1 | h1
 ·exact h q h1
 ·rw [h1]; exact hp
theorem allOne_nil : allOne [] := rfl
theorem allOne_cons {a : PV} {l : List PV} : allOne (a :: l) ↔ pone a = true ∧ allOne l := by simp [allOne]
theorem allOne_map {α : Type} {l : List α} {f : α → PV} : allOne (l.map f) ↔ ∀ x ∈ l,pone (f x) = true := by simp [allOne]
theorem allOne_take {l : List PV} {i : Nat} (h : allOne l) : allOne (l.take i) := by
 simp only [allOne,List.all_eq_true] at h ⊢; exact fun p hp => h p (List.mem_of_mem_take hp)
theorem allOne_drop {l : List PV} {i : Nat} (h : allOne l) : allOne (l.drop i) := by
 simp only [allOne,List.all_eq_true] at h ⊢; exact fun p hp => h p (List.mem_of_mem_drop hp)
theorem psplice_one {l : List PV} {i : Nat} {p : PV} (h : i < l.length) : psl l i [p] = l.set i p := by
 unfold psl
 rw [List.set_eq_take_append_cons_drop,if_pos h]
 simp
theorem psplice_full {l vs : List PV} (h : vs.length = l.length) : psl l 0 vs = vs := by simp [psl,h]
theorem cut_zero {l : List PV} {o : Nat} : cut l o 0 = [] := by simp [cut]
theorem cut_all {l : List PV} {n : Nat} (h : n = l.length) : cut l 0 n = l := by subst h; simp [cut]
theorem cut_len {l : List PV} {o n : Nat} (h : o + n ≤ l.length) : (cut l o n).length = n := by simp [cut]; omega
attribute [simp] nl_v allNl_nil allNl_cons allNl_append allNl_map allNl_flatMap allNl_take allNl_drop allNl_cut allNl_set allOne_nil allOne_cons allOne_map allOne_take allOne_drop psplice_one psplice_full cut_zero cut_all cut_len
section
variable {x : Value} {i o n c k : Nat} {a b : List PV} {t : TypeId} {p : PV}
theorem pone_v : pone (.v x) = true := rfl
theorem pone_ptr : pone (.ptr i o) = true := rfl
theorem pone_slc : pone (.slc i o n c) = true := rfl
theorem pone_mapr : pone (.mapr i) = true := rfl
theorem pone_fn : pone (.fn i a b) = true := rfl
theorem pone_ifc : pone (.ifc t p) = true := rfl
theorem pone_fz : pone (.fz t n a) = true := rfl
theorem pone_fp : pone (.fp a) = true := rfl
theorem nl_ptr : nl (.ptr i o) = true := rfl
theorem nl_slc : nl (.slc i o n c) = true := rfl
theorem nl_mapr : nl (.mapr i) = true := rfl
theorem nl_fn : nl (.fn i a b) = true := rfl
theorem nl_ifc : nl (.ifc t p) = nl p := rfl
theorem nl_fz : nl (.fz t n a) = true := rfl
theorem nl_fp : nl (.fp a) = true := rfl
theorem nl_agg : nl (.agg a) = true := rfl
theorem nl_ow : nl (.ow t n c a) = false := rfl
theorem nl_bx : nl (.bx t a) = false := rfl
end
attribute [simp] pone_v pone_ptr pone_slc pone_mapr pone_fn pone_ifc pone_fz pone_fp nl_ptr nl_slc nl_mapr nl_fn nl_ifc nl_fz nl_fp nl_agg nl_ow nl_bx
section
variable {E : PEnv} {L : List LObj}
theorem pev_mov {x : Arg} : pev E L (.mov x) = (match pea E x with | some p => some (p,L,true) | none => none) := nrfl rfl
theorem pev_pick {c : Arg} {a : Arg} {b : Arg} : pev E L (.pick c a b) = (match pei E c with
  | some (.bool t) => match (bif t then pea E a else pea E b) with | some p => some (p,L,true) | none => none
  | _ => none) := nrfl rfl
theorem pev_box {t : TypeId} {x : Arg} : pev E L (.box t x) = (match pea E x with | some p => some (.ptr L.length 0,L ++ [.row t (pcells p)],true) | none => none) := nrfl rfl
theorem pev_build {zero : List Value} {ps : List (Nat × Nat × Arg)} : pev E L (.build zero ps) = (match peap E ps with
  | some ps => if zero.all one = true then match pfill (zero.map .v) ps with | some cs => some (.agg cs,L,true) | none => none else none
  | none => none) := nrfl rfl
theorem pev_buildSlice {t : TypeId} {len : Nat} {zero : List Value} {ps : List (Nat × Nat × Arg)} : pev E L (.buildSlice t len zero ps) = (match peap E ps with
  | some ps => if zero.all one = true then match pfill (zero.map .v) ps with | some cs => some (.slc L.length 0 len len,L ++ [.row t cs],true) | none => none else none
  | none => none) := nrfl rfl
theorem pev_load {agg : Option Nat} {a : Arg} : pev E L (.load agg a) = (match pea E a with | some p => pload L agg p | none => none) := nrfl rfl
theorem pev_store {n : Nat} {a : Arg} {v : Arg} : pev E L (.store n a v) = (match pea E a,pea E v with
  | some (.ptr i o),some p => match prow L i with
   | some (t,cs) => if (pcells p).length = n ∧ o + n ≤ cs.length ∧ allOne (pcells p) then some (.tup [],L.set i (.row t (psl cs o (pcells p))),false) else none
   | none => none
  | _,_ => none) := nrfl rfl
theorem pev_nilCheck {x : Arg} : pev E L (.nilCheck x) = (match pea E x with
  | some (.ptr i o) => some (.ptr i o,L,true)
  | some (.fp cs) => some (.fp cs,L,true)
  | some (.fn f a c) => some (.fn f a c,L,true)
  | _ => none) := nrfl rfl
theorem pev_arith {op : BinOp} {x : Arg} {y : Arg} : pev E L (.arith op x y) = (match pei E x,pei E y with
  | some a,some b => match arithV op a b with | some r => if one r = true then some (.v r,L,true) else none | none => none
  | _,_ => none) := nrfl rfl
theorem pev_eqBool {neg : Bool} {x : Arg} {y : Arg} : pev E L (.eqBool neg x y) = (match pei E x,pei E y with
  | some (.bool a),some (.bool b) => some (.v (.bool ((a == b) != neg)),L,true)
  | _,_ => none) := nrfl rfl
theorem pev_eqNil {k : NilK} {neg : Bool} {x : Arg} {y : Arg} : pev E L (.eqNil k neg x y) = (match pea E x,pea E y with
  | some a,some b => match peqNil k a b with
   | some r => some (.v (.bool (r != neg)),L,true)
   | none => none
  | _,_ => none) := nrfl rfl
theorem pev_un {op : UnOp} {x : Arg} : pev E L (.un op x) = (match pei E x with
  | some a => match unV op a with | some r => if one r = true then some (.v r,L,true) else none | none => none
  | none => none) := nrfl rfl
theorem pev_toInt {k : IntKind} {x : Arg} : pev E L (.toInt k x) = (match pei E x with
  | some (.int _ n) => some (.v (.int k (k.wrap n)),L,true)
  | _ => none) := nrfl rfl
theorem pev_func {f : FuncId} {first : List Arg} {captured : List Arg} : pev E L (.func f first captured) = (match peas E first,peas E captured with
  | some a,some b => some (.fn f a b,L,true)
  | _,_ => none) := nrfl rfl
theorem pev_makeSlice {t : TypeId} {bytes : Nat} {zero : List Value} {l : Arg} {c : Arg} : pev E L (.makeSlice t bytes zero l c) = (match pei E l,pei E c with
  | some (.int _ l),some (.int _ c) => if (0 ≤ l ∧ l ≤ c ∧ c ≤ 9223372036854775807 ∧ (bytes : Int) * c ≤ 281474976710656) ∧ zero.all one = true then
    some (.slc L.length 0 l.toNat c.toNat,L ++ [.row t ((repl zero c.toNat).map .v)],true) else none
  | _,_ => none) := nrfl rfl
theorem pev_makeMap  : pev E L (.makeMap) = (some (.mapr L.length,L ++ [.map [] 0],true)) := nrfl rfl
theorem pev_slice {t : TypeId} {size : Nat} {x : Arg} {lo : Option Arg} {hi : Option Arg} {mx : Option Arg} : pev E L (.slice t size x lo hi mx) = (match peo E lo,peo E hi,peo E mx with
  | some lo,some hi,some mx => match pea E x with
   | some (.slc i o len cap) => match boundsV len cap lo hi mx with
    | some (l,h,m) => if l = 0 ∨ (prow L i).map (·.1) = some t then some (.slc i (o + l * size) (h - l) (m - l),L,true) else none
    | none => none
   | some (.fz t' n cs) => match mx with
    | none => match boundsV n n lo hi none with
     | some (l,h,_) => if t' = t ∧ h * size ≤ cs.length then some (.fz t' (h - l) (cut cs (l * size) ((h - l) * size)),L,true) else none
     | none => none
    | some _ => none
   | some (.v (.slice none len cap)) => match boundsV len cap lo hi mx with
    | some (l,h,m) => some (.v (.slice none (h - l) (m - l)),L,true)
    | none => none
   | _ => none
  | _,_,_ => none) := nrfl rfl
theorem pev_sliceStr {x : Arg} {lo : Option Arg} {hi : Option Arg} : pev E L (.sliceStr x lo hi) = (match pei E x,peo E lo,peo E hi with
  | some (.string s),some lo,some hi => match boundsV s.size s.size lo hi none with
   | some (l,h,_) => some (.v (.string (s.extract l h)),L,true)
   | none => none
  | _,_,_ => none) := nrfl rfl
theorem pev_fieldAddr {off : Nat} {x : Arg} : pev E L (.fieldAddr off x) = (match pea E x with
  | some (.ptr i o) => some (.ptr i (o + off),L,true)
  | some (.fp cs) => if off ≤ cs.length then some (.fp (cs.drop off),L,true) else none
  | _ => none) := nrfl rfl
theorem pev_field {off : Nat} {agg : Option Nat} {x : Arg} : pev E L (.field off agg x) = (match pea E x with
  | some (.agg cs) => aggOf' cs off agg L
  | _ => none) := nrfl rfl
theorem pev_indexAddr {size : Nat} {x : Arg} {i : Arg} : pev E L (.indexAddr size x i) = (match pea E x,pei E i with
  | some (.slc j o len _),some (.int _ n) => if 0 ≤ n ∧ n < (len : Int) then some (.ptr j (o + n.toNat * size),L,true) else none
  | some (.fz _ len cs),some (.int _ n) => if 0 ≤ n ∧ n < (len : Int) ∧ (cut cs (n.toNat * size) size).length = size then some (.fp (cut cs (n.toNat * size) size),L,true) else none
  | _,_ => none) := nrfl rfl
theorem pev_indexAddrArr {len : Nat} {size : Nat} {x : Arg} {i : Arg} : pev E L (.indexAddrArr len size x i) = (match pea E x,pei E i with
  | some (.ptr j o),some (.int _ n) => if 0 ≤ n ∧ n < (len : Int) then some (.ptr j (o + n.toNat * size),L,true) else none
  | some (.fp cs),some (.int _ n) => if 0 ≤ n ∧ n < (len : Int) ∧ n.toNat * size ≤ cs.length then some (.fp (cs.drop (n.toNat * size)),L,true) else none
  | some (.v (.pointer (some a))),some (.int _ n) => match glZ a.block with
   | some z => if a.off = 0 ∧ a.spot = none ∧ 0 ≤ n ∧ n < (len : Int) ∧ n.toNat * size ≤ z.cs.length then some (.fp ((z.cs.drop (n.toNat * size)).map .v),L,true) else none
   | none => none
  | _,_ => none) := nrfl rfl
theorem pev_indexStr {x : Arg} {i : Arg} : pev E L (.indexStr x i) = (match pei E x,pei E i with
  | some (.string s),some (.int _ n) => if 0 ≤ n then (match s[n.toNat]? with | some b => some (.v (.int .u8 b.toNat),L,true) | none => none) else none
  | _,_ => none) := nrfl rfl
theorem pev_indexArr {len : Nat} {size : Nat} {agg : Option Nat} {x : Arg} {i : Arg} : pev E L (.indexArr len size agg x i) = (match pea E x,pei E i with
  | some (.agg cs),some (.int _ n) => if 0 ≤ n ∧ n < (len : Int) then aggOf' cs (n.toNat * size) agg L else none
  | _,_ => none) := nrfl rfl
theorem pev_extract {x : Arg} {i : Nat} : pev E L (.extract x i) = (match pea E x with
  | some (.tup cs) => match cs[i]? with | some q => some (q,L,true) | none => none
  | _ => none) := nrfl rfl
theorem pev_lookup {kk : KeyK} {zero : Value} {ok : Bool} {m : Arg} {k : Arg} : pev E L (.lookup kk zero ok m k) = (match pea E m,pei E k,ofV zero with
  | some m,some k,some z => match pmap L m with
   | some (es,_) => if keyOk kk k = true then
     match pfind kk k es 0 with
     | some (some (_,q)) => if nl q = true then some (bif ok then .tup [q,.v (.bool true)] else q,L,true) else none
     | some none => some (bif ok then .tup [z,.v (.bool false)] else z,L,true)
     | none => none
    else none
   | none => none
  | _,_,_ => none) := nrfl rfl
theorem pev_mapUpdate {kk : KeyK} {m : Arg} {k : Arg} {v : Arg} : pev E L (.mapUpdate kk m k v) = (match pea E m,pei E k,pea E v with
  | some (.mapr i),some k,some p => match L[i]? with
   | some (.map es c) => if keyOk kk k = true then
     match pfind kk k es 0 with
     | some (some (j,_)) => some (.tup [],L.set i (.map (es.modify j fun e => (k,p,e.2.2)) c),false)
     | some none => some (.tup [],L.set i (.map (es ++ [(k,p,c)]) (c + 1)),false)
     | none => none
    else none
   | _ => none
  | _,_,_ => none) := nrfl rfl
theorem pev_lenStr {x : Arg} : pev E L (.lenStr x) = (match pei E x with
  | some (.string s) => some (.v (mkInt s.size),L,true)
  | _ => none) := nrfl rfl
theorem pev_ofBytes {x : Arg} : pev E L (.ofBytes x) = (match pea E x with
  | some (.slc i o n c) => match psrc L 1 (.slc i o n c) with
   | some (cs,_) => match pbytes cs with
    | some bs => some (.v (.string ⟨bs.toArray⟩),L,true)
    | none => none
   | none => none
  | _ => none) := nrfl rfl
theorem pev_lenSl {x : Arg} : pev E L (.lenSl x) = (match pea E x with
  | some (.slc _ _ n _) => some (.v (mkInt n),L,true)
  | some (.fz _ n _) => some (.v (mkInt n),L,true)
  | some (.v (.slice none n _)) => some (.v (mkInt n),L,true)
  | _ => none) := nrfl rfl
theorem pev_append {t : TypeId} {size : Nat} {bytes : Nat} {s : Arg} {x : Arg} : pev E L (.append t size bytes s x) = (match pea E s,pea E x with
  | some s,some x => pappend L t size bytes s x
  | _,_ => none) := nrfl rfl
theorem pev_rangeStr {x : Arg} : pev E L (.rangeStr x) = (match pei E x with
  | some (.string s) => some (.ptr L.length 0,L ++ [.iter s 0],true)
  | _ => none) := nrfl rfl
theorem pev_nextStr {x : Arg} : pev E L (.nextStr x) = (match pea E x with
  | some (.ptr i 0) => match L[i]? with
   | some (.iter s pos) => if pos + 1 ≤ s.size then some (.tup [.v (.bool true),.v (mkInt pos),.v (.int .i32 (Utf8.decode s pos).1)],L.set i (.iter s (pos + (Utf8.decode s pos).2)),false)
    else some (.tup [.v (.bool false)],L,true)
   | _ => none
  | _ => none) := nrfl rfl
attribute [simp] pev_rangeStr pev_nextStr
theorem pea_tmp {n : Nat} : pea E (.tmp n) = (E.get n) := nrfl rfl
theorem pea_val {x : Value} : pea E (.val x) = (ofV x) := nrfl rfl
theorem pei_def {a : Arg} : pei E a = (match pea E a with | some (.v x) => some x | _ => none) := nrfl rfl
theorem peas_nil  : peas E [] = (some []) := nrfl rfl
theorem peas_cons {a : Arg} {as : List Arg} : peas E (a :: as) = (match pea E a,peas E as with | some p,some ps => some (p :: ps) | _,_ => none) := nrfl rfl
theorem peap_nil  : peap E [] = (some []) := nrfl rfl
theorem peap_cons {o n : Nat} {a : Arg} {as : List (Nat × Nat × Arg)} : peap E ((o,n,a) :: as) = (match pea E a,peap E as with | some p,some ps => some ((o,n,p) :: ps) | _,_ => none) := nrfl rfl
theorem peo_none  : peo E none = (some none) := nrfl rfl
theorem peo_some {a : Arg} : peo E (some a) = (match pei E a with | some x => some (some x) | none => none) := nrfl rfl
theorem pfill_nil {cs : List PV} : pfill cs [] = (some cs) := nrfl rfl
theorem pfill_cons {cs : List PV} {o n : Nat} {p : PV} {rest : List (Nat × Nat × PV)} : pfill cs ((o,n,p) :: rest) = (if (pcells p).length = n ∧ o + n ≤ cs.length then pfill (psl cs o (pcells p)) rest else none) := nrfl rfl
theorem psetD_some {n : Nat} {p : PV} : psetD E (some n) p = (E.set n p) := nrfl rfl
theorem psetD_none {p : PV} : psetD E none p = (E) := nrfl rfl
theorem pcells_v {x : Value} : pcells (.v x) = ([.v x]) := nrfl rfl
theorem pcells_ptr {i o : Nat} : pcells (.ptr i o) = ([.ptr i o]) := nrfl rfl
theorem pcells_slc {i o n c : Nat} : pcells (.slc i o n c) = ([.slc i o n c]) := nrfl rfl
theorem pcells_fz {t : TypeId} {n : Nat} {cs : List PV} : pcells (.fz t n cs) = ([.fz t n cs]) := nrfl rfl
theorem pcells_agg {cs : List PV} : pcells (.agg cs) = (cs) := nrfl rfl
theorem prow_def {i : Nat} : prow L i = (match L[i]? with | some (.row t cs) => some (t,cs) | _ => none) := nrfl rfl
theorem pload_e0 {agg : Option Nat} {i : Nat} {o : Nat} : pload L agg (.ptr i o) = (match prow L i with
  | some (t,cs) => match agg with
   | none => match cs[o]? with
    | some q => if nl q = true then some (q,L,true) else match unp q L.length with
     | some (q',ob) => some (q',L.set i (.row t (psl cs o [q'])) ++ [ob],true)
     | none => none
    | none => none
   | some n => if o + n ≤ cs.length ∧ allNl (cut cs o n) then some (.agg (cut cs o n),L,true) else none
  | none => none) := nrfl rfl
theorem pload_e1 {agg : Option Nat} {cs : List PV} : pload L agg (.fp cs) = (match agg with
  | none => match cs with | q :: _ => some (q,L,true) | [] => none
  | some n => if 0 < n ∧ n ≤ cs.length then some (.agg (cs.take n),L,true) else none) := nrfl rfl
theorem psrc_e1 {size : Nat} {i : Nat} {o : Nat} {n : Nat} {y0 : Nat} : psrc L size (.slc i o n y0) = (match prow L i with
  | some (_,cs) => if o + n * size ≤ cs.length ∧ allNl (cut cs o (n * size)) then some (cut cs o (n * size),n) else none
  | none => none) := nrfl rfl
theorem psrc_e2 {size : Nat} {y0 : Nat} {n : Nat} {cs : List PV} : psrc L size (.fz y0 n cs) = (if cs.length = n * size then some (cs,n) else none) := nrfl rfl
theorem psrc_e3 {size : Nat} {s : ByteArray} : psrc L size (.v (.string s)) = (if size = 1 then some (s.data.toList.map fun b => .v (.int .u8 b.toNat),s.size) else none) := nrfl rfl
theorem pmap_e0  {i : Nat} : pmap L (.mapr i) = (match L[i]? with
  | some (.map es c) => some (es,c)
  | some (.rmap es c) => some (es,c)
  | _ => none) := nrfl rfl
theorem bxT_def {t : TypeId} : bxT t = (t == 141) := nrfl rfl
theorem pappend_def {t : TypeId} {size bytes : Nat} {s x : PV} : pappend L t size bytes s x = (if bxT t = true then none else match psrc L size x with
 | none => none
 | some (new,m) => match s with
  | .v (.slice none len cap) => if len = 0 ∧ cap = 0 ∧ 1 ≤ size ∧ roomy m bytes ∧ allOne new then some (.slc L.length 0 m m,L ++ [.row t new],true) else none
  | .fz t' n cs => if m = 0 then some (.fz t' n cs,L,true) else none
  | .slc i o len cap => match prow L i with
   | some (t',cs) => if allOne new ∧ o = 0 ∧ len = cap ∧ t' = t ∧ cs.length = len * size ∧ 1 ≤ size ∧ roomy (len + m) bytes then
     some (.slc L.length 0 (len + m) (len + m),L.set i .dead ++ [.row t (cs ++ new)],true)
    else if m = 0 then some (.slc i o len cap,L,true)
    else if allOne new then
     if len + m ≤ cap then (if o + len * size + new.length ≤ cs.length then some (.slc i o (len + m) cap,L.set i (.row t' (psl cs (o + len * size) new)),false) else none)
     else if t' = t ∧ roomy (len + m) bytes ∧ o + len * size ≤ cs.length ∧ 1 ≤ size then
      some (.slc L.length 0 (len + m) (len + m),L.set i .dead ++ [.row t (cut cs o (len * size) ++ new)],decide (o + len * size = cs.length ∧ len = cap)) else none
    else none
   | none => none
  | _ => none) := nrfl rfl
theorem aggOf_def {cs : List PV} {o : Nat} {agg : Option Nat} : aggOf' cs o agg L = (match agg with
 | none => match cs[o]? with | some q => some (q,L,true) | none => none
 | some n => some (.agg (cut cs o n),L,true)) := nrfl rfl
theorem pfind_nil {kk : KeyK} {k : Value} {i : Nat} : pfind kk k [] i = (some none) := nrfl rfl
theorem pfind_cons {kk : KeyK} {k : Value} {i : Nat} {e : Value × PV × Nat} {es : List (Value × PV × Nat)} : pfind kk k (e :: es) i = (match keyEq kk k e.1 with | some true => some (some (i,e.2.1)) | some false => pfind kk k es (i + 1) | none => none) := nrfl rfl
attribute [simp] bxT_def pev_ofBytes pev_mov pev_pick pev_box pev_build pev_buildSlice pev_load pev_store pev_nilCheck pev_arith pev_eqBool pev_eqNil pev_un pev_toInt pev_func pev_makeSlice pev_makeMap pev_slice pev_sliceStr pev_fieldAddr pev_field pev_indexAddr pev_indexAddrArr pev_indexStr pev_indexArr pev_extract pev_lookup pev_mapUpdate pev_lenStr pev_lenSl pev_append pea_tmp pea_val pei_def peas_nil peas_cons peap_nil peap_cons peo_none peo_some pfill_nil pfill_cons psetD_some psetD_none pcells_v pcells_ptr pcells_slc pcells_fz pcells_agg prow_def pload_e0 pload_e1 psrc_e1 psrc_e2 psrc_e3 pmap_e0 pappend_def aggOf_def pfind_nil pfind_cons
end
attribute [simp] pwanted ofV press pres pone1 ploadv penv funcArgs noId noIdL one peqNil unp
theorem int_beq (a b : Int) : (a == b) = decide (a = b) := by by_cases h : a = b <;> simp [h]
theorem int_bne (a b : Int) : (a != b) = !decide (a = b) := by by_cases h : a = b <;> simp [h]
section
variable {k : PEnv → List LObj → Prop} {R : PEnv → List LObj → Prop} {id j : Nat} {l l' : List Ins} {a b : ICode} {c : Arg} {p : PV} {q : Bool} {f : Arg} {as : List Arg} {ps : List Nat} {d : Option Nat} {g : Option (Nat × Bool)} {op : IOp}
section
variable (F X0 X)
def PIk (op : IOp) (l : List Ins) (R : PEnv → List LObj → Prop) (d : Option Nat) (E : PEnv) (L : List LObj) : Prop := PI F X0 X op (fun p L' => PO F X0 X l R (psetD E d p) L') E L
def PJk (op : IOp) (l : List Ins) (R : PEnv → List LObj → Prop) (d : Option Nat) (E : PEnv) (L : List LObj) : Prop := PJ F X0 X op (fun p L' => PQ F X0 X l R (psetD E d p) L') E L
def PFk (fv : PV) (args : List PV) (l : List Ins) (R : PEnv → List LObj → Prop) (d : Option Nat) (E : PEnv) (L : List LObj) : Prop := PF F X0 X false fv args L (fun p L' => PO F X0 X l R (psetD E d p) L')
def PGk (fv : PV) (args : List PV) (l : List Ins) (R : PEnv → List LObj → Prop) (d : Option Nat) (E : PEnv) (L : List LObj) : Prop := PF F X0 X true fv args L (fun p L' => PQ F X0 X l R (psetD E d p) L')
def pKk (l : List Ins) (R : PEnv → List LObj → Prop) (d : Option Nat) (E : PEnv) : PRes → Prop
 | some (p,L',_) => PO F X0 X l R (psetD E d p) L'
 | none => False
def pKj (l : List Ins) (R : PEnv → List LObj → Prop) (d : Option Nat) (E : PEnv) : PRes → Prop
 | some (p,L',true) => PQ F X0 X l R (psetD E d p) L'
 | _ => False
def pCk (l : List Ins) (R : PEnv → List LObj → Prop) (d : Option Nat) (E : PEnv) (L : List LObj) : Option PV → Option (List PV) → Prop
 | some fv,some args => PFk F X0 X fv args l R d E L
 | _,_ => False
def pCj (l : List Ins) (R : PEnv → List LObj → Prop) (d : Option Nat) (E : PEnv) (L : List LObj) : Option PV → Option (List PV) → Prop
 | some fv,some args => PGk F X0 X fv args l R d E L
 | _,_ => False
def pNk (l : List Ins) (R : PEnv → List LObj → Prop) (d : Option Nat) (E : PEnv) (L : List LObj) (r : PRes) (x y : Option PV) : Prop := pnilK (fun p L' => PO F X0 X l R (psetD E d p) L') L r x y
def pcondK (n0 : Nat) (a b : ICode) (Q : Ex → PEnv → List LObj → Prop) (E : PEnv) (L : List LObj) : Option Value → Prop
 | some (.bool t) => (t = true → PW F X0 X n0 a Q E L) ∧ (t = false → PW F X0 X n0 b Q E L)
 | _ => False
end
theorem PW_skip : PW F X0 X n0 .skip Q E L = Q .norm E L := nrfl rfl
theorem PW_ops : PW F X0 X n0 (.ops l) Q E L = PO F X0 X l (Q .norm) E L := nrfl rfl
theorem PW_draw : PW F X0 X n0 (.draw l l') Q E L = PQ F X0 X l (PO F X0 X l' (Q .norm)) E L := nrfl rfl
theorem PW_seq : PW F X0 X n0 (.seq a b) Q E L = PW F X0 X n0 a (pnext (PW F X0 X n0 b Q) Q) E L := nrfl rfl
theorem PW_cond : PW F X0 X n0 (.cond c a b) Q E L = pcondK F X0 X n0 a b Q E L (pei E c) := by
 simp only [PW,pcondK]
theorem pcondK_bool {t : Bool} : pcondK F X0 X n0 a b Q E L (some (.bool t)) = ((t = true → PW F X0 X n0 a Q E L) ∧ (t = false → PW F X0 X n0 b Q E L)) := nrfl rfl
theorem PW_block : PW F X0 X n0 (.block id a) Q E L = PW F X0 X n0 a (pout id Q) E L := nrfl rfl
theorem PW_exit : PW F X0 X n0 (.exit id) Q E L = Q (.exit id) E L := nrfl rfl
theorem PW_ret : PW F X0 X n0 .ret Q E L = Q .ret E L := nrfl rfl
theorem PW_loop : PW F X0 X n0 (.loop a) Q E L = PC F X0 X n0 (.loop a) Q E L := nrfl rfl
theorem PW_range : PW F X0 X n0 (.rangeFunc f ps a b) Q E L = PC F X0 X n0 (.rangeFunc f ps a b) Q E L := nrfl rfl
theorem PO_nil : PO F X0 X [] R E L = R E L := nrfl rfl
theorem PO_cons : PO F X0 X (⟨d,g,op⟩ :: l) R E L = if pwanted E g = some true then PIk F X0 X op l R d E L else if pwanted E g = some false then PO F X0 X l R (psetD E d (.tup [])) L else False := nrfl rfl
theorem PQ_nil : PQ F X0 X [] R E L = R E L := nrfl rfl
theorem PQ_cons : PQ F X0 X (⟨d,g,op⟩ :: l) R E L = if pwanted E g = some true then PJk F X0 X op l R d E L else if pwanted E g = some false then PQ F X0 X l R (psetD E d (.tup [])) L else False := nrfl rfl
theorem PIk_call : PIk F X0 X (.call f as) l R d E L = pCk F X0 X l R d E L (pea E f) (peas E as) := by
 unfold PIk pCk PI PFk
 simp only
 split
 ·rename_i h1 h2; rw [h1,h2]; simp
 ·rename_i h1
  refine eq_false ?_
  rintro ⟨fv,h2,args,h3,_⟩
  exact h1 fv args h2 h3
theorem PJk_call : PJk F X0 X (.call f as) l R d E L = pCj F X0 X l R d E L (pea E f) (peas E as) := by
 unfold PJk pCj PJ PGk
 simp only
 split
 ·rename_i h1 h2; rw [h1,h2]; simp
 ·rename_i h1
  refine eq_false ?_
  rintro ⟨fv,h2,args,h3,_⟩
  exact h1 fv args h2 h3
theorem pCk_some {fv : PV} {args : List PV} : pCk F X0 X l R d E L (some fv) (some args) = PFk F X0 X fv args l R d E L := nrfl rfl
theorem pCj_some {fv : PV} {args : List PV} : pCj F X0 X l R d E L (some fv) (some args) = PGk F X0 X fv args l R d E L := nrfl rfl
theorem pKk_some : pKk F X0 X l R d E (some (p,L',q)) = PO F X0 X l R (psetD E d p) L' := nrfl rfl
theorem pKj_some : pKj F X0 X l R d E (some (p,L',true)) = PQ F X0 X l R (psetD E d p) L' := nrfl rfl
theorem pnext_norm : pnext k Q .norm E L = k E L := nrfl rfl
theorem pnext_exit : pnext k Q (.exit id) E L = Q (.exit id) E L := nrfl rfl
theorem pnext_ret : pnext k Q .ret E L = Q .ret E L := nrfl rfl
theorem pout_norm : pout id Q .norm E L = Q .norm E L := nrfl rfl
theorem pout_exit : pout id Q (.exit j) E L = if j = id then Q .norm E L else Q (.exit j) E L := nrfl rfl
theorem pout_ret : pout id Q .ret E L = Q .ret E L := nrfl rfl
theorem PP.runk {fv : PV} {args : List PV} {v : PV} (h : PP F X0 X fv args v) (hk : PO F X0 X l R (psetD E d v) L) : PFk F X0 X fv args l R d E L := h.run hk
theorem PP.runj {fv : PV} {args : List PV} {v : PV} (h : PP F X0 X fv args v) (hk : PQ F X0 X l R (psetD E d v) L) : PGk F X0 X fv args l R d E L := h.run hk
theorem PIk_mov {x0 : Arg} : PIk F X0 X (.mov x0) l R d E L = pKk F X0 X l R d E (pev E L (.mov x0)) := nrfl rfl
theorem PJk_mov {x0 : Arg} : PJk F X0 X (.mov x0) l R d E L = pKj F X0 X l R d E (pev E L (.mov x0)) := nrfl rfl
theorem PIk_pick {x0 : Arg} {x1 : Arg} {x2 : Arg} : PIk F X0 X (.pick x0 x1 x2) l R d E L = pKk F X0 X l R d E (pev E L (.pick x0 x1 x2)) := nrfl rfl
theorem PJk_pick {x0 : Arg} {x1 : Arg} {x2 : Arg} : PJk F X0 X (.pick x0 x1 x2) l R d E L = pKj F X0 X l R d E (pev E L (.pick x0 x1 x2)) := nrfl rfl
theorem PIk_box {x0 : TypeId} {x1 : Arg} : PIk F X0 X (.box x0 x1) l R d E L = pKk F X0 X l R d E (pev E L (.box x0 x1)) := nrfl rfl
theorem PIk_build {x0 : List Value} {x1 : List (Nat × Nat × Arg)} : PIk F X0 X (.build x0 x1) l R d E L = pKk F X0 X l R d E (pev E L (.build x0 x1)) := nrfl rfl
theorem PIk_buildSlice {x0 : TypeId} {x1 : Nat} {x2 : List Value} {x3 : List (Nat × Nat × Arg)} : PIk F X0 X (.buildSlice x0 x1 x2 x3) l R d E L = pKk F X0 X l R d E (pev E L (.buildSlice x0 x1 x2 x3)) := nrfl rfl
theorem PJk_buildSlice {x0 : TypeId} {x1 : Nat} {x2 : List Value} {x3 : List (Nat × Nat × Arg)} : PJk F X0 X (.buildSlice x0 x1 x2 x3) l R d E L = pKj F X0 X l R d E (pev E L (.buildSlice x0 x1 x2 x3)) := nrfl rfl
theorem PIk_load {x0 : Option Nat} {x1 : Arg} : PIk F X0 X (.load x0 x1) l R d E L = pKk F X0 X l R d E (pev E L (.load x0 x1)) := nrfl rfl
theorem PJk_load {x0 : Option Nat} {x1 : Arg} : PJk F X0 X (.load x0 x1) l R d E L = pKj F X0 X l R d E (pev E L (.load x0 x1)) := nrfl rfl
theorem PIk_store {x0 : Nat} {x1 : Arg} {x2 : Arg} : PIk F X0 X (.store x0 x1 x2) l R d E L = pKk F X0 X l R d E (pev E L (.store x0 x1 x2)) := nrfl rfl
theorem PIk_nilCheck {x0 : Arg} : PIk F X0 X (.nilCheck x0) l R d E L = pKk F X0 X l R d E (pev E L (.nilCheck x0)) := nrfl rfl
theorem PIk_arith {x0 : BinOp} {x1 : Arg} {x2 : Arg} : PIk F X0 X (.arith x0 x1 x2) l R d E L = pKk F X0 X l R d E (pev E L (.arith x0 x1 x2)) := nrfl rfl
theorem PJk_arith {x0 : BinOp} {x1 : Arg} {x2 : Arg} : PJk F X0 X (.arith x0 x1 x2) l R d E L = pKj F X0 X l R d E (pev E L (.arith x0 x1 x2)) := nrfl rfl
theorem PIk_eqBool {x0 : Bool} {x1 : Arg} {x2 : Arg} : PIk F X0 X (.eqBool x0 x1 x2) l R d E L = pKk F X0 X l R d E (pev E L (.eqBool x0 x1 x2)) := nrfl rfl
theorem PIk_un {x0 : UnOp} {x1 : Arg} : PIk F X0 X (.un x0 x1) l R d E L = pKk F X0 X l R d E (pev E L (.un x0 x1)) := nrfl rfl
theorem PJk_un {x0 : UnOp} {x1 : Arg} : PJk F X0 X (.un x0 x1) l R d E L = pKj F X0 X l R d E (pev E L (.un x0 x1)) := nrfl rfl
theorem PIk_toInt {x0 : IntKind} {x1 : Arg} : PIk F X0 X (.toInt x0 x1) l R d E L = pKk F X0 X l R d E (pev E L (.toInt x0 x1)) := nrfl rfl
theorem PIk_func {x0 : FuncId} {x1 : List Arg} {x2 : List Arg} : PIk F X0 X (.func x0 x1 x2) l R d E L = pKk F X0 X l R d E (pev E L (.func x0 x1 x2)) := nrfl rfl
theorem PIk_makeSlice {x0 : TypeId} {x1 : Nat} {x2 : List Value} {x3 : Arg} {x4 : Arg} : PIk F X0 X (.makeSlice x0 x1 x2 x3 x4) l R d E L = pKk F X0 X l R d E (pev E L (.makeSlice x0 x1 x2 x3 x4)) := nrfl rfl
theorem PIk_slice {x0 : TypeId} {x1 : Nat} {x2 : Arg} {x3 : Option Arg} {x4 : Option Arg} {x5 : Option Arg} : PIk F X0 X (.slice x0 x1 x2 x3 x4 x5) l R d E L = pKk F X0 X l R d E (pev E L (.slice x0 x1 x2 x3 x4 x5)) := nrfl rfl
theorem PJk_slice {x0 : TypeId} {x1 : Nat} {x2 : Arg} {x3 : Option Arg} {x4 : Option Arg} {x5 : Option Arg} : PJk F X0 X (.slice x0 x1 x2 x3 x4 x5) l R d E L = pKj F X0 X l R d E (pev E L (.slice x0 x1 x2 x3 x4 x5)) := nrfl rfl
theorem PIk_sliceStr {x0 : Arg} {x1 : Option Arg} {x2 : Option Arg} : PIk F X0 X (.sliceStr x0 x1 x2) l R d E L = pKk F X0 X l R d E (pev E L (.sliceStr x0 x1 x2)) := nrfl rfl
theorem PIk_fieldAddr {x0 : Nat} {x1 : Arg} : PIk F X0 X (.fieldAddr x0 x1) l R d E L = pKk F X0 X l R d E (pev E L (.fieldAddr x0 x1)) := nrfl rfl
theorem PJk_fieldAddr {x0 : Nat} {x1 : Arg} : PJk F X0 X (.fieldAddr x0 x1) l R d E L = pKj F X0 X l R d E (pev E L (.fieldAddr x0 x1)) := nrfl rfl
theorem PIk_indexAddr {x0 : Nat} {x1 : Arg} {x2 : Arg} : PIk F X0 X (.indexAddr x0 x1 x2) l R d E L = pKk F X0 X l R d E (pev E L (.indexAddr x0 x1 x2)) := nrfl rfl
theorem PJk_indexAddr {x0 : Nat} {x1 : Arg} {x2 : Arg} : PJk F X0 X (.indexAddr x0 x1 x2) l R d E L = pKj F X0 X l R d E (pev E L (.indexAddr x0 x1 x2)) := nrfl rfl
theorem PIk_indexAddrArr {x0 : Nat} {x1 : Nat} {x2 : Arg} {x3 : Arg} : PIk F X0 X (.indexAddrArr x0 x1 x2 x3) l R d E L = pKk F X0 X l R d E (pev E L (.indexAddrArr x0 x1 x2 x3)) := nrfl rfl
theorem PIk_indexStr {x0 : Arg} {x1 : Arg} : PIk F X0 X (.indexStr x0 x1) l R d E L = pKk F X0 X l R d E (pev E L (.indexStr x0 x1)) := nrfl rfl
theorem PJk_indexStr {x0 : Arg} {x1 : Arg} : PJk F X0 X (.indexStr x0 x1) l R d E L = pKj F X0 X l R d E (pev E L (.indexStr x0 x1)) := nrfl rfl
theorem PIk_indexArr {x0 : Nat} {x1 : Nat} {x2 : Option Nat} {x3 : Arg} {x4 : Arg} : PIk F X0 X (.indexArr x0 x1 x2 x3 x4) l R d E L = pKk F X0 X l R d E (pev E L (.indexArr x0 x1 x2 x3 x4)) := nrfl rfl
theorem PIk_extract {x0 : Arg} {x1 : Nat} : PIk F X0 X (.extract x0 x1) l R d E L = pKk F X0 X l R d E (pev E L (.extract x0 x1)) := nrfl rfl
theorem PIk_lookup {x0 : KeyK} {x1 : Value} {x2 : Bool} {x3 : Arg} {x4 : Arg} : PIk F X0 X (.lookup x0 x1 x2 x3 x4) l R d E L = pKk F X0 X l R d E (pev E L (.lookup x0 x1 x2 x3 x4)) := nrfl rfl
theorem PIk_mapUpdate {x0 : KeyK} {x1 : Arg} {x2 : Arg} {x3 : Arg} : PIk F X0 X (.mapUpdate x0 x1 x2 x3) l R d E L = pKk F X0 X l R d E (pev E L (.mapUpdate x0 x1 x2 x3)) := nrfl rfl
theorem PIk_rangeStr {x0 : Arg} : PIk F X0 X (.rangeStr x0) l R d E L = pKk F X0 X l R d E (pev E L (.rangeStr x0)) := nrfl rfl
theorem PIk_nextStr {x0 : Arg} : PIk F X0 X (.nextStr x0) l R d E L = pKk F X0 X l R d E (pev E L (.nextStr x0)) := nrfl rfl
theorem PIk_ofBytes {x0 : Arg} : PIk F X0 X (.ofBytes x0) l R d E L = pKk F X0 X l R d E (pev E L (.ofBytes x0)) := nrfl rfl
theorem PIk_lenStr {x0 : Arg} : PIk F X0 X (.lenStr x0) l R d E L = pKk F X0 X l R d E (pev E L (.lenStr x0)) := nrfl rfl
theorem PIk_lenSl {x0 : Arg} : PIk F X0 X (.lenSl x0) l R d E L = pKk F X0 X l R d E (pev E L (.lenSl x0)) := nrfl rfl
theorem PIk_append {x0 : TypeId} {x1 : Nat} {x2 : Nat} {x3 : Arg} {x4 : Arg} : PIk F X0 X (.append x0 x1 x2 x3 x4) l R d E L = pKk F X0 X l R d E (pev E L (.append x0 x1 x2 x3 x4)) := nrfl rfl
theorem PJk_append {x0 : TypeId} {x1 : Nat} {x2 : Nat} {x3 : Arg} {x4 : Arg} : PJk F X0 X (.append x0 x1 x2 x3 x4) l R d E L = pKj F X0 X l R d E (pev E L (.append x0 x1 x2 x3 x4)) := nrfl rfl
end
attribute [simp] PW_skip PW_ops PW_draw PW_seq PW_cond pcondK_bool PW_block PW_exit PW_ret PW_loop PW_range PO_nil PO_cons PQ_nil PQ_cons PIk_call PJk_call pCk_some pCj_some pKk_some pKj_some pnext_norm pnext_exit pnext_ret pout_norm pout_exit pout_ret PIk_mov PJk_mov PIk_pick PJk_pick PIk_box PIk_build PIk_buildSlice PJk_buildSlice PIk_load PJk_load PIk_store PIk_nilCheck PIk_arith PJk_arith PIk_eqBool PIk_un PJk_un PIk_toInt PIk_func PIk_makeSlice PIk_slice PJk_slice PIk_sliceStr PIk_fieldAddr PJk_fieldAddr PIk_indexAddr PJk_indexAddr PIk_indexAddrArr PIk_indexStr PJk_indexStr PIk_indexArr PIk_extract PIk_lookup PIk_mapUpdate PIk_rangeStr PIk_nextStr PIk_ofBytes PIk_lenStr PIk_lenSl PIk_append PJk_append
attribute [simp] Nat.add_one_le_iff int_beq int_bne
attribute [simp] unV mkInt boundsV boundV arithV arithInt T.get_leaf
end Go.Den
/- Pen, part K: range over functions. -/
namespace Go.Den
variable {ρ ρ' : Rho} {ζ ζ' : Zeta} {A A' : Nat → Prop} {H H' : AH} {f f' : Nat → Nat} {E E' : PEnv} {e : Env} {L L' : List LObj} {g : Nat → Nat → Nat} {p : PV} {q : Bool} {n0 : Nat}
variable {F : FuncId → Option IFunc} {X0 X : Ext} {Q : Ex → PEnv → List LObj → Prop}
def psetAll (E : PEnv) : List Nat → List PV → Option PEnv
 | [],[] => some E
 | t :: ts,p :: ps => psetAll (E.set t p) ts ps
 | _,_ => none
theorem psetAll_ok : ∀ {ts : List Nat} {ps : List PV} {xs : List Value} {E E' : PEnv} {e : Env},EnvP ρ ζ E e → VPL ρ ζ ps xs → psetAll E ts ps = some E' → ∃ e',setAll e ts xs = some e' ∧ EnvP ρ ζ E' e' := by
 intro ts
 induction ts with
 | nil =>
  intro ps xs E E' e he hv h
  cases hv with
  | nil => cases h; exact ⟨e,rfl,he⟩
  | cons _ _ => cases h
 | cons t ts ih =>
  intro ps xs E E' e he hv h
  cases hv with
  | nil => cases h
  | cons h1 h2 => exact ih (he.set h1) h2 h
theorem RH.loop (h : RH A ρ ζ L H) {i k : Nat} {E : PEnv} {ps : List Nat} {as bd : ICode} {st : Nat} {pend : Option Ex} (hL : L[i]? = some (.loop E ps as bd st pend)) (hk : ρ i = some (some k)) :
  ∃ e,H.get k = some (.loop e ps as bd st pend) ∧ EnvP ρ ζ E e ∧ (∀ st' pend',RH A ρ ζ (L.set i (.loop E ps as bd st' pend')) (H.put k (.loop e ps as bd st' pend'))) ∧
   (∀ st' pend',RH A ρ ζ (L.set i .dead) (H.put k (.loop e ps as bd st' pend'))) ∧ ∀ o,Only H (H.put k o) A := by
 obtain ⟨g,hg⟩ := h
 obtain ⟨k',e,h1,h2,h3,h4,h5,h6⟩ := hg.objs _ _ hL
 rw [hk] at h1; cases h1
 have hi : i < L.length := (List.getElem?_eq_some_iff.1 hL).1
 have hwf : ∀ o j ob,(H.put k o).get j = some ob → j < (H.put k o).next := by
  intro o j ob hj
  rw [AH.gpt] at hj
  show j < H.next
  split at hj
  ·omega
  ·exact hg.wf _ _ hj
 refine ⟨e,h3,h5,fun st' pend' => ⟨g,hg.set hi h6 (Kp.putObj h3 noRow_loop) rfl (hwf _) ⟨k,e,hk,h2,by rw [AH.gpt,if_pos rfl],h4,h5,h6⟩⟩,fun st' pend' => ⟨g,hg.set hi h6 (Kp.putObj h3 noRow_loop) rfl (hwf _) trivial⟩,fun o => (Only.put H k o).mono (fun j hj => by subst hj; exact h4)⟩
theorem VP.yl_inv {i : Nat} {x : Value} (h : VP ρ ζ (.yl i) x) : ∃ k,ρ i = some (some k) ∧ x = .func (.yield k) #[] #[] := by cases h with | yl h => exact ⟨_,h,rfl⟩
theorem PF_yield {i : Nat} {args : List PV} {K : PV → List LObj → Prop} {E E1 : PEnv} {ps : List Nat} {as bd : ICode} {pend : Option Ex} (hL : L[i]? = some (.loop E ps as bd 0 pend)) (hs : psetAll E ps args = some E1)
  (h : PC F X0 X L.length as (fun x E2 L2 => x = .norm ∧ ∃ E' ps' as' bd' pend',L2[i]? = some (.loop E' ps' as' bd' 0 pend') ∧
   PC F X0 X L.length bd (fun x E3 L3 => ∃ E' ps' as' bd' st' pend',L3[i]? = some (.loop E' ps' as' bd' st' pend') ∧
    (match x with
    | .norm => K (.v (.bool true)) (L3.set i (.loop E' ps' as' bd' 0 none))
    | .pan _ => False
    | x => K (.v (.bool false)) (L3.set i (.loop E' ps' as' bd' 2 (some x))))) E2 (L2.set i (.loop E' ps' as' bd' 1 pend'))) E1 L) :
  PF F X0 X false (.yl i) args L K := by
 intro A ρ ζ H dv dargs gz hr hv ha
 obtain ⟨k,hk,rfl⟩ := hv.yl_inv
 obtain ⟨e,h1,h2,_,_,_⟩ := hr.loop hL hk
 obtain ⟨e1,h3,h4⟩ := psetAll_ok h2 ha hs
 have hs0 : RS L.length ⟨A,H,ρ,ζ,gz⟩ ρ ζ E1 L e1 H := ⟨hr,h4,Only.refl _ _,.refl _,let ⟨g,hg⟩ := hr; hg.dom,Nat.le_refl _,.refl _ _⟩
 refine wpF_yield h1 h3 ((h _ _ _ _ _ hs0).mono ?_)
 rintro x e2 H2 ⟨ρ2,ζ2,E2,L2,hs2,rfl,E',ps',as',bd',pend',hL2,hb⟩
 have hk2 := hs2.base _ _ hk
 obtain ⟨e',g1,g2,g3,_,g4⟩ := hs2.rh.loop hL2 hk2
 refine ⟨rfl,e',ps',as',bd',pend',g1, ?_⟩
 have hs3 : RS L.length ⟨A,H,ρ,ζ,gz⟩ ρ2 ζ2 E2 (L2.set i (.loop E' ps' as' bd' 1 pend')) e2 (H2.put k (.loop e' ps' as' bd' 1 pend')) := ⟨g3 _ _,hs2.env,hs2.only.transA (g4 _),hs2.base,hs2.dom,by simpa using hs2.len,hs2.zet⟩
 refine (hb _ _ _ _ _ hs3).mono ?_
 rintro x e3 H3 ⟨ρ3,ζ3,E3,L3,hs4,E4,ps4,as4,bd4,st4,pend4,hL3,hk4⟩
 have hk3 := hs4.base _ _ hk
 obtain ⟨e4,q1,q2,q3,_,q4⟩ := hs4.rh.loop hL3 hk3
 refine ⟨e4,ps4,as4,bd4,st4,pend4,q1, ?_⟩
 have fin : ∀ (b : Bool) (st' : Nat) (pend' : Option Ex),K (.v (.bool b)) (L3.set i (.loop E4 ps4 as4 bd4 st' pend')) → ∃ ρ' ζ' v L',ζ.X A ζ' ∧ ρ.Le ρ' ∧ RH A ρ' ζ' L' (H3.put k (.loop e4 ps4 as4 bd4 st' pend')) ∧ VP ρ' ζ' v (.bool b) ∧ Only H (H3.put k (.loop e4 ps4 as4 bd4 st' pend')) A ∧ (false = true → Only H (H3.put k (.loop e4 ps4 as4 bd4 st' pend')) (H.next ≤ ·)) ∧ L.length ≤ L'.length ∧ K v L' :=
  fun b st' pend' hK => ⟨ρ3,ζ3,_,_,hs4.zet,hs4.base,q3 _ _,.v rfl,hs4.only.transA (q4 _),(fun h => by cases h),by simpa using hs4.len,hK⟩
 cases x with
 | norm => exact fin true 0 none hk4
 | pan v => exact hk4
 | exit j => exact fin false 2 _ hk4
 | ret => exact fin false 2 _ hk4
def yK (K : PV → List LObj → Prop) (i : Nat) (E : PEnv) (ps : List Nat) (as bd : ICode) : Ex → List LObj → Prop
 | .norm,L => K (.v (.bool true)) (L.set i (.loop E ps as bd 0 none))
 | .pan _,_ => False
 | x,L => K (.v (.bool false)) (L.set i (.loop E ps as bd 2 (some x)))
theorem PF_yield1 {i : Nat} {args : List PV} {K : PV → List LObj → Prop} {E E1 : PEnv} {ps : List Nat} {as bd : ICode} {pend : Option Ex} (hL : L[i]? = some (.loop E ps as bd 0 pend)) (hs : psetAll E ps args = some E1)
  (h : PW F X0 X L.length as (fun x E2 L2 => x = .norm ∧ L2[i]? = some (.loop E ps as bd 0 pend) ∧
   PW F X0 X L.length bd (fun x _ L3 => L3[i]? = some (.loop E ps as bd 1 pend) ∧ yK K i E ps as bd x L3) E2 (L2.set i (.loop E ps as bd 1 pend))) E1 L) :
  PF F X0 X false (.yl i) args L K := by
 refine PF_yield hL hs ((PW_ok _ h).mono ?_)
 rintro x E2 L2 ⟨hx,h1,h2⟩
 refine ⟨hx,_,_,_,_,_,h1,(PW_ok _ h2).mono ?_⟩
 rintro x E3 L3 ⟨h3,h4⟩
 refine ⟨_,_,_,_,_,_,h3, ?_⟩
 cases x <;> exact h4
attribute [simp] yK psetAll
theorem PC_rangeFunc {fa : Arg} {ps : List Nat} {as bd : ICode} {gid : FuncId} {a c : List PV} (hf : pea E fa = some (.fn gid a c))
  (h : PF F X0 X false (.fn gid a c) [.yl L.length] (L ++ [.loop E ps as bd 0 none]) (fun _ L' => ∃ E' ps' as' bd' st pend,L'[L.length]? = some (.loop E' ps' as' bd' st pend) ∧ st ≠ 1 ∧ Q (pend.getD .norm) E (L'.set L.length .dead))) :
  PC F X0 X n0 (.rangeFunc fa ps as bd) Q E L := by
 intro fx ρ ζ e H hs
 obtain ⟨dv,h1,h2⟩ := pak hs.env hf
 obtain ⟨a',c',rfl,_,_⟩ := h2.fn_inv
 refine wpC_rangeFunc h1 ?_
 obtain ⟨g,hg⟩ := hs.rh
 have hle := Rho.le_add (k := some H.next) hg.fresh
 have hr1 : RH fx.A (ρ.add L.length (some H.next)) ζ (L ++ [.loop E ps as bd 0 none]) (H.push (.loop e ps as bd 0 none)) :=
  hg.push ⟨H.next,e,Rho.add_self,Nat.lt_succ_self _,by rw [AH.gpu,if_pos rfl],hg.acc _ (Nat.le_refl _),hs.env.mono hle (.refl _),by simp⟩
 refine (h fx.A _ ζ _ _ _ hs.gz hr1 (h2.mono hle (.refl _)) (.cons (.yl Rho.add_self) .nil)).mono ?_
 rintro v' H' ⟨ρ',ζ',v,L',c1,c2,c3,c4,c5,_,c7,E',ps',as',bd',st,pend,hL,hst,hq⟩
 have hk' := c2 _ _ (Rho.add_self (ρ := ρ) (i := L.length) (k := some H.next))
 obtain ⟨e',q1,q2,_,q3,q4⟩ := c3.loop hL hk'
 refine ⟨e',ps',as',bd',st,pend,q1,hst,ρ',ζ',E,_,⟨q3 3 pend,hs.env.mono (hle.trans c2) c1.le,((hs.only.transA (Only.push H _ _)).transA c5).transA (q4 _),(hs.base.trans hle).trans c2,hs.dom, ?_,hs.zet.trans c1⟩,hq⟩
 have := hs.len
 simp at c7 ⊢
 omega
theorem PF_code0 {f : FuncId} {fn : IFunc} {a c args : List PV} {K : PV → List LObj → Prop} (hE : X0 f = none) (hX : X f = none) (hF : F f = some fn)
  (h : PC F X0 X L.length fn.body (fun x E' L' => (x = .norm ∨ x = .ret) ∧ ∃ ps,press E' L' fn.results = some ps ∧ K (pone1 ps) L') (penv (funcArgs a args c)) L) : PF F X0 X false (.fn f a c) args L K := by
 refine PF_code hE hX hF (h.mono ?_)
 rintro x E' L' ⟨hx,ps,hps,hk⟩
 exact ⟨hx,ps,hps,_,_,pone1 ps,Abs.refl _ _ _,by rw [T.get_set,if_pos rfl],hk⟩
theorem VwL.same {τ : List Nat} {cs : List PV} (h : noIdL cs = true) : VwL τ L cs cs := F2.of_idx rfl fun i a _ => .same (nIg h i a)
theorem Abs.viewL (τ : List Nat) (l : List (Nat × PV)) (hnd : τ.Nodup) (hlt : ∀ i ∈ τ,i < L.length) (hpin : ∀ i,i < n0 → τ[i]? = some i) (hn0 : n0 ≤ τ.length)
  (hL : F2 (fun i o' => ∃ o,L[i]? = some o ∧ VwO τ L o o') τ L') (hE : ∀ x ∈ l,∃ p,E.get x.1 = some p ∧ Vw τ L p x.2) : Abs n0 E L (envOf l) L' :=
 Abs.viewE τ l hnd hlt hpin hL.length.symm hn0 (fun j i o' h1 h2 => by
  obtain ⟨o,h3,h4⟩ := hL.get h1
  rw [h2] at h3; cases h3; exact h4) hE
end Go.Den
/- Cls, part A: memory of the machine that is only read, as rows of an abstract heap. -/
namespace Go.Den
structure Win where
 b : Nat
 o : Nat
 t : TypeId
 ps : List PV
 xs : List Value
inductive RdV (ws : List Win) : PV → Value → Prop
 | v {x : Value} : atom x = true → RdV ws (.v x) x
 | fz0 {t : TypeId} {a : Option Addr} : RdV ws (.fz t 0 []) (.slice a 0 0)
 | fz {w : Win} {n cap : Nat} : w ∈ ws → n ≤ cap → RdV ws (.fz w.t n w.ps) (.slice (some ⟨w.b,w.o,none⟩) n cap)
 | agg {a : List PV} {a' : Array Value} : a.length = a'.size → (∀ i (h : i < a.length) (h' : i < a'.size),RdV ws a[i] a'[i]) → RdV ws (.agg a) (.agg a')
abbrev RdL (ws : List Win) := F2 (RdV ws)
theorem RdV.mono {ws ws' : List Win} (h : ∀ w ∈ ws,w ∈ ws') {p : PV} {x : Value} (hr : RdV ws p x) : RdV ws' p x := by
 induction hr with
 | v h => exact .v h
 | fz0 => exact .fz0
 | fz hw hn => exact .fz (h _ hw) hn
 | agg h1 _ ih => exact .agg h1 ih
theorem RdL.mono {ws ws' : List Win} (h : ∀ w ∈ ws,w ∈ ws') {p : List PV} {x : List Value} (hr : RdL ws p x) : RdL ws' p x := F2.mono (fun _ _ => RdV.mono h) hr
structure WinOk (P : Program) (hp : Array Obj) (ws : List Win) (w : Win) : Prop where
 at_ : ∃ ccs ct fr,hp[w.b]? = some (.cells ccs ct fr) ∧ w.o + w.xs.length ≤ ccs.size ∧ (ccs.toList.drop w.o).take w.xs.length = w.xs
 vals : RdL ws w.ps w.xs
 sz : ∃ n,0 < n ∧ szOf P w.t = some n
 apart : glZ w.b = none
theorem WinOk.mono {P : Program} {hp : Array Obj} {ws ws' : List Win} (h : ∀ w ∈ ws,w ∈ ws') {w : Win} (hw : WinOk P hp ws w) : WinOk P hp ws' w := ⟨hw.at_,hw.vals.mono h,hw.sz,hw.apart⟩
def GlOk (hp : Array Obj) (N : Nat) : Prop := ∀ k z,glZ k = some z → k < N ∧ z.r = k ∧ z.ex = true ∧ z.cs.all atom = true ∧ ∃ ccs ct fr,hp[k]? = some (.cells ccs ct fr) ∧ z.cs.length ≤ ccs.size ∧ ccs.toList.take z.cs.length = z.cs
def WinAt (ws : List Win) (a : Addr) (t : TypeId) (ps : List PV) (i : Nat) : Prop := a.spot = none ∧ ∃ w,ws[i]? = some w ∧ w.b = a.block ∧ w.o = a.off ∧ w.t = t ∧ w.ps = ps
open Classical in
noncomputable def winV (N : Nat) (ws : List Win) (t : TypeId) (ps : List PV) : Value → Value
 | .slice (some a) n cap => if h : ∃ i,WinAt ws a t ps i then .slice (some ⟨N + h.choose,0,none⟩) n cap else .slice (some ⟨0,0,some 0⟩) 0 0
 | x => x
mutual
noncomputable def absV (N : Nat) (ws : List Win) : PV → Value → Value
 | .fz t _ ps,x => winV N ws t ps x
 | .agg ps,x => .agg (absL N ws ps (match x with | .agg xs => xs.toList | _ => [])).toArray
 | .v _,x => x
 | .ptr _ _,x => x
 | .slc _ _ _ _,x => x
 | .mapr _,x => x
 | .fn _ _ _,x => x
 | .ifc _ _,x => x
 | .tup _,x => x
 | .fp _,x => x
 | .ow _ _ _ _,x => x
 | .bx _ _,x => x
 | .yl _,x => x
noncomputable def absL (N : Nat) (ws : List Win) : List PV → List Value → List Value
 | [],_ => []
 | p :: ps,xs => absV N ws p (xs.headD (.nilFunc)) :: absL N ws ps xs.tail
end
variable {N : Nat} {ws : List Win}
theorem absL_length : ∀ {ps : List PV} {xs : List Value},(absL N ws ps xs).length = ps.length
 | [],_ => by simp [absL]
 | _ :: ps,xs => by simp [absL,absL_length (ps := ps)]
theorem absL_get : ∀ {ps : List PV} {xs : List Value} (i : Nat) (h : i < ps.length) (h' : i < xs.length),(absL N ws ps xs)[i]'(by rw [absL_length]; exact h) = absV N ws ps[i] xs[i]
 | [],_,i,h,_ => absurd h (by simp)
 | p :: ps,[],i,_,h' => absurd h' (by simp)
 | p :: ps,x :: xs,0,h,h' => by simp [absL]
 | p :: ps,x :: xs,i + 1,h,h' => by
  simp only [absL,List.tail_cons,List.getElem_cons_succ]
  exact absL_get i (by simpa using h) (by simpa using h')
def treeTo (f : Nat → Option AObj) : Nat → T AObj
 | 0 => .leaf
 | n + 1 => match f n with
  | some o => (treeTo f n).set n o
  | none => treeTo f n
theorem treeTo_get (f : Nat → Option AObj) : ∀ (n j : Nat),(treeTo f n).get j = if j < n then f j else none
 | 0,j => by simp [treeTo,T.get]
 | n + 1,j => by
  unfold treeTo
  cases hf : f n with
  | some o =>
   simp only [T.get_set]
   by_cases e : j = n
   ·subst e; simp [hf]
   ·rw [if_neg e,treeTo_get f n j]
    by_cases h : j < n
    ·rw [if_pos h,if_pos (by omega)]
    ·rw [if_neg h,if_neg (by omega)]
  | none =>
   simp only
   rw [treeTo_get f n j]
   by_cases e : j = n
   ·subst e; simp [hf]
   ·by_cases h : j < n
    ·rw [if_pos h,if_pos (by omega)]
    ·rw [if_neg h,if_neg (by omega)]
def rootW (ws : List Win) (b : Nat) : Nat := ws.findIdx (fun w => w.b == b)
theorem rootW_le {i : Nat} {w : Win} (h : ws[i]? = some w) : rootW ws w.b ≤ i := by
 unfold rootW
 rcases Nat.lt_or_ge i (ws.findIdx fun w' => w'.b == w.b) with hlt | hge
 ·obtain ⟨hi,rfl⟩ := List.getElem?_eq_some_iff.1 h
  have := List.not_of_lt_findIdx hlt
  simp at this
 ·exact hge
theorem rootW_at {i : Nat} {w : Win} (h : ws[i]? = some w) : ∃ w0,ws[rootW ws w.b]? = some w0 ∧ w0.b = w.b := by
 have h1 := rootW_le h
 have hi := (List.getElem?_eq_some_iff.1 h).1
 have hlt : rootW ws w.b < ws.length := by omega
 refine ⟨ws[rootW ws w.b],List.getElem?_eq_getElem hlt, ?_⟩
 have := List.findIdx_getElem (p := fun w' : Win => w'.b == w.b) (xs := ws) (w := hlt)
 exact eq_of_beq (show (ws[rootW ws w.b].b == w.b) = true from this)
noncomputable def rowsW (N : Nat) (ws : List Win) (k : Nat) : Option AObj :=
 if k < N then (glZ k).map fun z => .cells z.cs z.t true z.ex z.r z.r z.r
 else (ws[k - N]?).map fun w => .cells (absL N ws w.ps w.xs) w.t true false (N + rootW ws w.b) (N + rootW ws w.b) (N + ws.length)
noncomputable def heapW (N : Nat) (ws : List Win) : AH := ⟨treeTo (rowsW N ws) (N + ws.length),N + ws.length,N + ws.length⟩
def blkSize (hp : Array Obj) (b : Nat) : Nat := match hp[b]? with | some (.cells ccs _ _) => ccs.size | _ => 0
def sigW (P : Program) (hp : Array Obj) (N : Nat) (ws : List Win) : Ren := fun k =>
 if k < N then (glZ k).map fun _ => ⟨k,0,blkSize hp k,0⟩ else (ws[k - N]?).map fun w => ⟨w.b,w.o,blkSize hp w.b,(szOf P w.t).getD 0⟩
noncomputable def zetW (N : Nat) (ws : List Win) : Zeta := fun k =>
 if k < N then glZ k else (ws[k - N]?).map fun w => ⟨w.t,false,absL N ws w.ps w.xs,N + rootW ws w.b⟩
theorem heapW_get {k : Nat} : (heapW N ws).get k = rowsW N ws k := by
 show (treeTo (rowsW N ws) (N + ws.length)).get k = _
 rw [treeTo_get]
 by_cases h : k < N + ws.length
 ·rw [if_pos h]
 ·rw [if_neg h]
  unfold rowsW
  rw [if_neg (by omega),List.getElem?_eq_none (by omega)]
  rfl
variable {P : Program} {hp : Array Obj} {gl : Nat → Bool}
theorem atom_one {x : Value} (h : atom x = true) : one x = true := by cases x <;> simp_all [atom,one]
theorem VR.atom (σ : Ren) {x : Value} (h : Den.atom x = true) : VR σ x x := by
 cases x <;> simp [Den.atom] at h
 ·exact .bool _
 ·exact .int _ _
 ·exact .float _ _
 ·exact .string _
theorem winAt_of {w : Win} (hw : w ∈ ws) : ∃ i,WinAt ws ⟨w.b,w.o,none⟩ w.t w.ps i := by
 obtain ⟨i,hi,rfl⟩ := List.getElem_of_mem hw
 exact ⟨i,rfl,ws[i],List.getElem?_eq_getElem hi,rfl,rfl,rfl,rfl⟩
theorem VR.absV {p : PV} {x : Value} (h : RdV ws p x) : VR (sigW P hp N ws) (Den.absV N ws p x) x := by
 induction h with
 | v h => exact .atom _ h
 | @fz0 t a =>
  simp only [Den.absV]
  cases a with
  | none => exact .sliceNil
  | some a =>
   simp only [winV]
   split
   ·rename_i h
    obtain ⟨hs,w,h1,h2,h3,_⟩ := h.choose_spec
    obtain ⟨ab,ao,as⟩ := a
    simp only at hs h2 h3
    subst hs; subst h2; subst h3
    refine VR.slice (p := ⟨w.b,w.o,blkSize hp w.b,(szOf P w.t).getD 0⟩) ?_ (.inl rfl) (.inl rfl) (Nat.le_refl _)
    unfold sigW
    rw [if_neg (by omega),Nat.add_sub_cancel_left,h1]; rfl
   ·exact .sliceE rfl
 | @fz w n cap hw hn =>
  simp only [Den.absV,winV]
  rw [dif_pos (winAt_of hw)]
  obtain ⟨_,w',h1,h2,h3,_⟩ := (winAt_of hw).choose_spec
  simp only at h2 h3
  revert h1
  generalize (winAt_of hw).choose = j
  intro h1
  rw [← h2,← h3]
  refine VR.slice (p := ⟨w'.b,w'.o,blkSize hp w'.b,(szOf P w'.t).getD 0⟩) ?_ (.inl rfl) (.inl rfl) hn
  unfold sigW
  rw [if_neg (by omega),Nat.add_sub_cancel_left,h1]; rfl
 | @agg a a' h1 _ ih =>
  simp only [Den.absV]
  refine .agg (by simp [absL_length,h1]) (fun i hi hi' => ?_)
  simp only [List.getElem_toArray]
  rw [absL_get i (by omega) (by simpa using hi')]
  simpa using ih i (by omega) hi'
theorem VL.absL {ps : List PV} {xs : List Value} (h : RdL ws ps xs) : VL (sigW P hp N ws) (Den.absL N ws ps xs) xs :=
 F2.of_idx (by rw [absL_length,h.length]) fun i h1 h2 => by
  rw [absL_get i (by rw [absL_length] at h1; exact h1) h2]
  exact .absV (F2.idx h i _ _)
theorem VP.absV (hws : ∀ w ∈ ws,WinOk P hp ws w) : ∀ (m : Nat) {p : PV} {x : Value},SizeOf.sizeOf p < m → RdV ws p x → VP (fun _ => none) (zetW N ws) p (Den.absV N ws p x)
 | 0,_,_,hm,_ => absurd hm (Nat.not_lt_zero _)
 | m + 1,p,x,hm,h => by
  have key : ∀ {w' : Win} {j : Nat} {n cap : Nat},ws[j]? = some w' → n ≤ cap → (∀ q ∈ w'.ps,SizeOf.sizeOf q < m) → VP (fun _ => none) (zetW N ws) (.fz w'.t n w'.ps) (.slice (some ⟨N + j,0,none⟩) n cap) := by
   intro w' j n cap hj hn hsz
   have hw' := hws _ (List.mem_of_getElem? hj)
   have hl := hw'.vals.length
   refine .fz (z := ⟨w'.t,false,Den.absL N ws w'.ps w'.xs,N + rootW ws w'.b⟩) ?_ (Nat.zero_le _) (.inr rfl) rfl (by simp [absL_length]) (fun i h1 h2 => ?_) hn
   ·unfold zetW
    rw [if_neg (by omega),Nat.add_sub_cancel_left,hj]; rfl
   ·simp only [List.drop_zero,List.getElem_take]
    rw [absL_get i h1 (by omega)]
    exact VP.absV hws m (hsz _ (List.getElem_mem h1)) (F2.idx hw'.vals i _ _)
  cases h with
  | v h => exact .v (atom_one h)
  | @fz0 t a =>
   simp only [Den.absV]
   cases a with
   | none => exact .fz0 fun _ h => by cases h
   | some a =>
    simp only [winV]
    split
    ·rename_i h
     obtain ⟨hs,w,h1,h2,h3,h4,h5⟩ := h.choose_spec
     have := key (n := 0) (cap := 0) h1 (Nat.le_refl _) (by rw [h5]; simp)
     rw [h4,h5] at this
     exact this
    ·exact .fz0 fun _ h => by cases h; rfl
  | @fz w n cap hw hn =>
   simp only [Den.absV,winV]
   rw [dif_pos (winAt_of hw)]
   obtain ⟨_,w',h1,h2,h3,h4,h5⟩ := (winAt_of hw).choose_spec
   have := key h1 hn (fun q hq => by
    rw [h5] at hq
    have := List.sizeOf_lt_of_mem hq
    simp only [PV.fz.sizeOf_spec] at hm
    omega)
   rw [h4,h5] at this
   exact this
  | @agg a a' h1 h2 =>
   simp only [Den.absV]
   refine .agg (by simp [absL_length]) (fun i hi hi' => ?_)
   simp only [List.getElem_toArray]
   rw [absL_get i hi (by simp; omega)]
   have := List.sizeOf_lt_of_mem (List.getElem_mem hi)
   simp only [PV.agg.sizeOf_spec] at hm
   have := VP.absV hws m (by omega) (h2 i hi (by omega))
   simpa using this
theorem VPL.absL (hws : ∀ w ∈ ws,WinOk P hp ws w) {ps : List PV} {xs : List Value} (h : RdL ws ps xs) : VPL (fun _ => none) (zetW N ws) ps (Den.absL N ws ps xs) :=
 F2.of_idx absL_length.symm fun i h1 h2 => by
  rw [absL_get i h1 (by have := h.length; omega)]
  exact VP.absV hws _ (Nat.lt_succ_self _) (F2.idx h i h1 (by have := h.length; omega))
end Go.Den
/- Cls, part B: the abstract heap is that of the machine; a call. -/
namespace Go.Den
variable {N : Nat} {ws : List Win} {P : Program} {hp : Array Obj} {gl : Nat → Bool}
theorem rowsW_low {k : Nat} {z : Zr} (hk : k < N) (hz : glZ k = some z) : rowsW N ws k = some (.cells z.cs z.t true z.ex z.r z.r z.r) := by
 unfold rowsW; rw [if_pos hk,hz]; rfl
theorem rowsW_high {i : Nat} {w : Win} (hw : ws[i]? = some w) : rowsW N ws (N + i) = some (.cells (absL N ws w.ps w.xs) w.t true false (N + rootW ws w.b) (N + rootW ws w.b) (N + ws.length)) := by
 unfold rowsW; rw [if_neg (by omega),Nat.add_sub_cancel_left,hw]; rfl
theorem rowsW_cases {k : Nat} {o : AObj} (h : rowsW N ws k = some o) : (k < N ∧ ∃ z,glZ k = some z ∧ o = .cells z.cs z.t true z.ex z.r z.r z.r) ∨
  ∃ i w,k = N + i ∧ ws[i]? = some w ∧ o = .cells (absL N ws w.ps w.xs) w.t true false (N + rootW ws w.b) (N + rootW ws w.b) (N + ws.length) := by
 unfold rowsW at h
 split at h
 ·rename_i hk
  obtain ⟨z,h1,h2⟩ := Option.map_eq_some_iff.1 h
  exact .inl ⟨hk,z,h1,h2.symm⟩
 ·rename_i hk
  obtain ⟨w,h1,h2⟩ := Option.map_eq_some_iff.1 h
  exact .inr ⟨k - N,w,by omega,h1,h2.symm⟩
theorem sigW_cases {k : Nat} {p : Place} (h : sigW P hp N ws k = some p) : (k < N ∧ ∃ z,glZ k = some z ∧ p = ⟨k,0,blkSize hp k,0⟩) ∨
  ∃ i w,k = N + i ∧ ws[i]? = some w ∧ p = ⟨w.b,w.o,blkSize hp w.b,(szOf P w.t).getD 0⟩ := by
 unfold sigW at h
 split at h
 ·rename_i hk
  obtain ⟨z,h1,h2⟩ := Option.map_eq_some_iff.1 h
  exact .inl ⟨hk,z,h1,h2.symm⟩
 ·rename_i hk
  obtain ⟨w,h1,h2⟩ := Option.map_eq_some_iff.1 h
  exact .inr ⟨k - N,w,by omega,h1,h2.symm⟩
theorem lt_ix {i : Nat} {w : Win} (h : ws[i]? = some w) : i < ws.length := (List.getElem?_eq_some_iff.1 h).1
theorem blkSize_at {b : Nat} {ccs : Array Value} {ct : TypeId} {fr : Nat × Nat} (h : hp[b]? = some (.cells ccs ct fr)) : blkSize hp b = ccs.size := by unfold blkSize; rw [h]
theorem VL.atoms {σ : Ren} {xs : List Value} (h : xs.all atom = true) : VL σ xs xs :=
 F2.of_idx rfl fun i h1 h2 => .atom σ (List.all_eq_true.1 h _ (List.getElem_mem h1))
theorem HR.heapW (hg : GlOk hp N) (hws : ∀ w ∈ ws,WinOk P hp ws w) (hs : ws.Pairwise fun a b => a.o + a.xs.length ≤ b.o + b.xs.length) : HR gl P (sigW P hp N ws) (heapW N ws) hp := by
 have hmem : ∀ {i w},ws[i]? = some w → WinOk P hp ws w := fun h => hws _ (List.mem_of_getElem? h)
 refine ⟨fun k o hk => ?_,fun k cs t ro ex root thr tip hk => ?_,fun k p hk => ?_,fun k p hk => ?_,fun k p cs t ro ex root thr tip hk hgk => ?_,fun k l pk pl hk hl hlt hlk hll hb => ?_⟩
 ·rw [heapW_get] at hk
  rcases rowsW_cases hk with ⟨h1,_⟩ | ⟨i,w,rfl,h1,_⟩
  ·show k < N + ws.length; omega
  ·have := lt_ix h1; show N + i < N + ws.length; omega
 ·rw [heapW_get] at hk
  rcases rowsW_cases hk with ⟨h1,z,h2,h3⟩ | ⟨i,w,rfl,h1,h3⟩
  ·cases h3
   obtain ⟨e1,e2,e3,_,_⟩ := hg k z h2
   rw [e2]
   refine ⟨Nat.le_refl _,fun _ => rfl,z.cs,z.t,true,z.ex,k,k, ?_,Nat.le_refl _,fun _ => rfl, ?_⟩
   ·rw [heapW_get,rowsW_low h1 h2,e2]
   ·show k ≤ N + ws.length; omega
  ·cases h3
   obtain ⟨w0,h4,h5⟩ := rootW_at h1
   have h6 := rootW_le h1
   refine ⟨by omega,fun h => by (cases h),absL N ws w0.ps w0.xs,w0.t,true,false,N + rootW ws w.b,N + ws.length, ?_, ?_,fun h => by (cases h),Nat.le_refl _⟩
   ·rw [heapW_get,rowsW_high h4,h5]
   ·have := lt_ix h1; omega
 ·rcases sigW_cases hk with ⟨h1,z,h2,rfl⟩ | ⟨i,w,rfl,h1,rfl⟩
  ·obtain ⟨e1,e2,e3,_,ccs,ct,fr,e4,_⟩ := hg k z h2
   exact ⟨by show k < N + ws.length; omega,lt_of_some e4⟩
  ·obtain ⟨ccs,ct,fr,e4,_⟩ := (hmem h1).at_
   exact ⟨by have := lt_ix h1; show N + i < N + ws.length; omega,lt_of_some e4⟩
 ·unfold ObjOk
  rw [heapW_get]
  rcases sigW_cases hk with ⟨h1,z,h2,rfl⟩ | ⟨i,w,rfl,h1,rfl⟩
  ·rw [rowsW_low h1 h2]
   obtain ⟨e1,e2,e3,e6,ccs,ct,fr,e4,e5,e7⟩ := hg k z h2
   refine fun _ => ⟨⟨ccs,ct,fr.1,fr.2,e4,blkSize_at e4,by simpa using e5, ?_,fun h => by cases h⟩,fun _ => rfl,(fun h => by rw [e3] at h; cases h),fun h => by cases h⟩
   simp only [List.drop_zero,e7]
   exact VL.atoms e6
  ·rw [rowsW_high h1]
   have hw := hmem h1
   obtain ⟨ccs,ct,fr,e4,e5,e6⟩ := hw.at_
   obtain ⟨n,n1,n2⟩ := hw.sz
   have hl := hw.vals.length
   refine fun _ => ⟨⟨ccs,ct,fr.1,fr.2,e4,blkSize_at e4,by simp only [absL_length]; omega, ?_,fun h => by cases h⟩,(fun h => by cases h),(fun _ => by simp [n2,n1]),fun h => by cases h⟩
   simp only [absL_length,hl,e6]
   exact VL.absL hw.vals
 ·rw [heapW_get] at hgk
  rcases sigW_cases hk with ⟨h1,z,h2,rfl⟩ | ⟨i,w,rfl,h1,rfl⟩
  ·rw [rowsW_low h1 h2] at hgk
   cases hgk
   obtain ⟨e1,e2,e3,_⟩ := hg k z h2
   exact ⟨fun _ => rfl,fun h => by rw [e3] at h; cases h⟩
  ·rw [rowsW_high h1] at hgk
   cases hgk
   obtain ⟨n,n1,n2⟩ := (hmem h1).sz
   exact ⟨fun h => (by cases h),fun _ => (by simp [n2,n1])⟩
 ·rcases sigW_cases hk with ⟨h1,z,h2,rfl⟩ | ⟨i,w,rfl,h1,rfl⟩ <;> rcases sigW_cases hl with ⟨g1,y,g2,rfl⟩ | ⟨j,v,rfl,g1,rfl⟩
  ·simp only at hb; omega
  ·simp only at hb
   have := (hmem g1).apart
   rw [← hb,h2] at this; cases this
  ·omega
  ·simp only at hb
   have hij : i < j := by omega
   refine ⟨⟨N + rootW ws w.b, ?_, ?_⟩, ?_⟩
   ·unfold AH.famOf; rw [heapW_get,rowsW_high h1]
   ·unfold AH.famOf; rw [heapW_get,rowsW_high g1,hb]
   ·unfold AH.lenOf
    rw [heapW_get,heapW_get,rowsW_high h1,rowsW_high g1]
    simp only [absL_length]
    have h3 := (hmem h1).vals.length
    have h4 := (hmem g1).vals.length
    obtain ⟨a1,rfl⟩ := List.getElem?_eq_some_iff.1 h1
    obtain ⟨a2,rfl⟩ := List.getElem?_eq_some_iff.1 g1
    have := List.pairwise_iff_getElem.1 hs i j a1 a2 hij
    omega
theorem Prot.heapW (b : Nat) : Prot (sigW P hp N ws) (heapW N ws) b := by
 intro k p hk _
 refine .inr ?_
 unfold AH.roOf
 rw [heapW_get]
 rcases sigW_cases hk with ⟨h1,z,h2,rfl⟩ | ⟨i,w,rfl,h1,rfl⟩
 ·rw [rowsW_low h1 h2]
 ·rw [rowsW_high h1]
theorem GlR.heapW (hg : GlOk hp N) (hgl : ∀ g,gl g = true → (glZ g).isSome = true) : GlR gl (sigW P hp N ws) := by
 intro g h
 obtain ⟨z,hz⟩ := Option.isSome_iff_exists.1 (hgl g h)
 obtain ⟨h1,_⟩ := hg g z hz
 exact ⟨⟨g,0,blkSize hp g,0⟩,by unfold sigW; rw [if_pos h1,hz]; rfl,rfl,rfl⟩
theorem GZ.heapW (hg : GlOk hp N) : GZ (zetW N ws) := by
 intro k z hz
 obtain ⟨h1,_⟩ := hg k z hz
 unfold zetW; rw [if_pos h1,hz]
theorem RH.heapW (hg : GlOk hp N) : RH (N + ws.length ≤ ·) (fun _ => none) (zetW N ws) [] (heapW N ws) := by
 refine ⟨fun _ _ => 0,fun i o hi => by simp at hi,fun r => by simp [sumN],fun k z hz => ⟨?_,by simp [sumN]⟩,fun r _ => by simp [sumN],fun j hj => hj,fun i k hk => by (cases hk),fun j o hj => ?_⟩
 ·unfold zetW at hz
  split at hz
  ·rename_i hk
   obtain ⟨h1,h2,_⟩ := hg k z hz
   refine ⟨by show k < N + ws.length; omega,by omega,⟨true,z.r,z.r,by rw [heapW_get,rowsW_low hk hz]⟩, ?_⟩
   rw [h2]
   exact ⟨z.cs,z.t,true,z.ex,k,k,by rw [heapW_get,rowsW_low hk hz,h2],Nat.le_refl _⟩
  ·rename_i hk
   obtain ⟨w,h1,h2⟩ := Option.map_eq_some_iff.1 hz
   subst h2
   obtain ⟨i,rfl⟩ : ∃ i,k = N + i := ⟨k - N,by omega⟩
   rw [Nat.add_sub_cancel_left] at h1
   obtain ⟨w0,h4,h5⟩ := rootW_at h1
   have h6 := rootW_le h1
   refine ⟨by have := lt_ix h1; show N + i < N + ws.length; omega,by simp only; omega,⟨true,_,_,by rw [heapW_get,rowsW_high h1]⟩,absL N ws w0.ps w0.xs,w0.t,true,false,N + rootW ws w.b,N + ws.length, ?_,by omega⟩
   simp only
   rw [heapW_get,rowsW_high h4,h5]
 ·rw [heapW_get] at hj
  rcases rowsW_cases hj with ⟨h1,_⟩ | ⟨i,w,rfl,h1,_⟩
  ·show j < N + ws.length; omega
  ·have := lt_ix h1; show N + i < N + ws.length; omega
theorem calls_of_inv {inv : Inv} (hinv : InvOk gl P inv) {f : FuncId} {Fn : Func} (hf : P.funcs[f]? = some Fn) (hn : (Fn.name == "runtime.NumGoroutine") = false) (hb : Fn.body.isNone = false) {dargs : List Value} {H H' : AH} {out : Out} {σ : Ren} {W : World} {args : Array Value}
  (h : inv (.func (.func f) #[] #[]) dargs H = some (out,H')) (hr : HR gl P σ H W.heap) (hgl : GlR gl σ) (ha : VL σ dargs args.toList) : Calls P f args W (EndP gl P σ H W out H') := by
 have hv : VR σ (.func (.func f) #[] #[]) (.func (.func f) #[] #[]) := VR.func_iff.2 ⟨_,_,_,rfl,.func f,.nil,.nil⟩
 have key := hinv.func f #[] #[] dargs H out H' σ W (.func f) #[] #[] args h hr hgl hv ha
 unfold CallOk at key
 rw [run_ofValue] at key
 simp only [invoke,Array.empty_append,Array.append_empty] at key
 rw [run_enter hf hn hb] at key
 rcases key with ⟨f',as,h1,h2⟩ | ⟨_,c,w',h1,_⟩
 ·cases h1; exact h2
 ·cases h1
structure Still (W w' : World) : Prop where
 os : w'.os = W.os
 out : w'.output = W.output
 size : W.heap.size ≤ w'.heap.size
 blk : ∀ b,b < W.heap.size → w'.heap[b]? = W.heap[b]?
theorem FrW.still {σ σ' : Ren} {H H' : AH} {W w' : World} (h : FrW σ H W σ' H' w') (hp : ∀ b,Prot σ H b) : Still W w' :=
 ⟨h.os,h.out,h.size,fun b hb => (h.prot b hb (hp b)).1⟩
theorem cls_calls {F : FuncId → Option IFunc} {X0 X : Ext} (hm : P.follows .mixedOrders = true) (hF : FOk gl P F) (hE : EOk gl P X0) (hX : XOk gl P X) (hEK : ExtK X0) (hXK : ExtK X) (hgl : ∀ g,gl g = true → (glZ g).isSome = true)
  {f : FuncId} {Fn : Func} (hf : P.funcs[f]? = some Fn) (hn : (Fn.name == "runtime.NumGoroutine") = false) (hb : Fn.body.isNone = false) {pvs : List PV} {v : PV} (h : PP F X0 X (.fn f [] []) pvs v)
  {W : World} {args : Array Value} (hg : GlOk W.heap N) (hws : ∀ w ∈ ws,WinOk P W.heap ws w) (hrd : RdL ws pvs args.toList) :
  Calls P f args W fun e w' => ∃ c,e = .returned c ∧ (∃ ρ ζ σ d,VP ρ ζ v d ∧ VR σ d c) ∧ Still W w' := by
 let le := fun a b : Win => decide (a.o + a.xs.length ≤ b.o + b.xs.length)
 let vs := ws.mergeSort le
 have hmem : ∀ w,w ∈ vs ↔ w ∈ ws := fun w => List.mem_mergeSort
 have hpw : vs.Pairwise fun a b => a.o + a.xs.length ≤ b.o + b.xs.length :=
  (List.pairwise_mergeSort (le := le) (fun a b c h1 h2 => by simp only [le,decide_eq_true_eq] at *; omega) (fun a b => by simp only [le,Bool.or_eq_true,decide_eq_true_eq]; omega) ws).imp fun h => by simpa [le] using h
 have hvs : ∀ w ∈ vs,WinOk P W.heap vs w := fun w hw => (hws w ((hmem w).1 hw)).mono fun x hx => (hmem x).2 hx
 have hrd' : RdL vs pvs args.toList := hrd.mono fun x hx => (hmem x).2 hx
 have hHR := HR.heapW (gl := gl) hg hvs hpw
 obtain ⟨d,H',hev,ρ',ζ',v',L',_,_,_,hvp,_,_,_,rfl,_⟩ := h true [] _ _ _ (heapW N vs) (.func (.func f) #[] #[]) (absL N vs pvs args.toList) (GZ.heapW hg) (RH.heapW hg)
  (.fn rfl (fun i h => by simp at h) rfl (fun i h => by simp at h)) (VPL.absL hvs hrd')
 obtain ⟨m,hev⟩ := hev
 refine (calls_of_inv (den_sound hm hF hE hX hEK hXK m) hf hn hb (hev m (Nat.le_refl m)) hHR (GlR.heapW hg hgl) (VL.absL hrd')).mono fun e w' he => ?_
 cases e with
 | returned c =>
  obtain ⟨d',σ',h1,h2,_,h4⟩ := he
  cases h1
  exact ⟨c,rfl,⟨ρ',ζ',σ',d,hvp,h2⟩,h4.still Prot.heapW⟩
 | panicked chain => obtain ⟨_,_,_,h1,_⟩ := he; cases h1
 | outgrown => exact he.elim
end Go.Den
/- Pen, part L: calls whose arguments are known, by running. -/
namespace Go.Den
variable {F : FuncId → Option IFunc} {X0 X : Ext} {n0 : Nat}
abbrev PCall := PV → List PV → List LObj → Option (PV × List LObj)
def prunOps (call : PCall) : List Ins → PEnv → List LObj → Option (PEnv × List LObj)
 | [],E,L => some (E,L)
 | i :: l,E,L => match pwanted E i.guard with
  | none => none
  | some false => prunOps call l (psetD E i.dst (.tup [])) L
  | some true => match i.op with
   | .call f as => match pea E f,peas E as with
    | some fv,some args => match call fv args L with
     | some (p,L') => prunOps call l (psetD E i.dst p) L'
     | none => none
    | _,_ => none
   | op => match pev E L op with
    | some (p,L',_) => prunOps call l (psetD E i.dst p) L'
    | none => none
def prunQ : List Ins → PEnv → List LObj → Option (PEnv × List LObj)
 | [],E,L => some (E,L)
 | i :: l,E,L => match pwanted E i.guard with
  | none => none
  | some false => prunQ l (psetD E i.dst (.tup [])) L
  | some true => match i.op with
   | .call _ _ => none
   | op => match pev E L op with
    | some (p,L',true) => prunQ l (psetD E i.dst p) L'
    | _ => none
def piter (f : PEnv → List LObj → Option (Ex × PEnv × List LObj)) : Nat → PEnv → List LObj → Option (Ex × PEnv × List LObj)
 | 0,_,_ => none
 | n + 1,E,L => match f E L with
  | some (.norm,E',L') => piter f n E' L'
  | r => r
def prun (call : PCall) (n : Nat) : ICode → PEnv → List LObj → Option (Ex × PEnv × List LObj)
 | .skip,E,L => some (.norm,E,L)
 | .ops l,E,L => match prunOps call l E L with
  | some (E',L') => some (.norm,E',L')
  | none => none
 | .draw q t,E,L => match prunQ q E L with
  | some (E1,L1) => match prunOps call t E1 L1 with
   | some (E',L') => some (.norm,E',L')
   | none => none
  | none => none
 | .seq a b,E,L => match prun call n a E L with
  | some (.norm,E',L') => prun call n b E' L'
  | r => r
 | .cond c a b,E,L => match pei E c with
  | some (.bool t) => match t with
   | true => prun call n a E L
   | false => prun call n b E L
  | _ => none
 | .block id c,E,L => match prun call n c E L with
  | some (.exit j,E',L') => if j = id then some (.norm,E',L') else some (.exit j,E',L')
  | r => r
 | .loop c,E,L => piter (prun call n c) n E L
 | .rangeFunc ..,_,_ => none
 | .exit id,E,L => some (.exit id,E,L)
 | .ret,E,L => some (.ret,E,L)
 | .bad _,_,_ => none
def pcall (F : FuncId → Option IFunc) : Nat → PCall
 | 0,_,_,_ => none
 | n + 1,.fn f a c,args,L => match F f with
  | some fn => match prun (pcall F n) n fn.body (penv (funcArgs a args c)) L with
   | some (x,E',L') => match x with
    | .norm | .ret => match press E' L' fn.results with
     | some ps => some (pone1 ps,L')
     | none => none
    | _ => none
   | none => none
  | none => none
 | _,_,_,_ => none
def COk (F : FuncId → Option IFunc) (X0 X : Ext) (call : PCall) : Prop := ∀ fv args L p L',call fv args L = some (p,L') → PF F X0 X false fv args L (fun v L2 => v = p ∧ L2 = L')
theorem prunOps_ok {call : PCall} (hc : COk F X0 X call) {R : PEnv → List LObj → Prop} : ∀ {l : List Ins} {E E' : PEnv} {L L' : List LObj},prunOps call l E L = some (E',L') → R E' L' → PO F X0 X l R E L := by
 intro l
 induction l with
 | nil => intro E E' L L' h hr; cases h; exact hr
 | cons i l ih =>
  intro E E' L L' h hr
  unfold PO
  simp only [prunOps] at h
  split at h
  ·cases h
  ·rename_i hw
   rw [hw,if_neg (by simp),if_pos rfl]
   exact ih h hr
  ·rename_i hw
   rw [hw,if_pos rfl]
   split at h
   ·rename_i f as hop
    split at h
    ·rename_i fv args h1 h2
     split at h
     ·rename_i p L1 h3
      rw [hop]
      refine ⟨fv,h1,args,h2,(hc _ _ _ _ _ h3).mono ?_⟩
      rintro v L2 ⟨rfl,rfl⟩
      exact ih h hr
     ·cases h
    ·cases h
   ·rename_i op hno
    split at h
    ·rename_i p L1 q hp
     have hk := ih h hr
     unfold PI
     split
     ·rename_i hop; exact absurd hop (hno _ _)
     ·rename_i hop; rw [hop] at hp; rw [hp]; exact hk
     ·rw [hp]; exact hk
    ·cases h
theorem prunQ_ok {R : PEnv → List LObj → Prop} : ∀ {l : List Ins} {E E' : PEnv} {L L' : List LObj},prunQ l E L = some (E',L') → R E' L' → PQ F X0 X l R E L := by
 intro l
 induction l with
 | nil => intro E E' L L' h hr; cases h; exact hr
 | cons i l ih =>
  intro E E' L L' h hr
  unfold PQ
  simp only [prunQ] at h
  split at h
  ·cases h
  ·rename_i hw
   rw [hw,if_neg (by simp),if_pos rfl]
   exact ih h hr
  ·rename_i hw
   rw [hw,if_pos rfl]
   split at h
   ·cases h
   ·rename_i op hno
    split at h
    ·rename_i p L1 hp
     have hk := ih h hr
     unfold PJ
     split
     ·rename_i hop; exact absurd hop (hno _ _)
     ·rw [hp]; exact hk
    ·cases h
theorem prun_ok {call : PCall} (hc : COk F X0 X call) {n : Nat} : ∀ {c : ICode} {x : Ex} {E E' : PEnv} {L L' : List LObj},prun call n c E L = some (x,E',L') → PC F X0 X n0 c (fun x2 E2 L2 => x2 = x ∧ E2 = E' ∧ L2 = L') E L := by
 intro c
 induction c with
 | skip => intro x E E' L L' h; cases h; exact PC_skip ⟨rfl,rfl,rfl⟩
 | ops l =>
  intro x E E' L L' h
  simp only [prun] at h
  split at h
  ·rename_i E1 L1 h1; cases h
   exact PC_ops (prunOps_ok hc h1 ⟨rfl,rfl,rfl⟩)
  ·cases h
 | draw q t =>
  intro x E E' L L' h
  simp only [prun] at h
  split at h
  ·rename_i E1 L1 h1
   split at h
   ·rename_i E2 L2 h2; cases h
    exact PC_draw (prunQ_ok h1 (prunOps_ok hc h2 ⟨rfl,rfl,rfl⟩))
   ·cases h
  ·cases h
 | seq a b iha ihb =>
  intro x E E' L L' h
  simp only [prun] at h
  split at h
  ·rename_i E1 L1 h1
   refine PCq ((iha h1).mono ?_)
   rintro x2 E2 L2 ⟨rfl,rfl,rfl⟩
   exact ihb h
  ·rename_i hno
   refine PCq ((iha h).mono ?_)
   rintro x2 E2 L2 ⟨rfl,rfl,rfl⟩
   cases x2 with
   | norm => exact absurd h (hno _ _)
   | _ => exact ⟨rfl,rfl,rfl⟩
 | cond c a b iha ihb =>
  intro x E E' L L' h
  simp only [prun] at h
  split at h
  ·rename_i t hc
   split at h
   ·exact PC_cond hc (by rw [if_pos rfl]; exact iha h)
   ·exact PC_cond hc (by rw [if_neg (by simp)]; exact ihb h)
  ·cases h
 | block id c ih =>
  intro x E E' L L' h
  simp only [prun] at h
  split at h
  ·rename_i j E1 L1 h1
   refine PC_block ((ih h1).mono ?_)
   rintro x2 E2 L2 ⟨rfl,rfl,rfl⟩
   simp only [pout]
   split at h
   ·rename_i hj; cases h; rw [if_pos hj]; exact ⟨rfl,rfl,rfl⟩
   ·rename_i hj; cases h; rw [if_neg hj]; exact ⟨rfl,rfl,rfl⟩
  ·rename_i hno
   refine PC_block ((ih h).mono ?_)
   rintro x2 E2 L2 ⟨rfl,rfl,rfl⟩
   cases x2 with
   | exit j => exact absurd h (hno _ _ _)
   | _ => exact ⟨rfl,rfl,rfl⟩
 | loop c ih =>
  intro x E E' L L' h
  simp only [prun] at h
  refine PC_loop (fun k E L => piter (prun call n c) k E L = some (x,E',L')) ?_ h
  intro k E L hk
  cases k with
  | zero => cases hk
  | succ k =>
   simp only [piter] at hk
   split at hk
   ·rename_i E1 L1 h1
    refine (ih h1).mono ?_
    rintro x2 E2 L2 ⟨rfl,rfl,rfl⟩
    exact ⟨k,_,_,Nat.lt_succ_self _,Abs.refl _ _ _,hk⟩
   ·rename_i hno
    refine (ih hk).mono ?_
    rintro x2 E2 L2 ⟨rfl,rfl,rfl⟩
    cases x2 with
    | norm => exact absurd hk (hno _ _)
    | _ => exact ⟨rfl,rfl,rfl⟩
 | rangeFunc f ps a b _ _ => intro x E E' L L' h; cases h
 | exit id => intro x E E' L L' h; cases h; exact PC_exit ⟨rfl,rfl,rfl⟩
 | ret => intro x E E' L L' h; cases h; exact PC_ret ⟨rfl,rfl,rfl⟩
 | bad w => intro x E E' L L' h; cases h
theorem pcall_ok (hX : ∀ f fn,F f = some fn → X0 f = none ∧ X f = none) : ∀ n,COk F X0 X (pcall F n) := by
 intro n
 induction n with
 | zero => intro fv args L p L' h; cases h
 | succ n ih =>
  intro fv args L p L' h
  cases fv with
  | fn f a c =>
   simp only [pcall] at h
   split at h
   ·rename_i fn hF
    split at h
    ·rename_i x E1 L1 h1
     have key : ∀ ps,press E1 L1 fn.results = some ps → (x = .norm ∨ x = .ret) → PF F X0 X false (.fn f a c) args L (fun v L2 => v = pone1 ps ∧ L2 = L1) := by
      intro ps hps hx
      refine PF_code0 (hX _ _ hF).1 (hX _ _ hF).2 hF ((prun_ok ih h1).mono ?_)
      rintro x2 E2 L2 ⟨rfl,rfl,rfl⟩
      exact ⟨hx,ps,hps,rfl,rfl⟩
     split at h
     ·split at h
      ·rename_i ps hps; cases h; exact key ps hps (.inl rfl)
      ·cases h
     ·split at h
      ·rename_i ps hps; cases h; exact key ps hps (.inr rfl)
      ·cases h
     ·cases h
    ·cases h
   ·cases h
  | _ => cases h
def pfreeze (L : List LObj) : PV → Option PV
 | .slc i 0 n _ => match prow L i with
  | some (t,cs) => if allNl cs ∧ noIdL cs = true then some (.fz t n cs) else none
  | none => none
 | p => if noId p = true then some p else none
def pfreezeL (L : List LObj) : List PV → Option (List PV)
 | [] => some []
 | p :: ps => match pfreeze L p,pfreezeL L ps with
  | some q,some qs => some (q :: qs)
  | _,_ => none
def pfreeze1 (L : List LObj) : PV → Option PV
 | .tup ps => match pfreezeL L ps with
  | some qs => some (.tup qs)
  | none => none
 | p => pfreeze L p
theorem pfreeze_ok {L : List LObj} {p v : PV} (h : pfreeze L p = some v) : Vw [] L p v ∧ noId v = true := by
 unfold pfreeze at h
 split at h
 ·split at h
  ·rename_i hr
   split at h
   ·rename_i hc; cases h
    exact ⟨Vw.frz hr hc.1 hc.2 rfl,by simpa [noId] using hc.2⟩
   ·cases h
  ·cases h
 ·split at h
  ·rename_i hn; cases h; exact ⟨.same hn,hn⟩
  ·cases h
theorem pfreezeL_ok {L : List LObj} : ∀ {ps qs : List PV},pfreezeL L ps = some qs → F2 (Vw [] L) ps qs ∧ noIdL qs = true := by
 intro ps
 induction ps with
 | nil => intro qs h; cases h; exact ⟨.nil,rfl⟩
 | cons p ps ih =>
  intro qs h
  simp only [pfreezeL] at h
  split at h
  ·rename_i q qs h1 h2; cases h
   obtain ⟨a,b⟩ := pfreeze_ok h1
   obtain ⟨c,d⟩ := ih h2
   exact ⟨.cons a c,by simp [noIdL,b,d]⟩
  ·cases h
theorem pfreeze1_ok {L : List LObj} {p v : PV} (h : pfreeze1 L p = some v) : Vw [] L p v ∧ noId v = true := by
 unfold pfreeze1 at h
 split at h
 ·split at h
  ·rename_i hq; cases h
   obtain ⟨a,b⟩ := pfreezeL_ok hq
   exact ⟨.tup a.length (fun i h h' => F2.idx a i h h'),by simpa [noId] using b⟩
  ·cases h
 ·exact pfreeze_ok h
def prunF (F : FuncId → Option IFunc) (n : Nat) (f : FuncId) (args : List PV) : Option PV := match pcall F n (.fn f [] []) args [] with
 | some (p,L) => pfreeze1 L p
 | none => none
theorem PP_run (hX : ∀ f fn,F f = some fn → X0 f = none ∧ X f = none) {n : Nat} {f : FuncId} {args : List PV} {v : PV} (ha : noIdL args = true) (h : prunF F n f args = some v) : PP F X0 X (.fn f [] []) args v := by
 unfold prunF at h
 split at h
 ·rename_i p L hp
  cases n with
  | zero => cases hp
  | succ n =>
   simp only [pcall] at hp
   split at hp
   ·rename_i fn hF
    split at hp
    ·rename_i x E1 L1 h1
     obtain ⟨hw,hn⟩ := pfreeze1_ok h
     have key : ∀ ps,press E1 L1 fn.results = some ps → (x = .norm ∨ x = .ret) → pone1 ps = p → L1 = L → PP F X0 X (.fn f [] []) args v := by
      rintro ps hps hx rfl rfl
      refine PPc (hX _ _ hF).1 (hX _ _ hF).2 hF (by simp [noId,noIdL]) ha hn ((prun_ok (pcall_ok hX n) h1).mono ?_)
      rintro x2 E2 L2 ⟨rfl,rfl,rfl⟩
      exact ⟨hx,ps,hps,hw⟩
     split at hp
     ·split at hp
      ·rename_i ps hps; cases hp; exact key ps hps (.inl rfl) rfl rfl
      ·cases hp
     ·split at hp
      ·rename_i ps hps; cases hp; exact key ps hps (.inr rfl) rfl rfl
      ·cases hp
     ·cases hp
    ·cases hp
   ·cases hp
 ·cases h
end Go.Den
namespace Go.Den.IrD
open Go Go.Den
abbrev I (n : Int) : Value := .int .i64 n
abbrev S (l : List UInt8) : Value := .string ⟨l.toArray⟩
abbrev Fn (f : Nat) : Value := .func (.func f) #[] #[]
abbrev t (n : Nat) : Arg := .tmp n
abbrev v (x : Value) : Arg := .val x

abbrev zM (d : Nat) (x : Arg) : Ins := ⟨some d,none,.mov x⟩
abbrev zA (d : Nat) (o : BinOp) (x y : Arg) : Ins := ⟨some d,none,.arith o x y⟩
abbrev zL (d : Nat) (x : Arg) : Ins := ⟨some d,none,.load none x⟩
abbrev zF (d n : Nat) (x : Arg) : Ins := ⟨some d,none,.fieldAddr n x⟩
abbrev zC (d k : Nat) (l : List Arg) : Ins := ⟨some d,none,.call (v (Fn k)) l⟩
abbrev zP (d : Nat) (a b c : Arg) : Ins := ⟨some d,none,.pick a b c⟩
abbrev zX (d n : Nat) (x y : Arg) : Ins := ⟨some d,none,.indexAddr n x y⟩
abbrev zN (d : Nat) (x : Arg) : Ins := ⟨some d,none,.lenSl x⟩
abbrev zG (d t : Nat) (b : Bool) (o : IOp) : Ins := ⟨some d,some (t,b),o⟩
abbrev zS (n : Nat) (x y : Arg) : Ins := ⟨none,none,.store n x y⟩
abbrev zg (d : Nat) (o : IOp) : Ins := ⟨some d,none,o⟩
abbrev zi (n : Int) : Arg := .val (I n)
abbrev zm (d n : Nat) : Ins := ⟨some d,none,.mov (.tmp n)⟩
abbrev za (d : Nat) (o : BinOp) (x y : Nat) : Ins := ⟨some d,none,.arith o (.tmp x) (.tmp y)⟩
abbrev zl (d x : Nat) : Ins := ⟨some d,none,.load none (.tmp x)⟩
abbrev zf (d n x : Nat) : Ins := ⟨some d,none,.fieldAddr n (.tmp x)⟩
abbrev zx (d n x y : Nat) : Ins := ⟨some d,none,.indexAddr n (.tmp x) (.tmp y)⟩
abbrev zn (d x : Nat) : Ins := ⟨some d,none,.lenSl (.tmp x)⟩
abbrev zs (l : List Ins) (c : ICode) : ICode := .seq (.ops l) c
abbrev zz (n : Nat) : Array Value := ((List.replicate n [S [],I 0,I 0,I 0,I 0,S []]).flatten).toArray
def ir3 : IFunc := ⟨86,[.tmp 4],(zs [zg 2 (.box 24 (t 0)),zM 4 (v (.bool false))] (.seq (zs [zg 17 (.load (some 2) (t 2)),zC 18 13 [(t 17),(zi 90)],zg 19 (.un .not (t 18))] (.cond (t 19) (zs [zC 20 14 [],zm 4 20] .ret) .skip)) (zs [zg 22 (.load (some 2) (t 2)),zm 23 1,zC 24 15 [(t 22),(t 23)],zm 21 24,zg 25 (.extract (t 21) 0),zg 26 (.extract (t 21) 1),zm 5 25,zm 6 26] (zs [zg 28 (.load (some 2) (t 2)),zm 29 1,zC 30 16 [(t 28),(t 29)],zm 27 30,zg 31 (.extract (t 27) 0),zg 32 (.extract (t 27) 1),zm 7 31,zm 8 32] (zs [zg 34 (.load (some 2) (t 2)),zm 35 1,zC 36 17 [(t 34),(t 35)],zm 33 36,zg 37 (.extract (t 33) 0),zg 38 (.extract (t 33) 1),zm 9 37,zm 10 38] (zs [zg 40 (.load (some 2) (t 2)),zm 41 1,zC 42 18 [(t 40),(t 41)],zm 39 42,zg 43 (.extract (t 39) 0),zg 44 (.extract (t 39) 1),zm 11 43,zm 12 44] (zs [zg 46 (.load (some 2) (t 2)),zC 47 19 [(t 46)],zm 45 47,zg 48 (.extract (t 45) 0),zg 49 (.extract (t 45) 1),zm 13 48,zm 14 49] (zs [zg 51 (.load (some 2) (t 2)),zC 52 20 [(t 51)],zm 50 52,zg 53 (.extract (t 50) 0),zg 54 (.extract (t 50) 1),zm 15 53,zm 16 54] (zs [zm 55 5,zm 56 7,zC 57 21 [(t 55),(t 56)],zm 58 57,zG 59 58 true (.mov (t 6)),zG 60 58 true (.mov (t 8)),zG 61 58 true (.arith .eql (t 59) (t 60)),zP 62 (t 58) (t 61) (v (.bool false)),zm 63 62,zG 64 63 true (.mov (t 9)),zG 65 63 true (.mov (t 11)),zG 66 63 true (.arith .eql (t 64) (t 65)),zP 67 (t 63) (t 66) (v (.bool false)),zm 68 67,zG 69 68 true (.mov (t 10)),zG 70 68 true (.mov (t 12)),zG 71 68 true (.arith .eql (t 69) (t 70)),zP 72 (t 68) (t 71) (v (.bool false)),zm 73 72,zG 74 73 true (.mov (t 13)),zG 75 73 true (.mov (t 15)),zG 76 73 true (.call (v (Fn 22)) [(t 74),(t 75)]),zP 77 (t 73) (t 76) (v (.bool false)),zm 78 77,zG 79 78 true (.mov (t 14)),zG 80 78 true (.mov (t 16)),zG 81 78 true (.arith .eql (t 79) (t 80)),zP 82 (t 78) (t 81) (v (.bool false)),zm 83 82,zG 84 83 true (.call (v (Fn 14)) []),zP 85 (t 83) (t 84) (v (.bool false)),zm 4 85] .ret)))))))))⟩
def ir13 : IFunc := ⟨65,[.tmp 4],(zs [zg 2 (.box 24 (t 0)),zM 4 (v (.bool false))] (.seq (zs [zf 10 1 2,zl 11 10,zn 12 11,zA 13 .gtr (t 12) (zi 20),zm 14 13,zG 15 14 false (.fieldAddr 0 (t 2)),zG 16 14 false (.load none (t 15)),zG 17 14 false (.arith .gtr (t 16) (zi 50)),zP 18 (t 14) (v (.bool true)) (t 17)] (.cond (t 18) (zs [zM 4 (v (.bool false))] .ret) .skip)) (zs [zM 5 (zi 0)] (.seq (zs [zf 19 1 2,zl 20 19,zn 21 20,zM 22 (zi 0)] (.block 0 (.loop (zs [za 23 .lss 22 21] (.seq (.cond (t 23) .skip (.exit 0)) (.seq (.block 1 (zs [zx 24 4 20 22,zg 25 (.load (some 4) (t 24)),zg 7 (.box 61 (v (.agg #[(S []),(I 0),(I 0),(.slice none 0 0)]))),zS 4 (t 7) (t 25)] (zs [zm 26 5,zf 27 3 7,zl 28 27,zn 29 28,zA 30 .add (zi 1) (t 29),za 31 .add 26 30,zm 5 31] (.seq (zs [zm 32 5,zm 33 1,za 34 .gtr 32 33,zm 35 34,zG 36 35 false (.fieldAddr 1 (t 7)),zG 37 35 false (.load none (t 36)),zG 38 35 false (.arith .gtr (t 37) (zi 60)),zP 39 (t 35) (v (.bool true)) (t 38),zm 40 39,zG 41 40 false (.fieldAddr 0 (t 7)),zG 42 40 false (.load none (t 41)),zG 43 40 false (.lenStr (t 42)),zG 44 40 false (.arith .gtr (t 43) (zi 60)),zP 45 (t 40) (v (.bool true)) (t 44)] (.cond (t 45) (zs [zM 4 (v (.bool false))] .ret) .skip)) (zs [zf 46 3 7,zl 47 46,zn 48 47,zM 49 (zi 0)] (.block 2 (.loop (zs [za 50 .lss 49 48] (.seq (.cond (t 50) .skip (.exit 2)) (.seq (.block 3 (zs [zx 51 7 47 49,zg 52 (.load (some 7) (t 51)),zg 9 (.box 65 (v (.agg #[(I 0),(I 0),(I 0),(I 0),(I 0),(S []),(.slice none 0 0)]))),zS 7 (t 9) (t 52)] (zs [zf 53 6 9,zl 54 53,zn 55 54,zA 56 .gtr (t 55) (zi 20),zm 57 56,zG 58 57 false (.fieldAddr 5 (t 9)),zG 59 57 false (.load none (t 58)),zG 60 57 false (.lenStr (t 59)),zG 61 57 false (.arith .gtr (t 60) (zi 60)),zP 62 (t 57) (v (.bool true)) (t 61)] (.cond (t 62) (zs [zM 4 (v (.bool false))] .ret) .skip)))) (.ops [zA 63 .add (t 49) (zi 1),zm 49 63]))))))))))) (.ops [zA 64 .add (t 22) (zi 1),zm 22 64]))))))) (zs [zM 4 (v (.bool true))] .ret)))))⟩
def ir14 : IFunc := ⟨54,[.tmp 0],(zs [zM 0 (v (.bool false))] (zs [zg 5 (.build [(I 0),(I 0),(I 0),(I 0),(I 0),(S []),(.slice none 0 0)] [(0,1,(zi 1)),(2,1,(zi 3))]),zg 6 (.build [(I 0),(I 0),(I 0),(I 0),(I 0),(S []),(.slice none 0 0)] [(0,1,(zi 20)),(3,1,(zi 4))]),zg 7 (.build [(I 0),(I 0),(I 0),(I 0),(I 0),(S []),(.slice none 0 0)] [(0,1,(zi 1))]),zg 8 (.build [(I 0),(I 0),(I 0),(I 0),(I 0),(S []),(.slice none 0 0)] [(0,1,(zi 19)),(3,1,(zi 1))]),zg 9 (.build [(I 0),(I 0),(I 0),(I 0),(I 0),(S []),(.slice none 0 0)] [(0,1,(zi 22))]),zg 10 (.buildSlice 65 5 [(I 0),(I 0),(I 0),(I 0),(I 0),(S []),(.slice none 0 0),(I 0),(I 0),(I 0),(I 0),(I 0),(S []),(.slice none 0 0),(I 0),(I 0),(I 0),(I 0),(I 0),(S []),(.slice none 0 0),(I 0),(I 0),(I 0),(I 0),(I 0),(S []),(.slice none 0 0),(I 0),(I 0),(I 0),(I 0),(I 0),(S []),(.slice none 0 0)] [(0,7,(t 5)),(7,7,(t 6)),(14,7,(t 7)),(21,7,(t 8)),(28,7,(t 9))]),zg 11 (.build [(S []),(I 0),(I 0),(.slice none 0 0)] [(0,1,(v (S [95,115,116,97,114,116]))),(1,1,(zi 1)),(3,1,(t 10))]),zg 12 (.buildSlice 61 1 [(S []),(I 0),(I 0),(.slice none 0 0)] [(0,4,(t 11))]),zg 13 (.build [(I 0),(.slice none 0 0)] [(1,1,(t 12))]),zg 1 (.box 24 (v (.agg #[(I 0),(.slice none 0 0)]))),zS 2 (t 1) (t 13)] (zs [zg 15 (.load (some 2) (t 1)),zC 16 15 [(t 15),(zi 0)],zm 14 16,zg 17 (.extract (t 14) 0),zg 18 (.extract (t 14) 1),zm 2 17,zm 3 18] (zs [zm 19 2,zC 20 67 [(t 19)],zm 4 20] (zs [zm 21 3,zA 22 .eql (t 21) (zi 0),zm 23 22,zG 24 23 true (.mov (t 2)),zG 25 23 true (.lenSl (t 24)),zG 26 23 true (.arith .eql (t 25) (zi 4)),zP 27 (t 23) (t 26) (v (.bool false)),zm 28 27,zG 29 28 true (.mov (t 4)),zG 30 28 true (.lenSl (t 29)),zG 31 28 true (.arith .eql (t 30) (zi 1)),zP 32 (t 28) (t 31) (v (.bool false)),zm 33 32,zG 34 33 true (.mov (t 4)),zG 35 33 true (.indexAddr 2 (t 34) (zi 0)),zG 36 33 true (.fieldAddr 0 (t 35)),zG 37 33 true (.load none (t 36)),zG 38 33 true (.arith .eql (t 37) (zi 1)),zP 39 (t 33) (t 38) (v (.bool false)),zm 40 39,zG 41 40 true (.mov (t 4)),zG 42 40 true (.indexAddr 2 (t 41) (zi 0)),zG 43 40 true (.fieldAddr 1 (t 42)),zG 44 40 true (.load none (t 43)),zG 45 40 true (.buildSlice 3 2 [(I 0),(I 0)] [(0,1,(zi 1)),(1,1,(zi 2))]),zG 46 40 true (.call (v (Fn 50)) [(t 44),(t 45)]),zP 47 (t 40) (t 46) (v (.bool false)),zm 48 47,zG 49 48 true (.mov (t 2)),zG 50 48 true (.call (v (Fn 68)) [(t 49)]),zG 51 48 true (.buildSlice 3 4 [(I 0),(I 0),(I 0),(I 0)] [(0,1,(zi (-1))),(1,1,(zi 0)),(2,1,(zi 1)),(3,1,(zi 1))]),zG 52 48 true (.call (v (Fn 50)) [(t 50),(t 51)]),zP 53 (t 48) (t 52) (v (.bool false)),zm 0 53] .ret)))))⟩
def ir15 : IFunc := ⟨20,[.tmp 4,.tmp 5],(zs [zg 2 (.box 24 (t 0)),zM 4 (v (.slice none 0 0)),zM 5 (zi 0)] (zs [zg 9 (.load (some 2) (t 2)),zm 10 1,zC 11 69 [(t 9),(t 10)],zm 8 11,zg 12 (.extract (t 8) 0),zg 13 (.extract (t 8) 1),zg 6 (.box 61 (v (.agg #[(S []),(I 0),(I 0),(.slice none 0 0)]))),zS 4 (t 6) (t 12),zm 7 13] (.seq (zs [zm 14 7,zA 15 .neq (t 14) (zi 0)] (.cond (t 15) (zs [zm 16 7,zM 4 (v (.slice none 0 0)),zm 5 16] .ret) .skip)) (zs [zf 17 3 6,zl 18 17,zC 19 70 [(t 18)],zm 4 19,zM 5 (zi 0)] .ret))))⟩
def ir16 : IFunc := ⟨20,[.tmp 4,.tmp 5],(zs [zg 2 (.box 24 (t 0)),zM 4 (v (.slice none 0 0)),zM 5 (zi 0)] (.seq (zs [zg 7 (.load (some 2) (t 2)),zm 8 1,zC 9 71 [(t 7),(t 8)],zm 6 9] (zs [zm 10 6,zA 11 .neq (t 10) (zi 0)] (.cond (t 11) (zs [zm 12 6,zM 4 (v (.slice none 0 0)),zm 5 12] .ret) .skip))) (zs [zf 13 1 2,zl 14 13,zm 15 1,zx 16 4 14 15,zf 17 3 16,zl 18 17,zC 19 72 [(t 18)],zm 4 19,zM 5 (zi 0)] .ret)))⟩
def ir17 : IFunc := ⟨84,[.tmp 4,.tmp 5],(zs [zg 2 (.box 24 (t 0)),zM 4 (v (S [])),zM 5 (zi 0)] (zs [zg 17 (.load (some 2) (t 2)),zm 18 1,zC 19 69 [(t 17),(t 18)],zm 16 19,zg 20 (.extract (t 16) 0),zg 21 (.extract (t 16) 1),zg 6 (.box 61 (v (.agg #[(S []),(I 0),(I 0),(.slice none 0 0)]))),zS 4 (t 6) (t 20),zm 7 21] (.seq (zs [zm 22 7,zA 23 .neq (t 22) (zi 0)] (.cond (t 23) (zs [zm 24 7,zM 4 (v (S [])),zm 5 24] .ret) .skip)) (zs [zf 25 3 6,zl 26 25,zC 27 70 [(t 26)],zm 8 27] (zs [zm 28 8,zC 29 68 [(t 28)],zm 30 8,zC 31 67 [(t 30)],zm 9 29,zm 10 31] (zs [zg 11 (.box 141 (v (.agg #[(.pointer none),(.slice none 0 0)])))] (.seq (zs [zm 32 8,zn 33 32,zM 34 (zi 0)] (.block 0 (.loop (zs [za 35 .lss 34 33] (.seq (.cond (t 35) .skip (.exit 0)) (.seq (.block 1 (zs [zm 36 34,zx 37 3 32 34,zg 38 (.load (some 3) (t 37)),zg 12 (.box 3 (zi 0)),zg 13 (.box 143 (v (.agg #[(I 0),(I 0),(.slice none 0 0)]))),zS 1 (t 12) (t 36),zS 3 (t 13) (t 38)] (.seq (.draw [zl 39 12,zC 40 74 [(t 39)],zA 41 .add (t 40) (v (S [32])),zf 42 0 13,zl 43 42,zC 44 74 [(t 43)],za 45 .add 41 44,zA 46 .add (t 45) (v (S [46,46])),zf 47 1 13,zl 48 47,zC 49 74 [(t 48)]] [za 50 .add 46 49,zA 51 .add (t 50) (v (S [32,45,62])),zC 52 73 [(t 11),(t 51)]]) (.seq (zs [zf 53 2 13,zl 54 53,zn 55 54,zM 56 (zi 0)] (.block 2 (.loop (zs [za 57 .lss 56 55] (.seq (.cond (t 57) .skip (.exit 2)) (.seq (.block 3 (zs [zx 58 1 54 56,zl 59 58,zm 15 59] (.ops [zm 60 15,zC 61 74 [(t 60)],zA 62 .add (v (S [32])) (t 61),zC 63 73 [(t 11),(t 62)]]))) (.ops [zA 64 .add (t 56) (zi 1),zm 56 64]))))))) (.seq (zs [zm 65 9,zl 66 12,zx 67 1 65 66,zl 68 67,zA 69 .geq (t 68) (zi 0)] (.cond (t 69) (.ops [zm 70 9,zl 71 12,zx 72 1 70 71,zl 73 72,zC 74 74 [(t 73)],zA 75 .add (v (S [32,98,121,32])) (t 74),zC 76 73 [(t 11),(t 75)]]) .skip)) (.seq (zs [zm 77 10,zg 78 (.func 76 [] [(t 12)]),zC 79 75 [(t 77),(t 78)]] (.cond (t 79) (.ops [zC 80 73 [(t 11),(v (S [32,108,111,111,112]))]]) .skip)) (.ops [zC 81 73 [(t 11),(v (S [10]))]]))))))) (.ops [zA 82 .add (t 34) (zi 1),zm 34 82]))))))) (zs [zC 83 77 [(t 11)],zm 4 83,zM 5 (zi 0)] .ret))))))))⟩
def ir18 : IFunc := ⟨107,[.tmp 4,.tmp 5],(zs [zg 2 (.box 24 (t 0)),zM 4 (v (S [])),zM 5 (zi 0)] (zs [zg 15 (.load (some 2) (t 2)),zm 16 1,zC 17 16 [(t 15),(t 16)],zm 14 17,zg 18 (.extract (t 14) 0),zg 19 (.extract (t 14) 1),zm 6 18,zm 7 19] (.seq (zs [zm 20 7,zA 21 .neq (t 20) (zi 0)] (.cond (t 21) (zs [zm 22 7,zM 4 (v (S [])),zm 5 22] .ret) .skip)) (zs [zm 23 6,zC 24 78 [(t 23)],zm 8 24] (zs [zm 25 6,zC 26 79 [(t 25)],zm 9 26] (zs [zM 10 (v (S []))] (.seq (zs [zM 11 (zi 0)] (.block 0 (.loop (.seq (zs [zm 27 11,zm 28 6,zn 29 28,za 30 .lss 27 29] (.cond (t 30) .skip (.exit 0))) (.seq (.block 1 (.seq (.draw [zm 33 10,zm 34 11,zC 35 80 [(t 34)],za 36 .add 33 35,zA 37 .add (t 36) (v (S [32])),zm 38 6,zm 39 11,zx 40 3 38 39,zf 41 0 40,zl 42 41,zC 43 80 [(t 42)],za 44 .add 37 43,zA 45 .add (t 44) (v (S [46,46])),zm 46 6,zm 47 11,zx 48 3 46 47,zf 49 1 48,zl 50 49,zC 51 80 [(t 50)]] [za 52 .add 45 51,zA 53 .add (t 52) (v (S [32,45,62])),zm 10 53]) (.seq (zs [zM 12 (zi 0)] (.block 2 (.loop (.seq (zs [zm 54 12,zm 55 6,zm 56 11,zx 57 3 55 56,zf 58 2 57,zl 59 58,zn 60 59,za 61 .lss 54 60] (.cond (t 61) .skip (.exit 2))) (.seq (.block 3 (.ops [zm 64 10,zA 65 .add (t 64) (v (S [32])),zm 66 6,zm 67 11,zx 68 3 66 67,zf 69 2 68,zl 70 69,zm 71 12,zx 72 1 70 71,zl 73 72,zC 74 80 [(t 73)],za 75 .add 65 74,zm 10 75])) (.ops [zm 62 12,zA 63 .add (t 62) (zi 1),zm 12 63])))))) (.seq (zs [zm 76 8,zm 77 11,zx 78 1 76 77,zl 79 78,zA 80 .geq (t 79) (zi 0)] (.cond (t 80) (.ops [zm 81 10,zA 82 .add (t 81) (v (S [32,98,121,32])),zm 83 8,zm 84 11,zx 85 1 83 84,zl 86 85,zC 87 80 [(t 86)],za 88 .add 82 87,zm 10 88]) .skip)) (.seq (zs [zM 13 (zi 0)] (.block 4 (.loop (.seq (zs [zm 89 13,zm 90 9,zn 91 90,za 92 .lss 89 91] (.cond (t 92) .skip (.exit 4))) (.seq (.block 5 (zs [zm 95 9,zm 96 13,zx 97 2 95 96,zf 98 0 97,zl 99 98,zm 100 11,za 101 .eql 99 100] (.cond (t 101) (.ops [zm 102 10,zA 103 .add (t 102) (v (S [32,108,111,111,112])),zm 10 103]) .skip))) (.ops [zm 93 13,zA 94 .add (t 93) (zi 1),zm 13 94])))))) (.ops [zm 104 10,zA 105 .add (t 104) (v (S [10])),zm 10 105])))))) (.ops [zm 31 11,zA 32 .add (t 31) (zi 1),zm 11 32])))))) (zs [zm 106 10,zm 4 106,zM 5 (zi 0)] .ret))))))))⟩
def ir19 : IFunc := ⟨53,[.tmp 2,.tmp 3],(zs [zg 1 (.box 24 (t 0)),zM 2 (v (.slice none 0 0)),zM 3 (zi 0)] (.seq (zs [zg 11 (.load (some 2) (t 1)),zC 12 81 [(t 11)],zm 4 12] (zs [zm 13 4,zA 14 .neq (t 13) (zi 0)] (.cond (t 14) (zs [zm 15 4,zM 2 (v (.slice none 0 0)),zm 3 15] .ret) .skip))) (zs [zM 5 (v (.slice none 0 0))] (.seq (zs [zf 16 1 1,zl 17 16,zn 18 17,zM 19 (zi 0)] (.block 0 (.loop (zs [za 20 .lss 19 18] (.seq (.cond (t 20) .skip (.exit 0)) (.seq (.block 1 (zs [zx 21 4 17 19,zg 22 (.load (some 4) (t 21)),zg 7 (.box 61 (v (.agg #[(S []),(I 0),(I 0),(.slice none 0 0)]))),zS 4 (t 7) (t 22)] (zs [zM 8 (v (.slice none 0 0))] (.seq (zs [zf 23 3 7,zl 24 23,zn 25 24,zM 26 (zi 0)] (.block 2 (.loop (zs [za 27 .lss 26 25] (.seq (.cond (t 27) .skip (.exit 2)) (.seq (.block 3 (zs [zx 28 7 24 26,zg 29 (.load (some 7) (t 28)),zg 10 (.box 65 (v (.agg #[(I 0),(I 0),(I 0),(I 0),(I 0),(S []),(.slice none 0 0)]))),zS 7 (t 10) (t 29)] (zs [zf 30 0 10,zl 31 30,zA 32 .eql (t 31) (zi 21),zm 33 32,zG 34 33 false (.fieldAddr 0 (t 10)),zG 35 33 false (.load none (t 34)),zG 36 33 false (.arith .eql (t 35) (zi 27)),zP 37 (t 33) (v (.bool true)) (t 36)] (.cond (t 37) (.ops [zm 38 8,zf 39 2 10,zl 40 39,zg 41 (.buildSlice 3 1 [(I 0)] [(0,1,(t 40))]),zg 42 (.append 3 1 8 (t 38) (t 41)),zm 8 42]) .skip)))) (.ops [zA 43 .add (t 26) (zi 1),zm 26 43]))))))) (zs [zm 44 8,zC 45 82 [(t 44)]] (.ops [zm 46 5,zm 47 8,zC 48 83 [(t 47)],zg 49 (.buildSlice 41 1 [(.slice none 0 0)] [(0,1,(t 48))]),zg 50 (.append 41 1 24 (t 46) (t 49)),zm 5 50])))))) (.ops [zA 51 .add (t 19) (zi 1),zm 19 51]))))))) (zs [zm 52 5,zm 2 52,zM 3 (zi 0)] .ret)))))⟩
def ir20 : IFunc := ⟨61,[.tmp 2,.tmp 3],(zs [zg 1 (.box 24 (t 0)),zM 2 (v (.slice none 0 0)),zM 3 (zi 0)] (.seq (zs [zg 10 (.load (some 2) (t 1)),zC 11 84 [(t 10)],zm 4 11] (zs [zm 12 4,zA 13 .neq (t 12) (zi 0)] (.cond (t 13) (zs [zm 14 4,zM 2 (v (.slice none 0 0)),zm 3 14] .ret) .skip))) (zs [zg 15 (.buildSlice 41 0 [] []),zm 5 15] (.seq (zs [zM 6 (zi 0)] (.block 0 (.loop (.seq (zs [zm 16 6,zf 17 1 1,zl 18 17,zn 19 18,za 20 .lss 16 19] (.cond (t 20) .skip (.exit 0))) (.seq (.block 1 (zs [zg 23 (.buildSlice 3 0 [] []),zm 7 23] (.seq (zs [zM 8 (zi 0)] (.block 2 (.loop (.seq (zs [zm 24 8,zf 25 1 1,zl 26 25,zm 27 6,zx 28 4 26 27,zf 29 3 28,zl 30 29,zn 31 30,za 32 .lss 24 31] (.cond (t 32) .skip (.exit 2))) (.seq (.block 3 (zs [zf 35 1 1,zl 36 35,zm 37 6,zx 38 4 36 37,zf 39 3 38,zl 40 39,zm 41 8,zx 42 7 40 41,zg 43 (.load (some 7) (t 42)),zg 9 (.box 65 (v (.agg #[(I 0),(I 0),(I 0),(I 0),(I 0),(S []),(.slice none 0 0)]))),zS 7 (t 9) (t 43)] (zs [zf 44 0 9,zl 45 44,zA 46 .eql (t 45) (zi 21),zm 47 46,zG 48 47 false (.fieldAddr 0 (t 9)),zG 49 47 false (.load none (t 48)),zG 50 47 false (.arith .eql (t 49) (zi 27)),zP 51 (t 47) (v (.bool true)) (t 50)] (.cond (t 51) (.ops [zm 52 7,zf 53 2 9,zl 54 53,zC 55 85 [(t 52),(t 54)],zm 7 55]) .skip)))) (.ops [zm 33 8,zA 34 .add (t 33) (zi 1),zm 8 34])))))) (.ops [zm 56 5,zm 57 7,zg 58 (.buildSlice 41 1 [(.slice none 0 0)] [(0,1,(t 57))]),zg 59 (.append 41 1 24 (t 56) (t 58)),zm 5 59])))) (.ops [zm 21 6,zA 22 .add (t 21) (zi 1),zm 6 22])))))) (zs [zm 60 5,zm 2 60,zM 3 (zi 0)] .ret)))))⟩
def ir21 : IFunc := ⟨8,[.tmp 4],(zs [zM 4 (v (.bool false))] (zs [zm 5 0,zm 6 1,zC 7 86 [(t 5),(t 6),(v (Fn 87))],zm 4 7] .ret))⟩
def ir22 : IFunc := ⟨8,[.tmp 4],(zs [zM 4 (v (.bool false))] (zs [zm 5 0,zm 6 1,zC 7 88 [(t 5),(t 6),(v (Fn 50))],zm 4 7] .ret))⟩
def ir27 : IFunc := ⟨9,[.tmp 4],(zs [zM 4 (v (.bool false))] (zs [zm 5 0,zm 6 1,zC 7 92 [(t 5),(t 6)],zA 8 .geq (t 7) (zi 0),zm 4 8] .ret))⟩
def ir50 : IFunc := ⟨26,[.tmp 4],(zs [zM 4 (v (.bool false))] (.seq (zs [zm 6 0,zn 7 6,zm 8 1,zn 9 8,za 10 .neq 7 9] (.cond (t 10) (zs [zM 4 (v (.bool false))] .ret) .skip)) (.seq (zs [zm 11 0,zn 12 11,zM 13 (zi 0)] (.block 0 (.loop (zs [za 14 .lss 13 12] (.seq (.cond (t 14) .skip (.exit 0)) (.seq (.block 1 (zs [zm 15 13,zm 5 15] (.seq (.draw [zm 16 0,zm 17 5,zx 18 1 16 17,zl 19 18,zm 20 1,zm 21 5,zx 22 1 20 21,zl 23 22] [za 24 .neq 19 23]) (.cond (t 24) (zs [zM 4 (v (.bool false))] .ret) .skip)))) (.ops [zA 25 .add (t 13) (zi 1),zm 13 25]))))))) (zs [zM 4 (v (.bool true))] .ret))))⟩
def ir67 : IFunc := ⟨137,[.tmp 2],(zs [zM 2 (v (.slice none 0 0))] (zs [zm 17 0,zC 18 132 [(t 17)],zm 19 0,zC 20 133 [(t 19)],zm 3 18,zm 4 20] (zs [zm 21 0,zn 22 21,zg 23 (.makeSlice 41 24 [(.slice none 0 0)] (t 22) (t 22)),zg 5 (.box 36 (v (.slice none 0 0))),zS 1 (t 5) (t 23)] (.seq (zs [zm 24 0,zn 25 24,zM 26 (zi 0)] (.block 0 (.loop (zs [za 27 .lss 26 25] (.seq (.cond (t 27) .skip (.exit 0)) (.seq (.block 1 (zs [zm 28 26,zg 6 (.box 3 (zi 0)),zS 1 (t 6) (t 28)] (zs [zm 29 0,zl 30 6,zC 31 134 [(t 29),(t 30)]] (.block 2 (.rangeFunc (t 31) [32] (.ops [zm 7 32]) (.block 3 (.draw [zl 33 5,zm 34 7,zl 35 5,zm 36 7,zx 37 1 35 36,zl 38 37,zl 39 6,zg 40 (.buildSlice 3 1 [(I 0)] [(0,1,(t 39))]),zg 41 (.append 3 1 8 (t 38) (t 40))] [zx 42 1 33 34,zS 1 (t 42) (t 41)]))))))) (.ops [zA 43 .add (t 26) (zi 1),zm 26 43]))))))) (zs [zM 8 (v (.slice none 0 0))] (.seq (zs [zm 44 0,zn 45 44,zM 46 (zi 0)] (.block 4 (.loop (zs [za 47 .lss 46 45] (.seq (.cond (t 47) .skip (.exit 4)) (.seq (.block 5 (zs [zm 48 46,zm 9 48] (zs [zg 49 (.makeMap),zm 10 49] (zs [zM 11 (v (.slice none 0 0))] (.seq (zs [zl 50 5,zm 51 9,zx 52 1 50 51,zl 53 52,zn 54 53,zM 55 (zi 0)] (.block 6 (.loop (zs [za 56 .lss 55 54] (.seq (.cond (t 56) .skip (.exit 6)) (.seq (.block 7 (zs [zx 57 1 53 55,zl 58 57,zm 13 58] (zs [zm 59 3,zm 60 13,zx 61 1 59 60,zl 62 61,zm 63 62,zG 64 63 true (.mov (t 4)),zG 65 63 true (.mov (t 9)),zG 66 63 true (.indexAddr 1 (t 64) (t 65)),zG 67 63 true (.load none (t 66)),zG 68 63 true (.mov (t 13)),zG 69 63 true (.indexAddr 1 (t 67) (t 68)),zG 70 63 true (.load none (t 69)),zP 71 (t 63) (t 70) (v (.bool false))] (.cond (t 71) (.ops [zm 72 11,zm 73 13,zg 74 (.buildSlice 3 1 [(I 0)] [(0,1,(t 73))]),zg 75 (.append 3 1 8 (t 72) (t 74)),zm 11 75]) .skip)))) (.ops [zA 76 .add (t 55) (zi 1),zm 55 76]))))))) (.seq (zs [zm 77 11,zn 78 77,zA 79 .eql (t 78) (zi 0)] (.cond (t 79) (.exit 5) .skip)) (zs [zm 80 10,zm 81 9,⟨none,none,.mapUpdate .int (t 80) (t 81) (v (.bool true))⟩] (.seq (.block 8 (.loop (.seq (zs [zm 82 11,zn 83 82,zA 84 .gtr (t 83) (zi 0)] (.cond (t 84) .skip (.exit 8))) (.block 9 (zs [zm 85 11,zm 86 11,zn 87 86,zA 88 .sub (t 87) (zi 1),zx 89 1 85 88,zl 90 89,zm 14 90] (zs [zm 91 11,zm 92 11,zn 93 92,zA 94 .sub (t 93) (zi 1),zg 95 (.slice 3 1 (t 91) none (some (t 94)) none),zm 11 95] (zs [zm 96 10,zm 97 14,zg 98 (.lookup .int (.bool false) false (t 96) (t 97)),zg 99 (.un .not (t 98)),zm 100 99,zG 101 100 true (.mov (t 3)),zG 102 100 true (.mov (t 14)),zG 103 100 true (.indexAddr 1 (t 101) (t 102)),zG 104 100 true (.load none (t 103)),zP 105 (t 100) (t 104) (v (.bool false))] (.cond (t 105) (zs [zm 106 10,zm 107 14,⟨none,none,.mapUpdate .int (t 106) (t 107) (v (.bool true))⟩] (.ops [zm 108 11,zl 109 5,zm 110 14,zx 111 1 109 110,zl 112 111,zg 113 (.append 3 1 8 (t 108) (t 112)),zm 11 113])) .skip)))))))) (zs [zm 114 9,zg 115 (.build [(I 0),(.slice none 0 0)] [(0,1,(t 114))]),zg 15 (.box 131 (v (.agg #[(I 0),(.slice none 0 0)]))),zS 2 (t 15) (t 115)] (.seq (zs [zm 116 0,zn 117 116,zM 118 (zi 0)] (.block 10 (.loop (zs [za 119 .lss 118 117] (.seq (.cond (t 119) .skip (.exit 10)) (.seq (.block 11 (zs [zm 120 118,zm 16 120] (zs [zm 121 10,zm 122 16,zg 123 (.lookup .int (.bool false) false (t 121) (t 122))] (.cond (t 123) (.ops [zf 124 1 15,zl 125 124,zm 126 16,zg 127 (.buildSlice 3 1 [(I 0)] [(0,1,(t 126))]),zg 128 (.append 3 1 8 (t 125) (t 127)),zf 129 1 15,zS 1 (t 129) (t 128)]) .skip)))) (.ops [zA 130 .add (t 118) (zi 1),zm 118 130]))))))) (.ops [zm 131 8,zg 132 (.load (some 2) (t 15)),zg 133 (.buildSlice 131 1 [(I 0),(.slice none 0 0)] [(0,2,(t 132))]),zg 134 (.append 131 2 32 (t 131) (t 133)),zm 8 134]))))))))))) (.ops [zA 135 .add (t 46) (zi 1),zm 46 135]))))))) (zs [zm 136 8,zm 2 136] .ret)))))))⟩
def ir68 : IFunc := ⟨53,[.tmp 2],(zs [zM 2 (v (.slice none 0 0))] (zs [zm 8 0,zC 9 133 [(t 8)],zm 3 9] (zs [zM 4 (v (.slice none 0 0))] (.seq (zs [zm 10 0,zn 11 10,zM 12 (zi 0)] (.block 0 (.loop (zs [za 13 .lss 12 11] (.seq (.cond (t 13) .skip (.exit 0)) (.seq (.block 1 (zs [zm 14 12,zm 5 14] (zs [zM 6 (zi (-1))] (.seq (zs [zm 15 0,zn 16 15,zM 17 (zi 0)] (.block 2 (.loop (zs [za 18 .lss 17 16] (.seq (.cond (t 18) .skip (.exit 2)) (.seq (.block 3 (zs [zm 19 17,zm 7 19] (zs [zm 20 7,zm 21 5,za 22 .neq 20 21,zm 23 22,zG 24 23 true (.mov (t 3)),zG 25 23 true (.mov (t 7)),zG 26 23 true (.indexAddr 1 (t 24) (t 25)),zG 27 23 true (.load none (t 26)),zG 28 23 true (.mov (t 5)),zG 29 23 true (.indexAddr 1 (t 27) (t 28)),zG 30 23 true (.load none (t 29)),zP 31 (t 23) (t 30) (v (.bool false)),zm 32 31,zG 33 32 true (.mov (t 6)),zG 34 32 true (.arith .lss (t 33) (zi 0)),zG 35 32 true (.mov (t 34)),zG 36 35 false (.mov (t 3)),zG 37 35 false (.mov (t 6)),zG 38 35 false (.indexAddr 1 (t 36) (t 37)),zG 39 35 false (.load none (t 38)),zG 40 35 false (.mov (t 7)),zG 41 35 false (.indexAddr 1 (t 39) (t 40)),zG 42 35 false (.load none (t 41)),zG 43 32 true (.pick (t 35) (v (.bool true)) (t 42)),zP 44 (t 32) (t 43) (v (.bool false))] (.cond (t 44) (.ops [zm 45 7,zm 6 45]) .skip)))) (.ops [zA 46 .add (t 17) (zi 1),zm 17 46]))))))) (.ops [zm 47 4,zm 48 6,zg 49 (.buildSlice 3 1 [(I 0)] [(0,1,(t 48))]),zg 50 (.append 3 1 8 (t 47) (t 49)),zm 4 50]))))) (.ops [zA 51 .add (t 12) (zi 1),zm 12 51]))))))) (zs [zm 52 4,zm 2 52] .ret)))))⟩
def ir69 : IFunc := ⟨28,[.cell 4 (some 4),.tmp 5],(zs [zg 2 (.box 24 (t 0)),zg 4 (.box 61 (v (.agg #[(S []),(I 0),(I 0),(.slice none 0 0)]))),zM 5 (zi 0)] (.seq (zs [zg 7 (.load (some 2) (t 2)),zC 8 81 [(t 7)],zm 6 8] (zs [zm 9 6,zA 10 .neq (t 9) (zi 0)] (.cond (t 10) (zs [zg 11 (.build [(S []),(I 0),(I 0),(.slice none 0 0)] []),zm 12 6,zS 4 (t 4) (t 11),zm 5 12] .ret) .skip))) (.seq (zs [zm 13 1,zA 14 .lss (t 13) (zi 0),zm 15 14,zG 16 15 false (.mov (t 1)),zG 17 15 false (.fieldAddr 1 (t 2)),zG 18 15 false (.load none (t 17)),zG 19 15 false (.lenSl (t 18)),zG 20 15 false (.arith .geq (t 16) (t 19)),zP 21 (t 15) (v (.bool true)) (t 20)] (.cond (t 21) (zs [zg 22 (.build [(S []),(I 0),(I 0),(.slice none 0 0)] []),zS 4 (t 4) (t 22),zM 5 (zi 250)] .ret) .skip)) (zs [zf 23 1 2,zl 24 23,zm 25 1,zx 26 4 24 25,zg 27 (.load (some 4) (t 26)),zS 4 (t 4) (t 27),zM 5 (zi 0)] .ret))))⟩
def ir70 : IFunc := ⟨150,[.tmp 2],(zs [zM 2 (v (.slice none 0 0))] (zs [zm 15 0,zn 16 15,zA 17 .add (t 16) (zi 1),zg 18 (.makeSlice 4 1 [(.bool false)] (t 17) (t 17)),zm 3 18] (zs [zm 19 3,zX 20 1 (t 19) (zi 0),zS 1 (t 20) (v (.bool true))] (.seq (zs [zm 21 0,zn 22 21,zM 23 (zi 0)] (.block 0 (.loop (zs [za 24 .lss 23 22] (.seq (.cond (t 24) .skip (.exit 0)) (.seq (.block 1 (zs [zm 25 23,zx 26 7 21 23,zg 27 (.load (some 7) (t 26)),zg 5 (.box 65 (v (.agg #[(I 0),(I 0),(I 0),(I 0),(I 0),(S []),(.slice none 0 0)]))),zm 4 25,zS 7 (t 5) (t 27)] (zs [zg 29 (.load (some 7) (t 5)),zC 30 135 [(t 29)],zm 28 30,zg 31 (.extract (t 28) 0),zg 32 (.extract (t 28) 1),zm 6 31,zm 7 32] (.seq (zs [zm 33 7] (.cond (t 33) (.ops [zm 34 3,zf 35 3 5,zl 36 35,zx 37 1 34 36,zS 1 (t 37) (v (.bool true))]) .skip)) (.ops [zm 38 3,zm 39 4,zA 40 .add (t 39) (zi 1),zm 41 3,zm 42 4,zA 43 .add (t 42) (zi 1),zx 44 1 41 43,zl 45 44,zm 46 45,zG 47 46 false (.mov (t 6)),zP 48 (t 46) (v (.bool true)) (t 47),zx 49 1 38 40,zS 1 (t 49) (t 48)]))))) (.ops [zA 50 .add (t 23) (zi 1),zm 23 50]))))))) (zs [zm 51 0,zn 52 51,zA 53 .add (t 52) (zi 1),zg 54 (.makeSlice 3 8 [(I 0)] (t 53) (t 53)),zm 8 54] (zs [zM 9 (v (.slice none 0 0))] (.seq (zs [zm 55 0,zn 56 55,zM 57 (zi 0)] (.block 2 (.loop (zs [za 58 .lss 57 56] (.seq (.cond (t 58) .skip (.exit 2)) (.seq (.block 3 (zs [zm 59 57,zm 10 59] (.seq (zs [zm 60 3,zm 61 10,zx 62 1 60 61,zl 63 62] (.cond (t 63) (.ops [zm 64 9,zm 65 10,zg 66 (.build [(I 0),(I 0),(.slice none 0 0)] [(0,1,(t 65))]),zg 67 (.buildSlice 143 1 [(I 0),(I 0),(.slice none 0 0)] [(0,3,(t 66))]),zg 68 (.append 143 3 40 (t 64) (t 67)),zm 9 68]) .skip)) (zs [zm 69 8,zm 70 10,zm 71 9,zn 72 71,zA 73 .sub (t 72) (zi 1),zx 74 1 69 70,zS 1 (t 74) (t 73)] (.ops [zm 75 9,zm 76 9,zn 77 76,zA 78 .sub (t 77) (zi 1),zm 79 10,zA 80 .add (t 79) (zi 1),zx 81 3 75 78,zf 82 1 81,zS 1 (t 82) (t 80)]))))) (.ops [zA 83 .add (t 57) (zi 1),zm 57 83]))))))) (.seq (zs [zm 84 9,zn 85 84,zM 86 (zi 0)] (.block 4 (.loop (zs [za 87 .lss 86 85] (.seq (.cond (t 87) .skip (.exit 4)) (.seq (.block 5 (zs [zm 88 86,zm 11 88] (zs [zm 89 9,zm 90 11,zx 91 3 89 90,zm 12 91] (zs [zm 92 0,zm 93 12,zg 94 (.nilCheck (t 93)),zf 95 1 94,zl 96 95,zA 97 .sub (t 96) (zi 1),zx 98 7 92 97,zg 99 (.load (some 7) (t 98)),zg 13 (.box 65 (v (.agg #[(I 0),(I 0),(I 0),(I 0),(I 0),(S []),(.slice none 0 0)]))),zS 7 (t 13) (t 99)] (zs [zf 100 0 13,zl 101 100] (.block 6 (zs [zA 109 .eql (t 101) (zi 22),zm 108 109] (.cond (t 108) .skip (zs [zA 111 .eql (t 101) (zi 19),zm 110 111] (.cond (t 110) (.ops [zm 112 12,zm 113 8,zf 114 3 13,zl 115 114,zx 116 1 113 115,zl 117 116,zg 118 (.buildSlice 3 1 [(I 0)] [(0,1,(t 117))]),zg 119 (.nilCheck (t 112)),zf 120 2 119,zS 1 (t 120) (t 118)]) (zs [zA 122 .eql (t 101) (zi 20),zm 121 122] (.cond (t 121) (zs [zm 123 12,zm 124 11,zA 125 .add (t 124) (zi 1),zg 126 (.buildSlice 3 1 [(I 0)] [(0,1,(t 125))]),zg 127 (.nilCheck (t 123)),zf 128 2 127,zS 1 (t 128) (t 126)] (zs [zm 129 8,zf 130 3 13,zl 131 130,zx 132 1 129 131,zl 133 132,zm 14 133] (zs [zm 134 14,zm 135 11,zA 136 .add (t 135) (zi 1),za 137 .neq 134 136] (.cond (t 137) (.ops [zm 138 12,zm 139 12,zg 140 (.nilCheck (t 139)),zf 141 2 140,zl 142 141,zm 143 14,zg 144 (.buildSlice 3 1 [(I 0)] [(0,1,(t 143))]),zg 145 (.append 3 1 8 (t 142) (t 144)),zg 146 (.nilCheck (t 138)),zf 147 2 146,zS 1 (t 147) (t 145)]) .skip)))) (.ops [zm 102 12,zm 103 11,zA 104 .add (t 103) (zi 1),zg 105 (.buildSlice 3 1 [(I 0)] [(0,1,(t 104))]),zg 106 (.nilCheck (t 102)),zf 107 2 106,zS 1 (t 107) (t 105)]))))))))))))) (.ops [zA 148 .add (t 86) (zi 1),zm 86 148]))))))) (zs [zm 149 9,zm 2 149] .ret)))))))))⟩
def ir71 : IFunc := ⟨20,[.tmp 4],(zs [zg 2 (.box 24 (t 0)),zM 4 (zi 0)] (.seq (zs [zg 6 (.load (some 2) (t 2)),zC 7 84 [(t 6)],zm 5 7] (zs [zm 8 5,zA 9 .neq (t 8) (zi 0)] (.cond (t 9) (zs [zm 10 5,zm 4 10] .ret) .skip))) (.seq (zs [zm 11 1,zA 12 .lss (t 11) (zi 0),zm 13 12,zG 14 13 false (.mov (t 1)),zG 15 13 false (.fieldAddr 1 (t 2)),zG 16 13 false (.load none (t 15)),zG 17 13 false (.lenSl (t 16)),zG 18 13 false (.arith .geq (t 14) (t 17)),zP 19 (t 13) (v (.bool true)) (t 18)] (.cond (t 19) (zs [zM 4 (zi 250)] .ret) .skip)) (zs [zM 4 (zi 0)] .ret))))⟩
def ir72 : IFunc := ⟨98,[.tmp 2],(zs [zM 2 (v (.slice none 0 0))] (zs [zg 8 (.buildSlice 155 0 [] []),zm 3 8] (.seq (zs [zM 4 (zi 0)] (.block 0 (.loop (.seq (zs [zm 9 4,zm 10 0,zn 11 10,za 12 .lss 9 11] (.cond (t 12) .skip (.exit 0))) (.seq (.block 1 (.seq (zs [zm 15 0,zm 16 4,zC 17 136 [(t 15),(t 16)]] (.cond (t 17) (.ops [zm 18 3,zm 19 4,zg 20 (.build [(I 0),(I 0),(.slice none 0 0)] [(0,1,(t 19))]),zg 21 (.buildSlice 155 1 [(I 0),(I 0),(.slice none 0 0)] [(0,3,(t 20))]),zg 22 (.append 155 3 40 (t 18) (t 21)),zm 3 22]) .skip)) (.ops [zm 23 3,zm 24 3,zn 25 24,zA 26 .sub (t 25) (zi 1),zm 27 4,zA 28 .add (t 27) (zi 1),zx 29 3 23 26,zf 30 1 29,zS 1 (t 30) (t 28)]))) (.ops [zm 13 4,zA 14 .add (t 13) (zi 1),zm 4 14])))))) (.seq (zs [zM 5 (zi 0)] (.block 2 (.loop (.seq (zs [zm 31 5,zm 32 3,zn 33 32,za 34 .lss 31 33] (.cond (t 34) .skip (.exit 2))) (.seq (.block 3 (zs [zm 37 0,zm 38 3,zm 39 5,zx 40 3 38 39,zf 41 1 40,zl 42 41,zA 43 .sub (t 42) (zi 1),zx 44 7 37 43,zg 45 (.load (some 7) (t 44)),zg 6 (.box 65 (v (.agg #[(I 0),(I 0),(I 0),(I 0),(I 0),(S []),(.slice none 0 0)]))),zS 7 (t 6) (t 45)] (zs [zf 46 0 6,zl 47 46] (.block 4 (zs [zA 56 .eql (t 47) (zi 22),zm 55 56] (.cond (t 55) .skip (zs [zA 58 .eql (t 47) (zi 19),zm 57 58] (.cond (t 57) (.ops [zm 59 3,zm 60 5,zm 61 3,zf 62 3 6,zl 63 62,zC 64 137 [(t 61),(t 63)],zg 65 (.buildSlice 3 1 [(I 0)] [(0,1,(t 64))]),zx 66 3 59 60,zf 67 2 66,zS 1 (t 67) (t 65)]) (zs [zA 69 .eql (t 47) (zi 20),zm 68 69] (.cond (t 68) (zs [zm 70 3,zm 71 5,zm 72 5,zA 73 .add (t 72) (zi 1),zg 74 (.buildSlice 3 1 [(I 0)] [(0,1,(t 73))]),zx 75 3 70 71,zf 76 2 75,zS 1 (t 76) (t 74)] (zs [zm 77 3,zf 78 3 6,zl 79 78,zC 80 137 [(t 77),(t 79)],zm 7 80] (zs [zm 81 7,zm 82 5,zA 83 .add (t 82) (zi 1),za 84 .neq 81 83] (.cond (t 84) (.ops [zm 85 3,zm 86 5,zm 87 3,zm 88 5,zx 89 3 87 88,zf 90 2 89,zl 91 90,zm 92 7,zg 93 (.buildSlice 3 1 [(I 0)] [(0,1,(t 92))]),zg 94 (.append 3 1 8 (t 91) (t 93)),zx 95 3 85 86,zf 96 2 95,zS 1 (t 96) (t 94)]) .skip)))) (.ops [zm 48 3,zm 49 5,zm 50 5,zA 51 .add (t 50) (zi 1),zg 52 (.buildSlice 3 1 [(I 0)] [(0,1,(t 51))]),zx 53 3 48 49,zf 54 2 53,zS 1 (t 54) (t 52)]))))))))))) (.ops [zm 35 5,zA 36 .add (t 35) (zi 1),zm 5 36])))))) (zs [zm 97 3,zm 2 97] .ret)))))⟩
def ir73 : IFunc := ⟨19,[.tmp 4,.tmp 5],(zs [zM 4 (zi 0),zM 5 (v .nilIface)] (zs [zm 6 0,zC 7 138 [(t 6)]] (zs [zm 8 0,zm 9 0,zg 10 (.nilCheck (t 9)),zf 11 1 10,zl 12 11,zm 13 1,zg 14 (.append 5 1 1 (t 12) (t 13)),zg 15 (.nilCheck (t 8)),zf 16 1 15,zS 1 (t 16) (t 14)] (zs [zm 17 1,zg 18 (.lenStr (t 17)),zm 4 18,zM 5 (v .nilIface)] .ret))))⟩
def ir74 : IFunc := ⟨5,[.tmp 2],(zs [zM 2 (v (S []))] (zs [zm 3 0,zC 4 139 [(t 3)],zm 2 4] .ret))⟩
def ir75 : IFunc := ⟨9,[.tmp 4],(zs [zM 4 (v (.bool false))] (zs [zm 5 0,zm 6 1,zC 7 140 [(t 5),(t 6)],zA 8 .geq (t 7) (zi 0),zm 4 8] .ret))⟩
def ir76 : IFunc := ⟨8,[.tmp 3],(zs [zg 2 (.box 131 (t 0)),zM 3 (v (.bool false))] (zs [zf 4 0 2,zl 5 4,zl 6 1,za 7 .eql 5 6,zm 3 7] .ret))⟩
def ir78 : IFunc := ⟨49,[.tmp 2],(zs [zM 2 (v (.slice none 0 0))] (zs [zg 7 (.buildSlice 3 0 [] []),zm 3 7] (.seq (zs [zM 4 (zi 0)] (.block 0 (.loop (.seq (zs [zm 8 4,zm 9 0,zn 10 9,za 11 .lss 8 10] (.cond (t 11) .skip (.exit 0))) (.seq (.block 1 (zs [zM 5 (zi (-1))] (.seq (zs [zM 6 (zi 0)] (.block 2 (.loop (.seq (zs [zm 14 6,zm 15 0,zn 16 15,za 17 .lss 14 16,zm 18 17,zG 19 18 true (.mov (t 4)),zG 20 18 true (.arith .gtr (t 19) (zi 0)),zP 21 (t 18) (t 20) (v (.bool false))] (.cond (t 21) .skip (.exit 2))) (.seq (.block 3 (zs [zm 24 6,zm 25 4,za 26 .neq 24 25,zm 27 26,zG 28 27 true (.mov (t 0)),zG 29 27 true (.mov (t 6)),zG 30 27 true (.mov (t 4)),zG 31 27 true (.call (v (Fn 141)) [(t 28),(t 29),(t 30)]),zP 32 (t 27) (t 31) (v (.bool false)),zm 33 32,zG 34 33 true (.mov (t 5)),zG 35 33 true (.arith .lss (t 34) (zi 0)),zG 36 33 true (.mov (t 35)),zG 37 36 false (.mov (t 0)),zG 38 36 false (.mov (t 5)),zG 39 36 false (.mov (t 6)),zG 40 36 false (.call (v (Fn 141)) [(t 37),(t 38),(t 39)]),zG 41 33 true (.pick (t 36) (v (.bool true)) (t 40)),zP 42 (t 33) (t 41) (v (.bool false))] (.cond (t 42) (.ops [zm 43 6,zm 5 43]) .skip))) (.ops [zm 22 6,zA 23 .add (t 22) (zi 1),zm 6 23])))))) (.ops [zm 44 3,zm 45 5,zg 46 (.buildSlice 3 1 [(I 0)] [(0,1,(t 45))]),zg 47 (.append 3 1 8 (t 44) (t 46)),zm 3 47])))) (.ops [zm 12 4,zA 13 .add (t 12) (zi 1),zm 4 13])))))) (zs [zm 48 3,zm 2 48] .ret))))⟩
def ir79 : IFunc := ⟨96,[.tmp 2],(zs [zM 2 (v (.slice none 0 0))] (zs [zg 12 (.buildSlice 156 0 [] []),zm 3 12] (zs [zm 13 0,zC 14 142 [(t 13)],zm 4 14] (.seq (zs [zM 5 (zi 0)] (.block 0 (.loop (.seq (zs [zm 15 5,zm 16 0,zn 17 16,za 18 .lss 15 17] (.cond (t 18) .skip (.exit 0))) (.seq (.block 1 (zs [zg 21 (.buildSlice 3 0 [] []),zm 6 21] (.seq (zs [zM 7 (zi 0)] (.block 2 (.loop (.seq (zs [zm 22 7,zm 23 0,zn 24 23,za 25 .lss 22 24] (.cond (t 25) .skip (.exit 2))) (.seq (.block 3 (zs [zm 28 0,zm 29 7,zm 30 5,zC 31 143 [(t 28),(t 29),(t 30)]] (.cond (t 31) (.ops [zm 32 6,zm 33 7,zC 34 85 [(t 32),(t 33)],zm 6 34]) .skip))) (.ops [zm 26 7,zA 27 .add (t 26) (zi 1),zm 7 27])))))) (.seq (zs [zm 35 6,zn 36 35,zA 37 .eql (t 36) (zi 0)] (.cond (t 37) (.exit 1) .skip)) (zs [zm 38 6,zm 39 5,zC 40 85 [(t 38),(t 39)],zm 6 40] (.seq (zs [zM 8 (v (.bool true))] (.block 4 (.loop (.seq (zs [zm 41 8] (.cond (t 41) .skip (.exit 4))) (.block 5 (zs [zM 8 (v (.bool false))] (zs [zM 9 (zi 0)] (.block 6 (.loop (.seq (zs [zm 42 9,zm 43 0,zn 44 43,za 45 .lss 42 44] (.cond (t 45) .skip (.exit 6))) (.seq (.block 7 (zs [zM 10 (zi 0)] (.block 8 (.loop (.seq (zs [zm 48 10,zm 49 0,zm 50 9,zx 51 3 49 50,zf 52 2 51,zl 53 52,zn 54 53,za 55 .lss 48 54] (.cond (t 55) .skip (.exit 8))) (.seq (.block 9 (zs [zm 58 0,zm 59 9,zx 60 3 58 59,zf 61 2 60,zl 62 61,zm 63 10,zx 64 1 62 63,zl 65 64,zm 11 65] (zs [zm 66 4,zm 67 9,zx 68 1 66 67,zl 69 68,zm 70 69,zG 71 70 true (.mov (t 11)),zG 72 70 true (.mov (t 5)),zG 73 70 true (.arith .neq (t 71) (t 72)),zP 74 (t 70) (t 73) (v (.bool false)),zm 75 74,zG 76 75 true (.mov (t 6)),zG 77 75 true (.mov (t 11)),zG 78 75 true (.call (v (Fn 144)) [(t 76),(t 77)]),zP 79 (t 75) (t 78) (v (.bool false)),zm 80 79,zG 81 80 true (.mov (t 6)),zG 82 80 true (.mov (t 9)),zG 83 80 true (.call (v (Fn 144)) [(t 81),(t 82)]),zG 84 80 true (.un .not (t 83)),zP 85 (t 80) (t 84) (v (.bool false))] (.cond (t 85) (zs [zm 86 6,zm 87 9,zC 88 85 [(t 86),(t 87)],zm 6 88] (.ops [zM 8 (v (.bool true))])) .skip)))) (.ops [zm 56 10,zA 57 .add (t 56) (zi 1),zm 10 57]))))))) (.ops [zm 46 9,zA 47 .add (t 46) (zi 1),zm 9 47])))))))))))) (.ops [zm 89 3,zm 90 5,zm 91 6,zg 92 (.build [(I 0),(.slice none 0 0)] [(0,1,(t 90)),(1,1,(t 91))]),zg 93 (.buildSlice 156 1 [(I 0),(.slice none 0 0)] [(0,2,(t 92))]),zg 94 (.append 156 2 32 (t 89) (t 93)),zm 3 94]))))))) (.ops [zm 19 5,zA 20 .add (t 19) (zi 1),zm 5 20])))))) (zs [zm 95 3,zm 2 95] .ret)))))⟩
def ir80 : IFunc := ⟨18,[.tmp 2],(zs [zM 2 (v (S []))] (zs [zm 4 0,zA 5 .rem (t 4) (zi 10),zA 6 .add (zi 48) (t 5),zg 7 (.toInt .u8 (t 6)),zg 8 (.buildSlice 5 1 [(.int .u8 0)] [(0,1,(t 7))]),zg 9 (.ofBytes (t 8)),zm 3 9] (.seq (zs [zm 10 0,zA 11 .geq (t 10) (zi 10)] (.cond (t 11) (zs [zm 12 0,zA 13 .quo (t 12) (zi 10),zC 14 80 [(t 13)],zm 15 3,za 16 .add 14 15,zm 2 16] .ret) .skip)) (zs [zm 17 3,zm 2 17] .ret))))⟩
def ir81 : IFunc := ⟨110,[.tmp 2],(zs [zg 1 (.box 24 (t 0)),zM 2 (zi 0)] (zs [zM 3 (zi 0)] (.seq (zs [zf 9 1 1,zl 10 9,zn 11 10,zM 12 (zi 0)] (.block 0 (.loop (zs [za 13 .lss 12 11] (.seq (.cond (t 13) .skip (.exit 0)) (.seq (.block 1 (zs [zx 14 4 10 12,zg 15 (.load (some 4) (t 14)),zg 5 (.box 61 (v (.agg #[(S []),(I 0),(I 0),(.slice none 0 0)]))),zS 4 (t 5) (t 15)] (.ops [zm 16 3,zf 17 3 5,zl 18 17,zn 19 18,za 20 .add 16 19,zm 3 20]))) (.ops [zA 21 .add (t 12) (zi 1),zm 12 21]))))))) (.seq (.block 2 (zs [zf 23 1 1,zl 24 23,zn 25 24,zA 26 .eql (t 25) (zi 0),zm 27 26,zG 28 27 false (.fieldAddr 1 (t 1)),zG 29 27 false (.load none (t 28)),zG 30 27 false (.lenSl (t 29)),zG 31 27 false (.arith .gtr (t 30) (zi 800)),zP 32 (t 27) (v (.bool true)) (t 31),zm 33 32,zG 34 33 false (.mov (t 3)),zG 35 33 false (.arith .gtr (t 34) (zi 20000)),zP 36 (t 33) (v (.bool true)) (t 35),zm 37 36,zG 38 37 false (.fieldAddr 0 (t 1)),zG 39 37 false (.load none (t 38)),zG 40 37 false (.arith .lss (t 39) (zi 0)),zP 41 (t 37) (v (.bool true)) (t 40),zm 42 41,zG 43 42 false (.fieldAddr 0 (t 1)),zG 44 42 false (.load none (t 43)),zG 45 42 false (.arith .gtr (t 44) (zi 1000)),zP 46 (t 42) (v (.bool true)) (t 45),zm 22 46] (.cond (t 22) (zs [zM 2 (zi 5)] .ret) (zs [zf 48 1 1,zl 49 48,zC 50 145 [(t 49),(v (Fn 146))],zm 47 50] (.cond (t 47) (zs [zM 2 (zi 5)] .ret) .skip))))) (.seq (zs [zf 51 1 1,zl 52 51,zn 53 52,zM 54 (zi 0)] (.block 3 (.loop (zs [za 55 .lss 54 53] (.seq (.cond (t 55) .skip (.exit 3)) (.seq (.block 4 (zs [zm 56 54,zx 57 4 52 54,zg 58 (.load (some 4) (t 57)),zg 7 (.box 61 (v (.agg #[(S []),(I 0),(I 0),(.slice none 0 0)]))),zm 6 56,zS 4 (t 7) (t 58)] (.seq (zs [zf 59 0 7,zl 60 59,zC 61 147 [(t 60)],zg 62 (.un .not (t 61)),zm 63 62,zG 64 63 false (.fieldAddr 2 (t 7)),zG 65 63 false (.load none (t 64)),zG 66 63 false (.arith .lss (t 65) (zi 0)),zP 67 (t 63) (v (.bool true)) (t 66),zm 68 67,zG 69 68 false (.fieldAddr 2 (t 7)),zG 70 68 false (.load none (t 69)),zG 71 68 false (.fieldAddr 1 (t 7)),zG 72 68 false (.load none (t 71)),zG 73 68 false (.arith .gtr (t 70) (t 72)),zP 74 (t 68) (v (.bool true)) (t 73),zm 75 74,zG 76 75 false (.mov (t 6)),zG 77 75 false (.arith .eql (t 76) (zi 0)),zG 78 75 false (.mov (t 77)),zG 79 78 true (.fieldAddr 2 (t 7)),zG 80 78 true (.load none (t 79)),zG 81 78 true (.arith .gtr (t 80) (zi 0)),zG 82 75 false (.pick (t 78) (t 81) (v (.bool false))),zP 83 (t 75) (v (.bool true)) (t 82),zm 84 83,zG 85 84 false (.fieldAddr 3 (t 7)),zG 86 84 false (.load none (t 85)),zG 87 84 false (.lenSl (t 86)),zG 88 84 false (.arith .eql (t 87) (zi 0)),zP 89 (t 84) (v (.bool true)) (t 88)] (.cond (t 89) (zs [zM 2 (zi 190)] .ret) .skip)) (.seq (zs [zf 90 3 7,zl 91 90,zf 92 3 7,zl 93 92,zn 94 93,zA 95 .sub (t 94) (zi 1),zx 96 7 91 95,zf 97 0 96,zl 98 97,zm 8 98] (zs [zm 99 8,zA 100 .neq (t 99) (zi 22),zm 101 100,zG 102 101 true (.mov (t 8)),zG 103 101 true (.arith .neq (t 102) (zi 19)),zP 104 (t 101) (t 103) (v (.bool false))] (.cond (t 104) (zs [zM 2 (zi 190)] .ret) .skip))) (zs [zf 105 3 7,zl 106 105,zg 107 (.func 148 [] [(t 1),(t 7)]),zC 108 27 [(t 106),(t 107)]] (.cond (t 108) (zs [zM 2 (zi 190)] .ret) .skip)))))) (.ops [zA 109 .add (t 54) (zi 1),zm 54 109]))))))) (zs [zM 2 (zi 0)] .ret))))))⟩
def ir84 : IFunc := ⟨128,[.tmp 2],(zs [zg 1 (.box 24 (t 0)),zM 2 (zi 0)] (.seq (zs [zf 9 1 1,zl 10 9,zn 11 10,zA 12 .eql (t 11) (zi 0),zm 13 12,zG 14 13 false (.fieldAddr 1 (t 1)),zG 15 13 false (.load none (t 14)),zG 16 13 false (.lenSl (t 15)),zG 17 13 false (.arith .gtr (t 16) (zi 800)),zP 18 (t 13) (v (.bool true)) (t 17),zm 19 18,zG 20 19 false (.fieldAddr 0 (t 1)),zG 21 19 false (.load none (t 20)),zG 22 19 false (.arith .lss (t 21) (zi 0)),zP 23 (t 19) (v (.bool true)) (t 22),zm 24 23,zG 25 24 false (.fieldAddr 0 (t 1)),zG 26 24 false (.load none (t 25)),zG 27 24 false (.arith .gtr (t 26) (zi 1000)),zP 28 (t 24) (v (.bool true)) (t 27)] (.cond (t 28) (zs [zM 2 (zi 5)] .ret) .skip)) (zs [zM 3 (zi 0)] (.seq (zs [zM 4 (zi 0)] (.block 0 (.loop (.seq (zs [zm 29 4,zf 30 1 1,zl 31 30,zn 32 31,za 33 .lss 29 32] (.cond (t 33) .skip (.exit 0))) (.seq (.block 1 (zs [zm 36 3,zf 37 1 1,zl 38 37,zm 39 4,zx 40 4 38 39,zf 41 3 40,zl 42 41,zn 43 42,za 44 .add 36 43,zm 3 44] (zs [zf 45 1 1,zl 46 45,zm 47 4,zx 48 4 46 47,zf 49 1 48,zl 50 49,zA 51 .gtr (t 50) (zi 5000)] (.cond (t 51) (zs [zM 2 (zi 5)] .ret) .skip)))) (.ops [zm 34 4,zA 35 .add (t 34) (zi 1),zm 4 35])))))) (.seq (zs [zm 52 3,zA 53 .gtr (t 52) (zi 20000)] (.cond (t 53) (zs [zM 2 (zi 5)] .ret) .skip)) (.seq (zs [zM 5 (zi 0)] (.block 2 (.loop (.seq (zs [zm 54 5,zf 55 1 1,zl 56 55,zn 57 56,za 58 .lss 54 57] (.cond (t 58) .skip (.exit 2))) (.seq (.block 3 (zs [zf 61 1 1,zl 62 61,zm 63 5,zx 64 4 62 63,zg 65 (.load (some 4) (t 64)),zg 6 (.box 61 (v (.agg #[(S []),(I 0),(I 0),(.slice none 0 0)]))),zS 4 (t 6) (t 65)] (.seq (zs [zf 66 0 6,zl 67 66,zC 68 152 [(t 67)],zg 69 (.un .not (t 68)),zm 70 69,zG 71 70 false (.fieldAddr 2 (t 6)),zG 72 70 false (.load none (t 71)),zG 73 70 false (.arith .lss (t 72) (zi 0)),zP 74 (t 70) (v (.bool true)) (t 73),zm 75 74,zG 76 75 false (.fieldAddr 2 (t 6)),zG 77 75 false (.load none (t 76)),zG 78 75 false (.fieldAddr 1 (t 6)),zG 79 75 false (.load none (t 78)),zG 80 75 false (.arith .gtr (t 77) (t 79)),zP 81 (t 75) (v (.bool true)) (t 80),zm 82 81,zG 83 82 false (.mov (t 5)),zG 84 82 false (.arith .eql (t 83) (zi 0)),zG 85 82 false (.mov (t 84)),zG 86 85 true (.fieldAddr 2 (t 6)),zG 87 85 true (.load none (t 86)),zG 88 85 true (.arith .gtr (t 87) (zi 0)),zG 89 82 false (.pick (t 85) (t 88) (v (.bool false))),zP 90 (t 82) (v (.bool true)) (t 89),zm 91 90,zG 92 91 false (.fieldAddr 3 (t 6)),zG 93 91 false (.load none (t 92)),zG 94 91 false (.lenSl (t 93)),zG 95 91 false (.arith .eql (t 94) (zi 0)),zP 96 (t 91) (v (.bool true)) (t 95)] (.cond (t 96) (zs [zM 2 (zi 190)] .ret) .skip)) (.seq (zs [zf 97 3 6,zl 98 97,zf 99 3 6,zl 100 99,zn 101 100,zA 102 .sub (t 101) (zi 1),zx 103 7 98 102,zf 104 0 103,zl 105 104,zm 7 105] (zs [zm 106 7,zA 107 .neq (t 106) (zi 22),zm 108 107,zG 109 108 true (.mov (t 7)),zG 110 108 true (.arith .neq (t 109) (zi 19)),zP 111 (t 108) (t 110) (v (.bool false))] (.cond (t 111) (zs [zM 2 (zi 190)] .ret) .skip))) (zs [zM 8 (zi 0)] (.block 4 (.loop (.seq (zs [zm 112 8,zf 113 3 6,zl 114 113,zn 115 114,za 116 .lss 112 115] (.cond (t 116) .skip (.exit 4))) (.seq (.block 5 (.seq (.draw [zg 119 (.load (some 2) (t 1)),zg 120 (.load (some 4) (t 6)),zf 121 3 6,zl 122 121,zm 123 8,zx 124 7 122 123,zg 125 (.load (some 7) (t 124))] [zC 126 153 [(t 119),(t 120),(t 125)],zg 127 (.un .not (t 126))]) (.cond (t 127) (zs [zM 2 (zi 190)] .ret) .skip))) (.ops [zm 117 8,zA 118 .add (t 117) (zi 1),zm 8 118])))))))))) (.ops [zm 59 5,zA 60 .add (t 59) (zi 1),zm 5 60])))))) (zs [zM 2 (zi 0)] .ret)))))))⟩
def ir85 : IFunc := ⟨36,[.tmp 4],(zs [zM 4 (v (.slice none 0 0))] (.seq (zs [zm 6 0,zm 7 1,zC 8 144 [(t 6),(t 7)]] (.cond (t 8) (zs [zm 9 0,zm 4 9] .ret) .skip)) (zs [zM 5 (zi 0)] (.seq (.block 0 (.loop (.seq (zs [zm 10 5,zm 11 0,zn 12 11,za 13 .lss 10 12,zm 14 13,zG 15 14 true (.mov (t 0)),zG 16 14 true (.mov (t 5)),zG 17 14 true (.indexAddr 1 (t 15) (t 16)),zG 18 14 true (.load none (t 17)),zG 19 14 true (.mov (t 1)),zG 20 14 true (.arith .lss (t 18) (t 19)),zP 21 (t 14) (t 20) (v (.bool false))] (.cond (t 21) .skip (.exit 0))) (.block 1 (.ops [zm 22 5,zA 23 .add (t 22) (zi 1),zm 5 23]))))) (.seq (.draw [zg 24 (.buildSlice 3 0 [] []),zm 25 0,zm 26 5,zg 27 (.slice 3 1 (t 25) none (some (t 26)) none),zg 28 (.append 3 1 8 (t 24) (t 27)),zm 29 1,zg 30 (.buildSlice 3 1 [(I 0)] [(0,1,(t 29))]),zg 31 (.append 3 1 8 (t 28) (t 30)),zm 32 0,zm 33 5,zg 34 (.slice 3 1 (t 32) (some (t 33)) none none)] [zg 35 (.append 3 1 8 (t 31) (t 34)),zm 4 35]) .ret)))))⟩
def ir86 : IFunc := ⟨32,[.tmp 6],(zs [zM 6 (v (.bool false))] (.seq (zs [zm 10 0,zn 11 10,zm 12 1,zn 13 12,za 14 .neq 11 13] (.cond (t 14) (zs [zM 6 (v (.bool false))] .ret) .skip)) (.seq (zs [zm 15 0,zn 16 15,zM 17 (zi 0)] (.block 0 (.loop (zs [za 18 .lss 17 16] (.seq (.cond (t 18) .skip (.exit 0)) (.seq (.block 1 (zs [zm 19 17,zx 20 3 15 17,zg 21 (.load (some 3) (t 20)),zg 8 (.box 143 (v (.agg #[(I 0),(I 0),(.slice none 0 0)]))),zm 7 19,zS 3 (t 8) (t 21)] (zs [zm 22 1,zm 23 7,zx 24 3 22 23,zg 25 (.load (some 3) (t 24)),zg 9 (.box 155 (v (.agg #[(I 0),(I 0),(.slice none 0 0)]))),zS 3 (t 9) (t 25)] (zs [zm 26 2,zg 27 (.load (some 3) (t 8)),zg 28 (.load (some 3) (t 9)),zg 29 (.call (t 26) [(t 27),(t 28)]),zg 30 (.un .not (t 29))] (.cond (t 30) (zs [zM 6 (v (.bool false))] .ret) .skip))))) (.ops [zA 31 .add (t 17) (zi 1),zm 17 31]))))))) (zs [zM 6 (v (.bool true))] .ret))))⟩
def ir87 : IFunc := ⟨24,[.tmp 4],(zs [zg 2 (.box 143 (t 0)),zg 3 (.box 155 (t 1)),zM 4 (v (.bool false))] (zs [zf 5 0 2,zl 6 5,zf 7 0 3,zl 8 7,za 9 .eql 6 8,zm 10 9,zG 11 10 true (.fieldAddr 1 (t 2)),zG 12 10 true (.load none (t 11)),zG 13 10 true (.fieldAddr 1 (t 3)),zG 14 10 true (.load none (t 13)),zG 15 10 true (.arith .eql (t 12) (t 14)),zP 16 (t 10) (t 15) (v (.bool false)),zm 17 16,zG 18 17 true (.fieldAddr 2 (t 2)),zG 19 17 true (.load none (t 18)),zG 20 17 true (.fieldAddr 2 (t 3)),zG 21 17 true (.load none (t 20)),zG 22 17 true (.call (v (Fn 50)) [(t 19),(t 21)]),zP 23 (t 17) (t 22) (v (.bool false)),zm 4 23] .ret))⟩
def ir88 : IFunc := ⟨32,[.tmp 6],(zs [zM 6 (v (.bool false))] (.seq (zs [zm 10 0,zn 11 10,zm 12 1,zn 13 12,za 14 .neq 11 13] (.cond (t 14) (zs [zM 6 (v (.bool false))] .ret) .skip)) (.seq (zs [zm 15 0,zn 16 15,zM 17 (zi 0)] (.block 0 (.loop (zs [za 18 .lss 17 16] (.seq (.cond (t 18) .skip (.exit 0)) (.seq (.block 1 (zs [zm 19 17,zx 20 1 15 17,zl 21 20,zm 7 19,zm 8 21] (zs [zm 22 1,zm 23 7,zx 24 1 22 23,zl 25 24,zm 9 25] (zs [zm 26 2,zm 27 8,zm 28 9,zg 29 (.call (t 26) [(t 27),(t 28)]),zg 30 (.un .not (t 29))] (.cond (t 30) (zs [zM 6 (v (.bool false))] .ret) .skip))))) (.ops [zA 31 .add (t 17) (zi 1),zm 17 31]))))))) (zs [zM 6 (v (.bool true))] .ret))))⟩
def ir92 : IFunc := ⟨19,[.tmp 4],(zs [zM 4 (zi 0)] (.seq (zs [zm 6 0,zn 7 6,zM 8 (zi 0)] (.block 0 (.loop (zs [za 9 .lss 8 7] (.seq (.cond (t 9) .skip (.exit 0)) (.seq (.block 1 (zs [zm 10 8,zm 5 10] (zs [zm 11 1,zm 12 0,zm 13 5,zx 14 7 12 13,zg 15 (.load (some 7) (t 14)),zg 16 (.call (t 11) [(t 15)])] (.cond (t 16) (zs [zm 17 5,zm 4 17] .ret) .skip)))) (.ops [zA 18 .add (t 8) (zi 1),zm 8 18]))))))) (zs [zM 4 (zi (-1))] .ret)))⟩
def ir125 : IFunc := ⟨14,[.cell 2 (some 6),.tmp 3],(zs [zg 2 (.box 223 (v (.agg #[(S []),(I 0),(I 0),(I 0),(I 0),(S [])]))),zM 3 (v (.bool false))] (.seq (zs [zm 4 0,zA 5 .lss (t 4) (zi 1),zm 6 5,zG 7 6 false (.mov (t 0)),zG 8 6 false (.arith .gtr (t 7) (zi 37)),zP 9 (t 6) (v (.bool true)) (t 8)] (.cond (t 9) (zs [zg 10 (.build [(S []),(I 0),(I 0),(I 0),(I 0),(S [])] []),zS 6 (t 2) (t 10),zM 3 (v (.bool false))] .ret) .skip)) (zs [zC 11 187 [],zm 12 0,zg 13 (.indexArr 38 6 (some 6) (t 11) (t 12)),zS 6 (t 2) (t 13),zM 3 (v (.bool true))] .ret)))⟩
def ir126 : IFunc := ⟨26,[.cell 4 (some 8)],(zs [zg 2 (.box 223 (t 0)),zg 3 (.box 65 (t 1)),zg 4 (.box 226 (v (.agg #[(I 0),(I 0),(I 0),(I 0),(I 0),(I 0),(I 0),(I 0)])))] (zs [zf 5 1 2,zl 6 5,zf 7 1 3,zl 8 7,zg 9 (.build [(I 0),(I 0)] [(0,1,(t 6)),(1,1,(t 8))]),zf 10 2 2,zl 11 10,zf 12 2 3,zl 13 12,zg 14 (.build [(I 0),(I 0)] [(0,1,(t 11)),(1,1,(t 13))]),zf 15 3 2,zl 16 15,zf 17 3 3,zl 18 17,zg 19 (.build [(I 0),(I 0)] [(0,1,(t 16)),(1,1,(t 18))]),zf 20 4 2,zl 21 20,zf 22 4 3,zl 23 22,zg 24 (.build [(I 0),(I 0)] [(0,1,(t 21)),(1,1,(t 23))]),zg 25 (.build [(I 0),(I 0),(I 0),(I 0),(I 0),(I 0),(I 0),(I 0)] [(0,2,(t 9)),(2,2,(t 14)),(4,2,(t 19)),(6,2,(t 24))]),zS 8 (t 4) (t 25)] .ret))⟩
def ir132 : IFunc := ⟨5,[.tmp 2],(zs [zM 2 (v (.slice none 0 0))] (zs [zm 3 0,zC 4 189 [(t 3),(zi (-1))],zm 2 4] .ret))⟩
def ir133 : IFunc := ⟨57,[.tmp 2],(zs [zM 2 (v (.slice none 0 0))] (zs [zm 8 0,zC 9 132 [(t 8)],zm 3 9] (zs [zm 10 0,zn 11 10,zg 12 (.makeSlice 232 24 [(.slice none 0 0)] (t 11) (t 11)),zm 4 12] (.seq (zs [zm 13 0,zn 14 13,zM 15 (zi 0)] (.block 0 (.loop (zs [za 16 .lss 15 14] (.seq (.cond (t 16) .skip (.exit 0)) (.seq (.block 1 (zs [zm 17 15,zm 5 17] (zs [zm 18 4,zm 19 5,zm 20 0,zn 21 20,zg 22 (.makeSlice 4 1 [(.bool false)] (t 21) (t 21)),zx 23 1 18 19,zS 1 (t 23) (t 22)] (.seq (zs [zm 24 3,zm 25 5,zx 26 1 24 25,zl 27 26,zg 28 (.un .not (t 27))] (.cond (t 28) (.exit 1) .skip)) (zs [zm 29 0,zm 30 5,zC 31 189 [(t 29),(t 30)],zm 6 31] (zs [zm 32 0,zn 33 32,zM 34 (zi 0)] (.block 2 (.loop (zs [za 35 .lss 34 33] (.seq (.cond (t 35) .skip (.exit 2)) (.seq (.block 3 (zs [zm 36 34,zm 7 36] (.draw [zm 37 4,zm 38 5,zx 39 1 37 38,zl 40 39,zm 41 7,zm 42 3,zm 43 7,zx 44 1 42 43,zl 45 44,zm 46 45,zG 47 46 true (.mov (t 6)),zG 48 46 true (.mov (t 7)),zG 49 46 true (.indexAddr 1 (t 47) (t 48)),zG 50 46 true (.load none (t 49)),zG 51 46 true (.un .not (t 50)),zP 52 (t 46) (t 51) (v (.bool false))] [zx 53 1 40 41,zS 1 (t 53) (t 52)]))) (.ops [zA 54 .add (t 34) (zi 1),zm 34 54])))))))))))) (.ops [zA 55 .add (t 15) (zi 1),zm 15 55]))))))) (zs [zm 56 4,zm 2 56] .ret)))))⟩
def ir134 : IFunc := ⟨6,[.tmp 4],(zs [zg 2 (.box 27 (t 0)),zg 3 (.box 3 (t 1)),zM 4 (v .nilFunc)] (zs [zg 5 (.func 190 [] [(t 2),(t 3)]),zm 4 5] .ret))⟩
def ir135 : IFunc := ⟨12,[.tmp 2,.tmp 3],(zs [zg 1 (.box 65 (t 0)),zM 2 (v (.bool false)),zM 3 (v (.bool false))] (.seq (zs [zf 4 0 1,zl 5 4] (.block 0 (.seq (zs [zA 7 .eql (t 5) (zi 19),zm 6 7] (.cond (t 6) .skip (.ops [zA 8 .eql (t 5) (zi 20),zm 6 8]))) (.cond (t 6) (zs [zM 2 (v (.bool true)),zM 3 (v (.bool true))] .ret) .skip)))) (zs [zf 9 0 1,zl 10 9,zA 11 .eql (t 10) (zi 22),zm 2 11,zM 3 (v (.bool false))] .ret)))⟩
def ir136 : IFunc := ⟨54,[.tmp 4],(zs [zM 4 (v (.bool false))] (.seq (zs [zm 7 1,zA 8 .eql (t 7) (zi 0)] (.cond (t 8) (zs [zM 4 (v (.bool true))] .ret) .skip)) (zs [zm 9 0,zm 10 1,zA 11 .sub (t 10) (zi 1),zx 12 7 9 11,zf 13 0 12,zl 14 13,zm 5 14] (.seq (zs [zm 15 5,zA 16 .eql (t 15) (zi 19),zm 17 16,zG 18 17 false (.mov (t 5)),zG 19 17 false (.arith .eql (t 18) (zi 20)),zP 20 (t 17) (v (.bool true)) (t 19),zm 21 20,zG 22 21 false (.mov (t 5)),zG 23 21 false (.arith .eql (t 22) (zi 22)),zP 24 (t 21) (v (.bool true)) (t 23)] (.cond (t 24) (zs [zM 4 (v (.bool true))] .ret) .skip)) (.seq (zs [zM 6 (zi 0)] (.block 0 (.loop (.seq (zs [zm 25 6,zm 26 0,zn 27 26,za 28 .lss 25 27] (.cond (t 28) .skip (.exit 0))) (.seq (.block 1 (zs [zm 31 0,zm 32 6,zx 33 7 31 32,zf 34 0 33,zl 35 34,zA 36 .eql (t 35) (zi 19),zm 37 36,zG 38 37 false (.mov (t 0)),zG 39 37 false (.mov (t 6)),zG 40 37 false (.indexAddr 7 (t 38) (t 39)),zG 41 37 false (.fieldAddr 0 (t 40)),zG 42 37 false (.load none (t 41)),zG 43 37 false (.arith .eql (t 42) (zi 20)),zP 44 (t 37) (v (.bool true)) (t 43),zm 45 44,zG 46 45 true (.mov (t 0)),zG 47 45 true (.mov (t 6)),zG 48 45 true (.indexAddr 7 (t 46) (t 47)),zG 49 45 true (.fieldAddr 3 (t 48)),zG 50 45 true (.load none (t 49)),zG 51 45 true (.mov (t 1)),zG 52 45 true (.arith .eql (t 50) (t 51)),zP 53 (t 45) (t 52) (v (.bool false))] (.cond (t 53) (zs [zM 4 (v (.bool true))] .ret) .skip))) (.ops [zm 29 6,zA 30 .add (t 29) (zi 1),zm 6 30])))))) (zs [zM 4 (v (.bool false))] .ret))))))⟩
def ir137 : IFunc := ⟨16,[.tmp 4],(zs [zM 4 (zi 0)] (zs [zM 5 (zi 0)] (.seq (.block 0 (.loop (.seq (zs [zm 6 0,zm 7 5,zx 8 3 6 7,zf 9 0 8,zl 10 9,zm 11 1,za 12 .neq 10 11] (.cond (t 12) .skip (.exit 0))) (.block 1 (.ops [zm 13 5,zA 14 .add (t 13) (zi 1),zm 5 14]))))) (zs [zm 15 5,zm 4 15] .ret))))⟩
def ir139 : IFunc := ⟨5,[.tmp 2],(zs [zM 2 (v (S []))] (zs [zm 3 0,zC 4 192 [(t 3),(zi 10)],zm 2 4] .ret))⟩
def ir140 : IFunc := ⟨19,[.tmp 4],(zs [zM 4 (zi 0)] (.seq (zs [zm 6 0,zn 7 6,zM 8 (zi 0)] (.block 0 (.loop (zs [za 9 .lss 8 7] (.seq (.cond (t 9) .skip (.exit 0)) (.seq (.block 1 (zs [zm 10 8,zm 5 10] (zs [zm 11 1,zm 12 0,zm 13 5,zx 14 2 12 13,zg 15 (.load (some 2) (t 14)),zg 16 (.call (t 11) [(t 15)])] (.cond (t 16) (zs [zm 17 5,zm 4 17] .ret) .skip)))) (.ops [zA 18 .add (t 8) (zi 1),zm 8 18]))))))) (zs [zM 4 (zi (-1))] .ret)))⟩
def ir141 : IFunc := ⟨26,[.tmp 6],(zs [zM 6 (v (.bool false))] (zs [zm 7 0,zC 8 142 [(t 7)],zm 9 2,zx 10 1 8 9,zl 11 10,zm 12 11,zG 13 12 true (.mov (t 1)),zG 14 12 true (.mov (t 2)),zG 15 12 true (.arith .eql (t 13) (t 14)),zG 16 12 true (.mov (t 15)),zG 17 16 false (.mov (t 0)),zG 18 16 false (.mov (t 1)),zG 19 16 false (.call (v (Fn 193)) [(t 17),(t 18)]),zG 20 16 false (.mov (t 2)),zG 21 16 false (.indexAddr 1 (t 19) (t 20)),zG 22 16 false (.load none (t 21)),zG 23 16 false (.un .not (t 22)),zG 24 12 true (.pick (t 16) (v (.bool true)) (t 23)),zP 25 (t 12) (t 24) (v (.bool false)),zm 6 25] .ret))⟩
def ir142 : IFunc := ⟨5,[.tmp 2],(zs [zM 2 (v (.slice none 0 0))] (zs [zm 3 0,zC 4 193 [(t 3),(zi (-1))],zm 2 4] .ret))⟩
def ir143 : IFunc := ⟨20,[.tmp 6],(zs [zM 6 (v (.bool false))] (zs [zm 7 0,zm 8 1,zx 9 3 7 8,zf 10 2 9,zl 11 10,zm 12 2,zC 13 144 [(t 11),(t 12)],zm 14 13,zG 15 14 true (.mov (t 0)),zG 16 14 true (.mov (t 2)),zG 17 14 true (.mov (t 1)),zG 18 14 true (.call (v (Fn 141)) [(t 15),(t 16),(t 17)]),zP 19 (t 14) (t 18) (v (.bool false)),zm 6 19] .ret))⟩
def ir144 : IFunc := ⟨18,[.tmp 4],(zs [zM 4 (v (.bool false))] (.seq (zs [zM 5 (zi 0)] (.block 0 (.loop (.seq (zs [zm 6 5,zm 7 0,zn 8 7,za 9 .lss 6 8] (.cond (t 9) .skip (.exit 0))) (.seq (.block 1 (zs [zm 12 0,zm 13 5,zx 14 1 12 13,zl 15 14,zm 16 1,za 17 .eql 15 16] (.cond (t 17) (zs [zM 4 (v (.bool true))] .ret) .skip))) (.ops [zm 10 5,zA 11 .add (t 10) (zi 1),zm 5 11])))))) (zs [zM 4 (v (.bool false))] .ret)))⟩
def ir145 : IFunc := ⟨9,[.tmp 4],(zs [zM 4 (v (.bool false))] (zs [zm 5 0,zm 6 1,zC 7 194 [(t 5),(t 6)],zA 8 .geq (t 7) (zi 0),zm 4 8] .ret))⟩
def ir146 : IFunc := ⟨6,[.tmp 2],(zs [zg 1 (.box 61 (t 0)),zM 2 (v (.bool false))] (zs [zf 3 1 1,zl 4 3,zA 5 .gtr (t 4) (zi 5000),zm 2 5] .ret))⟩
def ir147 : IFunc := ⟨24,[.tmp 2],(zs [zM 2 (v (.bool false))] (.seq (zs [zm 3 0,zg 4 (.lenStr (t 3)),zA 5 .lss (t 4) (zi 1),zm 6 5,zG 7 6 false (.mov (t 0)),zG 8 6 false (.lenStr (t 7)),zG 9 6 false (.arith .gtr (t 8) (zi 60)),zP 10 (t 6) (v (.bool true)) (t 9),zm 11 10,zG 12 11 false (.mov (t 0)),zG 13 11 false (.indexStr (t 12) (zi 0)),zG 14 11 false (.arith .geq (t 13) (v (.int .u8 48))),zG 15 11 false (.mov (t 14)),zG 16 15 true (.mov (t 0)),zG 17 15 true (.indexStr (t 16) (zi 0)),zG 18 15 true (.arith .leq (t 17) (v (.int .u8 57))),zG 19 11 false (.pick (t 15) (t 18) (v (.bool false))),zP 20 (t 11) (v (.bool true)) (t 19)] (.cond (t 20) (zs [zM 2 (v (.bool false))] .ret) .skip)) (zs [zm 21 0,zC 22 195 [(t 21),(v (Fn 196))],zg 23 (.un .not (t 22)),zm 2 23] .ret)))⟩
def ir148 : IFunc := ⟨10,[.tmp 4],(zs [zg 3 (.box 65 (t 0)),zM 4 (v (.bool false))] (zs [zg 5 (.load (some 2) (t 1)),zg 6 (.load (some 4) (t 2)),zg 7 (.load (some 7) (t 3)),zC 8 149 [(t 5),(t 6),(t 7)],zg 9 (.un .not (t 8)),zm 4 9] .ret))⟩
def ir149 : IFunc := ⟨111,[.tmp 6],(zs [zg 3 (.box 24 (t 0)),zg 4 (.box 61 (t 1)),zg 5 (.box 65 (t 2)),zM 6 (v (.bool false))] (zs [zf 16 0 5,zl 17 16,zC 18 125 [(t 17)],zm 15 18,zg 19 (.extract (t 15) 0),zg 20 (.extract (t 15) 1),zg 7 (.box 223 (v (.agg #[(S []),(I 0),(I 0),(I 0),(I 0),(S [])]))),zS 6 (t 7) (t 19),zm 8 20] (.seq (zs [zm 21 8,zg 22 (.un .not (t 21))] (.cond (t 22) (zs [zM 6 (v (.bool false))] .ret) .skip)) (.seq (zs [zg 23 (.load (some 6) (t 7)),zg 24 (.load (some 7) (t 5)),zC 25 126 [(t 23),(t 24)],zM 26 (zi 0)] (.block 0 (.loop (zs [zA 27 .lss (t 26) (zi 4)] (.seq (.cond (t 27) .skip (.exit 0)) (.seq (.block 1 (zs [zg 28 (.indexArr 4 2 (some 2) (t 25) (t 26)),zg 10 (.box 56 (v (.agg #[(I 0),(I 0)]))),zS 2 (t 10) (t 28)] (zs [zg 29 (.load (some 2) (t 3)),zg 30 (.load (some 4) (t 4)),zg 31 (.indexAddrArr 2 1 (t 10) (zi 0)),zl 32 31,zg 33 (.indexAddrArr 2 1 (t 10) (zi 1)),zl 34 33,zC 35 197 [(t 29),(t 30),(t 32),(t 34)],zg 36 (.un .not (t 35))] (.cond (t 36) (zs [zM 6 (v (.bool false))] .ret) .skip)))) (.ops [zA 37 .add (t 26) (zi 1),zm 26 37]))))))) (.seq (.block 2 (zs [zf 39 0 5,zl 40 39,zA 41 .eql (t 40) (zi 36),zm 38 41] (.cond (t 38) (zs [zf 42 5 5,zl 43 42,zg 44 (.lenStr (t 43)),zM 45 (zi 0)] (.block 3 (.loop (zs [za 46 .lss 45 44] (.seq (.cond (t 46) .skip (.exit 3)) (.seq (.block 4 (zs [zm 47 45,zm 11 47] (zs [zf 48 5 5,zl 49 48,zm 50 11,zg 51 (.indexStr (t 49) (t 50)),zm 12 51] (zs [zm 52 12,zA 53 .neq (t 52) (v (.int .u8 0)),zm 54 53,zG 55 54 true (.mov (t 12)),zG 56 54 true (.arith .lss (t 55) (v (.int .u8 32))),zG 57 54 true (.mov (t 56)),zG 58 57 false (.mov (t 12)),zG 59 57 false (.arith .gtr (t 58) (v (.int .u8 126))),zG 60 54 true (.pick (t 57) (v (.bool true)) (t 59)),zP 61 (t 54) (t 60) (v (.bool false))] (.cond (t 61) (zs [zM 6 (v (.bool false))] .ret) .skip))))) (.ops [zA 62 .add (t 45) (zi 1),zm 45 62]))))))) (.seq (.draw [zf 64 5 7,zl 65 64,zA 66 .eql (t 65) (v (S [])),zm 67 66,zG 68 67 true (.fieldAddr 5 (t 5)),zG 69 67 true (.load none (t 68)),zG 70 67 true (.arith .neq (t 69) (v (S []))),zP 71 (t 67) (t 70) (v (.bool false)),zm 72 71,zG 73 72 false (.fieldAddr 5 (t 7)),zG 74 72 false (.load none (t 73)),zG 75 72 false (.arith .neq (t 74) (v (S []))),zG 76 72 false (.mov (t 75)),zG 77 76 true (.fieldAddr 5 (t 7)),zG 78 76 true (.load none (t 77)),zG 79 76 true (.call (v (Fn 199)) [(t 78)]),zG 80 76 true (.fieldAddr 5 (t 5)),zG 81 76 true (.load none (t 80))] [zG 82 76 true (.call (v (Fn 198)) [(t 79),(t 81)]),zG 83 76 true (.un .not (t 82)),zG 84 72 false (.pick (t 76) (t 83) (v (.bool false))),zP 85 (t 72) (v (.bool true)) (t 84),zm 63 85]) (.cond (t 63) (zs [zM 6 (v (.bool false))] .ret) .skip))))) (zs [zg 87 (.load (some 2) (t 3)),zg 88 (.load (some 7) (t 5)),zC 89 200 [(t 87),(t 88)],zm 86 89,zg 90 (.extract (t 86) 0),zg 91 (.extract (t 86) 1),zm 13 90,zm 14 91] (zs [zf 92 6 5,zl 93 92,zn 94 93,zm 95 13,za 96 .geq 94 95,zm 97 96,zG 98 97 true (.fieldAddr 6 (t 5)),zG 99 97 true (.load none (t 98)),zG 100 97 true (.lenSl (t 99)),zG 101 97 true (.mov (t 14)),zG 102 97 true (.arith .leq (t 100) (t 101)),zP 103 (t 97) (t 102) (v (.bool false)),zm 104 103,zG 105 104 true (.fieldAddr 6 (t 5)),zG 106 104 true (.load none (t 105)),zG 107 104 true (.func 202 [] [(t 3),(t 4)]),zG 108 104 true (.call (v (Fn 201)) [(t 106),(t 107)]),zG 109 104 true (.un .not (t 108)),zP 110 (t 104) (t 109) (v (.bool false)),zm 6 110] .ret)))))))⟩
def ir152 : IFunc := ⟨36,[.tmp 2],(zs [zM 2 (v (.bool false))] (.seq (zs [zm 4 0,zg 5 (.lenStr (t 4)),zA 6 .lss (t 5) (zi 1),zm 7 6,zG 8 7 false (.mov (t 0)),zG 9 7 false (.lenStr (t 8)),zG 10 7 false (.arith .gtr (t 9) (zi 60)),zP 11 (t 7) (v (.bool true)) (t 10),zm 12 11,zG 13 12 false (.mov (t 0)),zG 14 12 false (.indexStr (t 13) (zi 0)),zG 15 12 false (.arith .geq (t 14) (v (.int .u8 48))),zG 16 12 false (.mov (t 15)),zG 17 16 true (.mov (t 0)),zG 18 16 true (.indexStr (t 17) (zi 0)),zG 19 16 true (.arith .leq (t 18) (v (.int .u8 57))),zG 20 12 false (.pick (t 16) (t 19) (v (.bool false))),zP 21 (t 12) (v (.bool true)) (t 20)] (.cond (t 21) (zs [zM 2 (v (.bool false))] .ret) .skip)) (.seq (zs [zM 3 (zi 0)] (.block 0 (.loop (.seq (zs [zm 22 3,zm 23 0,zg 24 (.lenStr (t 23)),za 25 .lss 22 24] (.cond (t 25) .skip (.exit 0))) (.seq (.block 1 (zs [zm 28 0,zm 29 3,zm 30 3,zA 31 .add (t 30) (zi 1),zg 32 (.sliceStr (t 28) (some (t 29)) (some (t 31))),zA 33 .add (v (S [97])) (t 32),zC 34 213 [(t 33)],zg 35 (.un .not (t 34))] (.cond (t 35) (zs [zM 2 (v (.bool false))] .ret) .skip))) (.ops [zm 26 3,zA 27 .add (t 26) (zi 1),zm 3 27])))))) (zs [zM 2 (v (.bool true))] .ret))))⟩
def ir153 : IFunc := ⟨150,[.tmp 6],(zs [zg 3 (.box 24 (t 0)),zg 4 (.box 61 (t 1)),zg 5 (.box 65 (t 2)),zM 6 (v (.bool false))] (.seq (zs [zf 13 0 5,zl 14 13,zA 15 .lss (t 14) (zi 1),zm 16 15,zG 17 16 false (.fieldAddr 0 (t 5)),zG 18 16 false (.load none (t 17)),zG 19 16 false (.arith .gtr (t 18) (zi 37)),zP 20 (t 16) (v (.bool true)) (t 19)] (.cond (t 20) (zs [zM 6 (v (.bool false))] .ret) .skip)) (zs [zf 21 0 5,zl 22 21,zC 23 214 [(t 22)],zm 7 23] (.seq (.seq (.draw [zg 24 (.load (some 2) (t 3)),zg 25 (.load (some 4) (t 4)),zm 26 7,zg 27 (.indexStr (t 26) (zi 0)),zf 28 1 5,zl 29 28,zC 30 215 [(t 24),(t 25),(t 27),(t 29)],zg 31 (.un .not (t 30)),zm 32 31,zG 33 32 false (.load (some 2) (t 3)),zG 34 32 false (.load (some 4) (t 4)),zG 35 32 false (.mov (t 7)),zG 36 32 false (.indexStr (t 35) (zi 1)),zG 37 32 false (.fieldAddr 2 (t 5)),zG 38 32 false (.load none (t 37)),zG 39 32 false (.call (v (Fn 215)) [(t 33),(t 34),(t 36),(t 38)]),zG 40 32 false (.un .not (t 39)),zP 41 (t 32) (v (.bool true)) (t 40),zm 42 41,zG 43 42 false (.load (some 2) (t 3)),zG 44 42 false (.load (some 4) (t 4)),zG 45 42 false (.mov (t 7)),zG 46 42 false (.indexStr (t 45) (zi 2)),zG 47 42 false (.fieldAddr 3 (t 5)),zG 48 42 false (.load none (t 47)),zG 49 42 false (.call (v (Fn 215)) [(t 43),(t 44),(t 46),(t 48)]),zG 50 42 false (.un .not (t 49)),zP 51 (t 42) (v (.bool true)) (t 50),zm 52 51,zG 53 52 false (.load (some 2) (t 3)),zG 54 52 false (.load (some 4) (t 4)),zG 55 52 false (.mov (t 7)),zG 56 52 false (.indexStr (t 55) (zi 3)),zG 57 52 false (.fieldAddr 4 (t 5)),zG 58 52 false (.load none (t 57))] [zG 59 52 false (.call (v (Fn 215)) [(t 53),(t 54),(t 56),(t 58)]),zG 60 52 false (.un .not (t 59)),zP 61 (t 52) (v (.bool true)) (t 60)]) (.cond (t 61) (zs [zM 6 (v (.bool false))] .ret) .skip)) (.seq (zs [zM 8 (zi 0)] (.block 0 (.loop (.seq (zs [zm 62 8,zf 63 5 5,zl 64 63,zg 65 (.lenStr (t 64)),za 66 .lss 62 65] (.cond (t 66) .skip (.exit 0))) (.seq (.block 1 (zs [zf 69 5 5,zl 70 69,zm 71 8,zg 72 (.indexStr (t 70) (t 71)),zA 73 .neq (t 72) (v (.int .u8 0)),zm 74 73,zG 75 74 true (.fieldAddr 5 (t 5)),zG 76 74 true (.load none (t 75)),zG 77 74 true (.mov (t 8)),zG 78 74 true (.indexStr (t 76) (t 77)),zG 79 74 true (.arith .lss (t 78) (v (.int .u8 32))),zG 80 74 true (.mov (t 79)),zG 81 80 false (.fieldAddr 5 (t 5)),zG 82 80 false (.load none (t 81)),zG 83 80 false (.mov (t 8)),zG 84 80 false (.indexStr (t 82) (t 83)),zG 85 80 false (.arith .gtr (t 84) (v (.int .u8 126))),zG 86 74 true (.pick (t 80) (v (.bool true)) (t 85)),zP 87 (t 74) (t 86) (v (.bool false))] (.cond (t 87) (zs [zM 6 (v (.bool false))] .ret) .skip))) (.ops [zm 67 8,zA 68 .add (t 67) (zi 1),zm 8 68])))))) (.seq (zs [zf 88 0 5,zl 89 88,zC 90 216 [(t 89)],zm 9 90] (zs [zf 91 0 5,zl 92 91,zA 93 .neq (t 92) (zi 36),zm 94 93,zG 95 94 true (.mov (t 9)),zG 96 94 true (.lenSl (t 95)),zG 97 94 true (.arith .eql (t 96) (zi 0)),zG 98 94 true (.mov (t 97)),zG 99 98 true (.fieldAddr 5 (t 5)),zG 100 98 true (.load none (t 99)),zG 101 98 true (.arith .neq (t 100) (v (S []))),zG 102 94 true (.pick (t 98) (t 101) (v (.bool false))),zG 103 94 true (.mov (t 102)),zG 104 103 false (.mov (t 9)),zG 105 103 false (.lenSl (t 104)),zG 106 103 false (.arith .gtr (t 105) (zi 0)),zG 107 103 false (.mov (t 106)),zG 108 107 true (.mov (t 9)),zG 109 107 true (.fieldAddr 5 (t 5)),zG 110 107 true (.load none (t 109)),zG 111 107 true (.call (v (Fn 217)) [(t 108),(t 110)]),zG 112 107 true (.un .not (t 111)),zG 113 103 false (.pick (t 107) (t 112) (v (.bool false))),zG 114 94 true (.pick (t 103) (v (.bool true)) (t 113)),zP 115 (t 94) (t 114) (v (.bool false))] (.cond (t 115) (zs [zM 6 (v (.bool false))] .ret) .skip))) (zs [zg 117 (.load (some 2) (t 3)),zg 118 (.load (some 7) (t 5)),zC 119 218 [(t 117),(t 118)],zm 116 119,zg 120 (.extract (t 116) 0),zg 121 (.extract (t 116) 1),zm 10 120,zm 11 121] (.seq (zs [zf 122 6 5,zl 123 122,zn 124 123,zm 125 10,za 126 .lss 124 125,zm 127 126,zG 128 127 false (.fieldAddr 6 (t 5)),zG 129 127 false (.load none (t 128)),zG 130 127 false (.lenSl (t 129)),zG 131 127 false (.mov (t 11)),zG 132 127 false (.arith .gtr (t 130) (t 131)),zP 133 (t 127) (v (.bool true)) (t 132)] (.cond (t 133) (zs [zM 6 (v (.bool false))] .ret) .skip)) (.seq (zs [zM 12 (zi 0)] (.block 2 (.loop (.seq (zs [zm 134 12,zf 135 6 5,zl 136 135,zn 137 136,za 138 .lss 134 137] (.cond (t 138) .skip (.exit 2))) (.seq (.block 3 (.seq (.draw [zg 141 (.load (some 2) (t 3)),zg 142 (.load (some 4) (t 4)),zf 143 6 5,zl 144 143,zm 145 12,zx 146 1 144 145,zl 147 146] [zC 148 215 [(t 141),(t 142),(v (.int .u8 114)),(t 147)],zg 149 (.un .not (t 148))]) (.cond (t 149) (zs [zM 6 (v (.bool false))] .ret) .skip))) (.ops [zm 139 12,zA 140 .add (t 139) (zi 1),zm 12 140])))))) (zs [zM 6 (v (.bool true))] .ret))))))))))⟩
def ir187 : IFunc := ⟨39,[.cell 0 (some 228)],(zs [zg 0 (.box 288 (v (.agg (zz 38))))] (zs [zg 1 (.build [(S []),(I 0),(I 0),(I 0),(I 0),(S [])] [(0,1,(v (S [115,101,116]))),(1,1,(zi 3)),(2,1,(zi 5)),(3,1,(zi 0)),(4,1,(zi 0)),(5,1,(v (S [])))]),zg 2 (.build [(S []),(I 0),(I 0),(I 0),(I 0),(S [])] [(0,1,(v (S [99,111,112,121]))),(1,1,(zi 3)),(2,1,(zi 1)),(3,1,(zi 0)),(4,1,(zi 0)),(5,1,(v (S [])))]),zg 3 (.build [(S []),(I 0),(I 0),(I 0),(I 0),(S [])] [(0,1,(v (S [117,110,97,114,121]))),(1,1,(zi 3)),(2,1,(zi 1)),(3,1,(zi 0)),(4,1,(zi 0)),(5,1,(v (S [45,32,33])))]),zg 4 (.build [(S []),(I 0),(I 0),(I 0),(I 0),(S [])] [(0,1,(v (S [98,105,110,97,114,121]))),(1,1,(zi 3)),(2,1,(zi 1)),(3,1,(zi 1)),(4,1,(zi 0)),(5,1,(v (S [43,32,45,32,42,32,47,32,37,32,61,61,32,33,61,32,60,32,60,61,32,62,32,62,61,32,109,105,110,32,109,97,120,32,38,38,32,124,124])))]),zg 5 (.build [(S []),(I 0),(I 0),(I 0),(I 0),(S [])] [(0,1,(v (S [103,101,116]))),(1,1,(zi 3)),(2,1,(zi 6)),(3,1,(zi 0)),(4,1,(zi 0)),(5,1,(v (S [])))]),zg 6 (.build [(S []),(I 0),(I 0),(I 0),(I 0),(S [])] [(0,1,(v (S [112,117,116]))),(1,1,(zi 6)),(2,1,(zi 1)),(3,1,(zi 0)),(4,1,(zi 0)),(5,1,(v (S [])))]),zg 7 (.build [(S []),(I 0),(I 0),(I 0),(I 0),(S [])] [(0,1,(v (S [114,97,110,103,101]))),(1,1,(zi 3)),(2,1,(zi 1)),(3,1,(zi 1)),(4,1,(zi 0)),(5,1,(v (S [])))]),zg 8 (.build [(S []),(I 0),(I 0),(I 0),(I 0),(S [])] [(0,1,(v (S [98,121]))),(1,1,(zi 3)),(2,1,(zi 1)),(3,1,(zi 1)),(4,1,(zi 0)),(5,1,(v (S [])))]),zg 9 (.build [(S []),(I 0),(I 0),(I 0),(I 0),(S [])] [(0,1,(v (S [99,111,117,110,116]))),(1,1,(zi 3)),(2,1,(zi 1)),(3,1,(zi 1)),(4,1,(zi 0)),(5,1,(v (S [])))]),zg 10 (.build [(S []),(I 0),(I 0),(I 0),(I 0),(S [])] [(0,1,(v (S [100,111,109,97,105,110]))),(1,1,(zi 3)),(2,1,(zi 0)),(3,1,(zi 0)),(4,1,(zi 0)),(5,1,(v (S [])))]),zg 11 (.build [(S []),(I 0),(I 0),(I 0),(I 0),(S [])] [(0,1,(v (S [109,97,112]))),(1,1,(zi 3)),(2,1,(zi 1)),(3,1,(zi 10)),(4,1,(zi 2)),(5,1,(v (S [])))]),zg 12 (.build [(S []),(I 0),(I 0),(I 0),(I 0),(S [])] [(0,1,(v (S [97,114,114,97,121]))),(1,1,(zi 3)),(2,1,(zi 1)),(3,1,(zi 0)),(4,1,(zi 0)),(5,1,(v (S [])))]),zg 13 (.build [(S []),(I 0),(I 0),(I 0),(I 0),(S [])] [(0,1,(v (S [99,101,108,108]))),(1,1,(zi 3)),(2,1,(zi 0)),(3,1,(zi 0)),(4,1,(zi 0)),(5,1,(v (S [])))]),zg 14 (.build [(S []),(I 0),(I 0),(I 0),(I 0),(S [])] [(0,1,(v (S [97,116,111,109,105,99]))),(1,1,(zi 3)),(2,1,(zi 0)),(3,1,(zi 0)),(4,1,(zi 0)),(5,1,(v (S [])))]),zg 15 (.build [(S []),(I 0),(I 0),(I 0),(I 0),(S [])] [(0,1,(v (S [102,105,101,108,100]))),(1,1,(zi 3)),(2,1,(zi 1)),(3,1,(zi 0)),(4,1,(zi 0)),(5,1,(v (S [115,105,122,101,32,108,111,119,32,104,105,103,104,32,115,116,114,105,100,101,32,100,111,109,97,105,110])))]),zg 16 (.build [(S []),(I 0),(I 0),(I 0),(I 0),(S [])] [(0,1,(v (S [110,116,104]))),(1,1,(zi 3)),(2,1,(zi 1)),(3,1,(zi 9)),(4,1,(zi 1)),(5,1,(v (S [])))]),zg 17 (.build [(S []),(I 0),(I 0),(I 0),(I 0),(S [])] [(0,1,(v (S [108,111,97,100]))),(1,1,(zi 3)),(2,1,(zi 1)),(3,1,(zi 0)),(4,1,(zi 0)),(5,1,(v (S [])))]),zg 18 (.build [(S []),(I 0),(I 0),(I 0),(I 0),(S [])] [(0,1,(v (S [115,116,111,114,101]))),(1,1,(zi 1)),(2,1,(zi 1)),(3,1,(zi 0)),(4,1,(zi 0)),(5,1,(v (S [])))]),zg 19 (.build [(S []),(I 0),(I 0),(I 0),(I 0),(S [])] [(0,1,(v (S [106,117,109,112]))),(1,1,(zi 0)),(2,1,(zi 0)),(3,1,(zi 7)),(4,1,(zi 0)),(5,1,(v (S [])))]),zg 20 (.build [(S []),(I 0),(I 0),(I 0),(I 0),(S [])] [(0,1,(v (S [105,102]))),(1,1,(zi 1)),(2,1,(zi 0)),(3,1,(zi 7)),(4,1,(zi 0)),(5,1,(v (S [])))]),zg 21 (.build [(S []),(I 0),(I 0),(I 0),(I 0),(S [])] [(0,1,(v (S [99,97,108,108]))),(1,1,(zi 4)),(2,1,(zi 8)),(3,1,(zi 0)),(4,1,(zi 0)),(5,1,(v (S [])))]),zg 22 (.build [(S []),(I 0),(I 0),(I 0),(I 0),(S [])] [(0,1,(v (S [114,101,116,117,114,110]))),(1,1,(zi 2)),(2,1,(zi 0)),(3,1,(zi 0)),(4,1,(zi 0)),(5,1,(v (S [])))]),zg 23 (.build [(S []),(I 0),(I 0),(I 0),(I 0),(S [])] [(0,1,(v (S [104,101,114,101]))),(1,1,(zi 3)),(2,1,(zi 0)),(3,1,(zi 0)),(4,1,(zi 0)),(5,1,(v (S [])))]),zg 24 (.build [(S []),(I 0),(I 0),(I 0),(I 0),(S [])] [(0,1,(v (S [108,111,99,97,108,101,115]))),(1,1,(zi 3)),(2,1,(zi 0)),(3,1,(zi 0)),(4,1,(zi 0)),(5,1,(v (S [])))]),zg 25 (.build [(S []),(I 0),(I 0),(I 0),(I 0),(S [])] [(0,1,(v (S [103,111]))),(1,1,(zi 1)),(2,1,(zi 0)),(3,1,(zi 0)),(4,1,(zi 0)),(5,1,(v (S [])))]),zg 26 (.build [(S []),(I 0),(I 0),(I 0),(I 0),(S [])] [(0,1,(v (S [99,111,117,110,116,101,114]))),(1,1,(zi 3)),(2,1,(zi 0)),(3,1,(zi 0)),(4,1,(zi 0)),(5,1,(v (S [])))]),zg 27 (.build [(S []),(I 0),(I 0),(I 0),(I 0),(S [])] [(0,1,(v (S [115,112,97,119,110]))),(1,1,(zi 2)),(2,1,(zi 8)),(3,1,(zi 0)),(4,1,(zi 0)),(5,1,(v (S [])))]),zg 28 (.build [(S []),(I 0),(I 0),(I 0),(I 0),(S [])] [(0,1,(v (S [119,97,105,116]))),(1,1,(zi 1)),(2,1,(zi 0)),(3,1,(zi 0)),(4,1,(zi 0)),(5,1,(v (S [])))]),zg 29 (.build [(S []),(I 0),(I 0),(I 0),(I 0),(S [])] [(0,1,(v (S [115,99,111,112,101]))),(1,1,(zi 3)),(2,1,(zi 0)),(3,1,(zi 0)),(4,1,(zi 0)),(5,1,(v (S [])))]),zg 30 (.build [(S []),(I 0),(I 0),(I 0),(I 0),(S [])] [(0,1,(v (S [117,110,115,99,111,112,101]))),(1,1,(zi 0)),(2,1,(zi 0)),(3,1,(zi 0)),(4,1,(zi 0)),(5,1,(v (S [])))]),zg 31 (.build [(S []),(I 0),(I 0),(I 0),(I 0),(S [])] [(0,1,(v (S [112,105,101,99,101,115]))),(1,1,(zi 3)),(2,1,(zi 1)),(3,1,(zi 0)),(4,1,(zi 0)),(5,1,(v (S [])))]),zg 32 (.build [(S []),(I 0),(I 0),(I 0),(I 0),(S [])] [(0,1,(v (S [112,105,101,99,101]))),(1,1,(zi 3)),(2,1,(zi 1)),(3,1,(zi 9)),(4,1,(zi 1)),(5,1,(v (S [])))]),zg 33 (.build [(S []),(I 0),(I 0),(I 0),(I 0),(S [])] [(0,1,(v (S [105,110,112,105,101,99,101]))),(1,1,(zi 3)),(2,1,(zi 1)),(3,1,(zi 9)),(4,1,(zi 1)),(5,1,(v (S [])))]),zg 34 (.build [(S []),(I 0),(I 0),(I 0),(I 0),(S [])] [(0,1,(v (S [111,110,99,101,108,108]))),(1,1,(zi 4)),(2,1,(zi 1)),(3,1,(zi 2)),(4,1,(zi 0)),(5,1,(v (S [114,101,97,100,70,69,32,114,101,97,100,70,70,32,114,101,97,100,88,88,32,119,114,105,116,101,69,70,32,119,114,105,116,101,70,70,32,119,114,105,116,101,88,70,32,114,101,115,101,116,32,105,115,70,117,108,108])))]),zg 35 (.build [(S []),(I 0),(I 0),(I 0),(I 0),(S [])] [(0,1,(v (S [111,110,97,116,111,109]))),(1,1,(zi 4)),(2,1,(zi 1)),(3,1,(zi 0)),(4,1,(zi 0)),(5,1,(v (S [114,101,97,100,32,119,114,105,116,101,32,97,100,100,32,102,101,116,99,104,65,100,100,32,101,120,99,104,97,110,103,101,32,99,111,109,112,97,114,101,65,110,100,83,119,97,112])))]),zg 36 (.build [(S []),(I 0),(I 0),(I 0),(I 0),(S [])] [(0,1,(v (S [119,114,105,116,101]))),(1,1,(zi 0)),(2,1,(zi 0)),(3,1,(zi 0)),(4,1,(zi 0)),(5,1,(v (S [])))]),zg 37 (.build [(S []),(I 0),(I 0),(I 0),(I 0),(S [])] [(0,1,(v (S [97,115,115,101,114,116]))),(1,1,(zi 1)),(2,1,(zi 0)),(3,1,(zi 0)),(4,1,(zi 0)),(5,1,(v (S [])))]),zg 38 (.build [(S []),(I 0),(I 0),(I 0),(I 0),(S []),(S []),(I 0),(I 0),(I 0),(I 0),(S []),(S []),(I 0),(I 0),(I 0),(I 0),(S []),(S []),(I 0),(I 0),(I 0),(I 0),(S []),(S []),(I 0),(I 0),(I 0),(I 0),(S []),(S []),(I 0),(I 0),(I 0),(I 0),(S []),(S []),(I 0),(I 0),(I 0),(I 0),(S []),(S []),(I 0),(I 0),(I 0),(I 0),(S []),(S []),(I 0),(I 0),(I 0),(I 0),(S []),(S []),(I 0),(I 0),(I 0),(I 0),(S []),(S []),(I 0),(I 0),(I 0),(I 0),(S []),(S []),(I 0),(I 0),(I 0),(I 0),(S []),(S []),(I 0),(I 0),(I 0),(I 0),(S []),(S []),(I 0),(I 0),(I 0),(I 0),(S []),(S []),(I 0),(I 0),(I 0),(I 0),(S []),(S []),(I 0),(I 0),(I 0),(I 0),(S []),(S []),(I 0),(I 0),(I 0),(I 0),(S []),(S []),(I 0),(I 0),(I 0),(I 0),(S []),(S []),(I 0),(I 0),(I 0),(I 0),(S []),(S []),(I 0),(I 0),(I 0),(I 0),(S []),(S []),(I 0),(I 0),(I 0),(I 0),(S []),(S []),(I 0),(I 0),(I 0),(I 0),(S []),(S []),(I 0),(I 0),(I 0),(I 0),(S []),(S []),(I 0),(I 0),(I 0),(I 0),(S []),(S []),(I 0),(I 0),(I 0),(I 0),(S []),(S []),(I 0),(I 0),(I 0),(I 0),(S []),(S []),(I 0),(I 0),(I 0),(I 0),(S []),(S []),(I 0),(I 0),(I 0),(I 0),(S []),(S []),(I 0),(I 0),(I 0),(I 0),(S []),(S []),(I 0),(I 0),(I 0),(I 0),(S []),(S []),(I 0),(I 0),(I 0),(I 0),(S []),(S []),(I 0),(I 0),(I 0),(I 0),(S []),(S []),(I 0),(I 0),(I 0),(I 0),(S []),(S []),(I 0),(I 0),(I 0),(I 0),(S []),(S []),(I 0),(I 0),(I 0),(I 0),(S []),(S []),(I 0),(I 0),(I 0),(I 0),(S []),(S []),(I 0),(I 0),(I 0),(I 0),(S []),(S []),(I 0),(I 0),(I 0),(I 0),(S [])] [(6,6,(t 1)),(12,6,(t 2)),(18,6,(t 3)),(24,6,(t 4)),(30,6,(t 5)),(36,6,(t 6)),(42,6,(t 7)),(48,6,(t 8)),(54,6,(t 9)),(60,6,(t 10)),(66,6,(t 11)),(72,6,(t 12)),(78,6,(t 13)),(84,6,(t 14)),(90,6,(t 15)),(96,6,(t 16)),(102,6,(t 17)),(108,6,(t 18)),(114,6,(t 19)),(120,6,(t 20)),(126,6,(t 21)),(132,6,(t 22)),(138,6,(t 23)),(144,6,(t 24)),(150,6,(t 25)),(156,6,(t 26)),(162,6,(t 27)),(168,6,(t 28)),(174,6,(t 29)),(180,6,(t 30)),(186,6,(t 31)),(192,6,(t 32)),(198,6,(t 33)),(204,6,(t 34)),(210,6,(t 35)),(216,6,(t 36)),(222,6,(t 37))]),zS 228 (t 0) (t 38)] .ret))⟩
def ir188 : IFunc := ⟨19,[.tmp 4],(zs [zM 4 (zi 0)] (.seq (zs [zm 6 0,zn 7 6,zM 8 (zi 0)] (.block 0 (.loop (zs [za 9 .lss 8 7] (.seq (.cond (t 9) .skip (.exit 0)) (.seq (.block 1 (zs [zm 10 8,zm 5 10] (zs [zm 11 1,zm 12 0,zm 13 5,zx 14 1 12 13,zl 15 14,zg 16 (.call (t 11) [(t 15)])] (.cond (t 16) (zs [zm 17 5,zm 4 17] .ret) .skip)))) (.ops [zA 18 .add (t 8) (zi 1),zm 8 18]))))))) (zs [zM 4 (zi (-1))] .ret)))⟩
def ir189 : IFunc := ⟨59,[.tmp 4],(zs [zg 3 (.box 3 (t 1)),zM 4 (v (.slice none 0 0))] (zs [zm 9 0,zn 10 9,zg 11 (.makeSlice 4 1 [(.bool false)] (t 10) (t 10)),zg 5 (.box 232 (v (.slice none 0 0))),zS 1 (t 5) (t 11)] (.seq (zs [zm 12 0,zn 13 12,zA 14 .eql (t 13) (zi 0),zm 15 14,zG 16 15 false (.load none (t 3)),zG 17 15 false (.arith .eql (t 16) (zi 0)),zP 18 (t 15) (v (.bool true)) (t 17)] (.cond (t 18) (zs [zl 19 5,zm 4 19] .ret) .skip)) (zs [zl 20 5,zX 21 1 (t 20) (zi 0),zS 1 (t 21) (v (.bool true))] (zs [zg 22 (.buildSlice 3 1 [(I 0)] [(0,1,(zi 0))]),zg 6 (.box 41 (v (.slice none 0 0))),zS 1 (t 6) (t 22)] (.seq .skip (.seq (.block 0 (.loop (.block 1 (.seq (zs [zl 23 6,zn 24 23,zA 25 .eql (t 24) (zi 0)] (.cond (t 25) (.exit 0) .skip)) (zs [zl 26 6,zl 27 6,zn 28 27,zA 29 .sub (t 28) (zi 1),zx 30 1 26 29,zl 31 30,zm 7 31] (zs [zl 32 6,zl 33 6,zn 34 33,zA 35 .sub (t 34) (zi 1),zg 36 (.slice 3 1 (t 32) none (some (t 35)) none),zS 1 (t 6) (t 36)] (zs [zm 37 0,zm 38 7,zC 39 134 [(t 37),(t 38)]] (.block 2 (.rangeFunc (t 39) [40] (.ops [zm 8 40]) (.block 3 (zs [zm 41 8,zl 42 3,za 43 .neq 41 42,zm 44 43,zG 45 44 true (.load none (t 5)),zG 46 44 true (.mov (t 8)),zG 47 44 true (.indexAddr 1 (t 45) (t 46)),zG 48 44 true (.load none (t 47)),zG 49 44 true (.un .not (t 48)),zP 50 (t 44) (t 49) (v (.bool false))] (.cond (t 50) (zs [zl 51 5,zm 52 8,zx 53 1 51 52,zS 1 (t 53) (v (.bool true))] (.ops [zl 54 6,zm 55 8,zg 56 (.buildSlice 3 1 [(I 0)] [(0,1,(t 55))]),zg 57 (.append 3 1 8 (t 54) (t 56)),zS 1 (t 6) (t 57)])) .skip)))))))))))) (zs [zl 58 5,zm 4 58] .ret))))))))⟩
def ir190 : IFunc := ⟨31,[],(zs [zl 6 1,zl 7 2,zx 8 3 6 7,zf 9 2 8,zl 10 9,zn 11 10,zM 12 (zi 0)] (.block 0 (.loop (zs [za 13 .lss 12 11] (.seq (.cond (t 13) .skip (.exit 0)) (.seq (.block 1 (zs [zx 14 1 10 12,zl 15 14,zm 5 15] (zs [zm 16 5,zA 17 .geq (t 16) (zi 0),zm 18 17,zG 19 18 true (.mov (t 5)),zG 20 18 true (.load none (t 1)),zG 21 18 true (.lenSl (t 20)),zG 22 18 true (.arith .lss (t 19) (t 21)),zP 23 (t 18) (t 22) (v (.bool false)),zm 24 23,zG 25 24 true (.mov (t 0)),zG 26 24 true (.mov (t 5)),zG 27 24 true (.call (t 25) [(t 26)]),zG 28 24 true (.un .not (t 27)),zP 29 (t 24) (t 28) (v (.bool false))] (.cond (t 29) .ret .skip)))) (.ops [zA 30 .add (t 12) (zi 1),zm 12 30])))))))⟩
def ir192 : IFunc := ⟨54,[.tmp 4],(zs [zM 4 (v (S []))] (.seq (zs [zm 10 1,zA 11 .eql (t 10) (zi 10)] (.cond (t 11) (.seq (zs [zm 12 0,zA 13 .leq (zi 0) (t 12),zm 14 13,zG 15 14 true (.mov (t 0)),zG 16 14 true (.arith .lss (t 15) (zi 100)),zP 17 (t 14) (t 16) (v (.bool false))] (.cond (t 17) (zs [zm 18 0,zC 19 288 [(t 18)],zm 4 19] .ret) .skip)) (zs [zg 5 (.box 337 (v (.agg #[(.int .u8 0),(.int .u8 0),(.int .u8 0),(.int .u8 0),(.int .u8 0),(.int .u8 0),(.int .u8 0),(.int .u8 0),(.int .u8 0),(.int .u8 0),(.int .u8 0),(.int .u8 0),(.int .u8 0),(.int .u8 0),(.int .u8 0),(.int .u8 0),(.int .u8 0),(.int .u8 0),(.int .u8 0),(.int .u8 0),(.int .u8 0),(.int .u8 0),(.int .u8 0),(.int .u8 0)])))] (zs [zm 20 0,zg 21 (.toInt .u64 (t 20)),zm 6 21] (.seq (zs [zm 22 0,zA 23 .lss (t 22) (zi 0)] (.cond (t 23) (.ops [zm 24 6,zg 25 (.un .neg (t 24)),zm 6 25]) .skip)) (zs [zm 26 6,zC 27 289 [(t 26)],zm 7 27] (zs [zm 28 7,zA 29 .add (zi 1) (t 28),zg 30 (.sliceArr 24 1 (t 5) (some (zi 1)) (some (t 29)) none),zm 31 6,zC 32 290 [(t 30),(t 31)]] (.seq (zs [zm 33 0,zA 34 .lss (t 33) (zi 0)] (.cond (t 34) (zs [zg 35 (.indexAddrArr 24 1 (t 5) (zi 0)),zS 1 (t 35) (v (.int .u8 45))] (zs [zm 36 7,zA 37 .add (zi 1) (t 36),zg 38 (.sliceArr 24 1 (t 5) none (some (t 37)) none),zg 39 (.ofBytes (t 38)),zm 4 39] .ret)) .skip)) (zs [zm 40 7,zA 41 .add (zi 1) (t 40),zg 42 (.sliceArr 24 1 (t 5) (some (zi 1)) (some (t 41)) none),zg 43 (.ofBytes (t 42)),zm 4 43] .ret)))))))) .skip)) (zs [zm 45 0,zg 46 (.toInt .u64 (t 45)),zm 47 1,zm 48 0,zA 49 .lss (t 48) (zi 0),zC 50 291 [(v (.slice none 0 0)),(t 46),(t 47),(t 49),(v (.bool false))],zm 44 50,zg 51 (.extract (t 44) 0),zg 52 (.extract (t 44) 1),zm 8 51,zm 9 52] (zs [zm 53 9,zm 4 53] .ret))))⟩
def ir193 : IFunc := ⟨78,[.tmp 4],(zs [zM 4 (v (.slice none 0 0))] (zs [zm 10 0,zn 11 10,zg 12 (.makeSlice 4 1 [(.bool false)] (t 11) (t 11)),zm 5 12] (.seq (zs [zm 13 0,zn 14 13,zA 15 .eql (t 14) (zi 0),zm 16 15,zG 17 16 false (.mov (t 1)),zG 18 16 false (.arith .eql (t 17) (zi 0)),zP 19 (t 16) (v (.bool true)) (t 18)] (.cond (t 19) (zs [zm 20 5,zm 4 20] .ret) .skip)) (zs [zm 21 5,zX 22 1 (t 21) (zi 0),zS 1 (t 22) (v (.bool true))] (.seq (zs [zM 6 (v (.bool true))] (.block 0 (.loop (.seq (zs [zm 23 6] (.cond (t 23) .skip (.exit 0))) (.block 1 (zs [zM 6 (v (.bool false))] (zs [zM 7 (zi 0)] (.block 2 (.loop (.seq (zs [zm 24 7,zm 25 0,zn 26 25,za 27 .lss 24 26] (.cond (t 27) .skip (.exit 2))) (.seq (.block 3 (zs [zM 8 (zi 0)] (.block 4 (.loop (.seq (zs [zm 30 8,zm 31 0,zm 32 7,zx 33 3 31 32,zf 34 2 33,zl 35 34,zn 36 35,za 37 .lss 30 36,zm 38 37,zG 39 38 true (.mov (t 5)),zG 40 38 true (.mov (t 7)),zG 41 38 true (.indexAddr 1 (t 39) (t 40)),zG 42 38 true (.load none (t 41)),zP 43 (t 38) (t 42) (v (.bool false))] (.cond (t 43) .skip (.exit 4))) (.seq (.block 5 (zs [zm 46 0,zm 47 7,zx 48 3 46 47,zf 49 2 48,zl 50 49,zm 51 8,zx 52 1 50 51,zl 53 52,zm 9 53] (zs [zm 54 9,zA 55 .geq (t 54) (zi 0),zm 56 55,zG 57 56 true (.mov (t 9)),zG 58 56 true (.mov (t 0)),zG 59 56 true (.lenSl (t 58)),zG 60 56 true (.arith .lss (t 57) (t 59)),zP 61 (t 56) (t 60) (v (.bool false)),zm 62 61,zG 63 62 true (.mov (t 9)),zG 64 62 true (.mov (t 1)),zG 65 62 true (.arith .neq (t 63) (t 64)),zP 66 (t 62) (t 65) (v (.bool false)),zm 67 66,zG 68 67 true (.mov (t 5)),zG 69 67 true (.mov (t 9)),zG 70 67 true (.indexAddr 1 (t 68) (t 69)),zG 71 67 true (.load none (t 70)),zG 72 67 true (.un .not (t 71)),zP 73 (t 67) (t 72) (v (.bool false))] (.cond (t 73) (zs [zm 74 5,zm 75 9,zx 76 1 74 75,zS 1 (t 76) (v (.bool true))] (.ops [zM 6 (v (.bool true))])) .skip)))) (.ops [zm 44 8,zA 45 .add (t 44) (zi 1),zm 8 45]))))))) (.ops [zm 28 7,zA 29 .add (t 28) (zi 1),zm 7 29])))))))))))) (zs [zm 77 5,zm 4 77] .ret))))))⟩
def ir194 : IFunc := ⟨19,[.tmp 4],(zs [zM 4 (zi 0)] (.seq (zs [zm 6 0,zn 7 6,zM 8 (zi 0)] (.block 0 (.loop (zs [za 9 .lss 8 7] (.seq (.cond (t 9) .skip (.exit 0)) (.seq (.block 1 (zs [zm 10 8,zm 5 10] (zs [zm 11 1,zm 12 0,zm 13 5,zx 14 4 12 13,zg 15 (.load (some 4) (t 14)),zg 16 (.call (t 11) [(t 15)])] (.cond (t 16) (zs [zm 17 5,zm 4 17] .ret) .skip)))) (.ops [zA 18 .add (t 8) (zi 1),zm 8 18]))))))) (zs [zM 4 (zi (-1))] .ret)))⟩
def ir195 : IFunc := ⟨9,[.tmp 4],(zs [zM 4 (v (.bool false))] (zs [zm 5 0,zm 6 1,zC 7 292 [(t 5),(t 6)],zA 8 .geq (t 7) (zi 0),zm 4 8] .ret))⟩
def ir196 : IFunc := ⟨29,[.tmp 2],(zs [zM 2 (v (.bool false))] (zs [zm 3 0,zA 4 .neq (t 3) (v (.int .i32 95)),zm 5 4,zG 6 5 true (.mov (t 0)),zG 7 5 true (.arith .lss (t 6) (v (.int .i32 48))),zG 8 5 true (.mov (t 7)),zG 9 8 false (.mov (t 0)),zG 10 8 false (.arith .gtr (t 9) (v (.int .i32 57))),zG 11 5 true (.pick (t 8) (v (.bool true)) (t 10)),zP 12 (t 5) (t 11) (v (.bool false)),zm 13 12,zG 14 13 true (.mov (t 0)),zG 15 13 true (.arith .lss (t 14) (v (.int .i32 97))),zG 16 13 true (.mov (t 15)),zG 17 16 false (.mov (t 0)),zG 18 16 false (.arith .gtr (t 17) (v (.int .i32 122))),zG 19 13 true (.pick (t 16) (v (.bool true)) (t 18)),zP 20 (t 13) (t 19) (v (.bool false)),zm 21 20,zG 22 21 true (.mov (t 0)),zG 23 21 true (.arith .lss (t 22) (v (.int .i32 65))),zG 24 21 true (.mov (t 23)),zG 25 24 false (.mov (t 0)),zG 26 24 false (.arith .gtr (t 25) (v (.int .i32 90))),zG 27 21 true (.pick (t 24) (v (.bool true)) (t 26)),zP 28 (t 21) (t 27) (v (.bool false)),zm 2 28] .ret))⟩
def ir197 : IFunc := ⟨84,[.tmp 8],(zs [zg 4 (.box 24 (t 0)),zg 5 (.box 61 (t 1)),zM 8 (v (.bool false))] (.seq (zs [zm 9 2] (.block 0 (zs [zA 11 .eql (t 9) (zi 0),zm 10 11] (.cond (t 10) (zs [zm 12 3,zA 13 .eql (t 12) (zi 0),zm 8 13] .ret) (.seq (zs [zA 15 .eql (t 9) (zi 1),zm 14 15] (.cond (t 14) .skip (.ops [zA 16 .eql (t 9) (zi 3),zm 14 16]))) (.cond (t 14) (zs [zm 17 3,zA 18 .geq (t 17) (zi 0),zm 19 18,zG 20 19 true (.mov (t 3)),zG 21 19 true (.fieldAddr 1 (t 5)),zG 22 19 true (.load none (t 21)),zG 23 19 true (.arith .lss (t 20) (t 22)),zP 24 (t 19) (t 23) (v (.bool false)),zm 8 24] .ret) (.seq (zs [zA 26 .eql (t 9) (zi 2),zm 25 26] (.cond (t 25) .skip (.ops [zA 27 .eql (t 9) (zi 4),zm 25 27]))) (.cond (t 25) (zs [zm 28 3,zA 29 .geq (t 28) (zi (-1)),zm 30 29,zG 31 30 true (.mov (t 3)),zG 32 30 true (.fieldAddr 1 (t 5)),zG 33 30 true (.load none (t 32)),zG 34 30 true (.arith .lss (t 31) (t 33)),zP 35 (t 30) (t 34) (v (.bool false)),zm 8 35] .ret) (zs [zA 37 .eql (t 9) (zi 6),zm 36 37] (.cond (t 36) (zs [zm 38 3,zA 39 .geq (t 38) (zi 0),zm 40 39,zG 41 40 true (.mov (t 3)),zG 42 40 true (.fieldAddr 0 (t 4)),zG 43 40 true (.load none (t 42)),zG 44 40 true (.arith .lss (t 41) (t 43)),zP 45 (t 40) (t 44) (v (.bool false)),zm 8 45] .ret) (zs [zA 47 .eql (t 9) (zi 7),zm 46 47] (.cond (t 46) (zs [zm 48 3,zA 49 .geq (t 48) (zi 0),zm 50 49,zG 51 50 true (.mov (t 3)),zG 52 50 true (.fieldAddr 3 (t 5)),zG 53 50 true (.load none (t 52)),zG 54 50 true (.lenSl (t 53)),zG 55 50 true (.arith .lss (t 51) (t 54)),zP 56 (t 50) (t 55) (v (.bool false)),zm 8 56] .ret) (zs [zA 58 .eql (t 9) (zi 8),zm 57 58] (.cond (t 57) (zs [zm 59 3,zA 60 .geq (t 59) (zi 0),zm 61 60,zG 62 61 true (.mov (t 3)),zG 63 61 true (.fieldAddr 1 (t 4)),zG 64 61 true (.load none (t 63)),zG 65 61 true (.lenSl (t 64)),zG 66 61 true (.arith .lss (t 62) (t 65)),zP 67 (t 61) (t 66) (v (.bool false)),zm 8 67] .ret) (zs [zA 69 .eql (t 9) (zi 9),zm 68 69] (.cond (t 68) (zs [zm 70 3,zA 71 .eql (t 70) (zi 0),zm 72 71,zG 73 72 false (.mov (t 3)),zG 74 72 false (.arith .eql (t 73) (zi 1)),zP 75 (t 72) (v (.bool true)) (t 74),zm 8 75] .ret) (zs [zA 77 .eql (t 9) (zi 10),zm 76 77] (.cond (t 76) (zs [zm 78 3,zA 79 .geq (t 78) (zi 1),zm 80 79,zG 81 80 true (.mov (t 3)),zG 82 80 true (.arith .leq (t 81) (zi 4)),zP 83 (t 80) (t 82) (v (.bool false)),zm 8 83] .ret) .skip)))))))))))))))))) (zs [zM 8 (v (.bool true))] .ret)))⟩
def ir198 : IFunc := ⟨9,[.tmp 4],(zs [zM 4 (v (.bool false))] (zs [zm 5 0,zm 6 1,zC 7 293 [(t 5),(t 6)],zA 8 .geq (t 7) (zi 0),zm 4 8] .ret))⟩
def ir199 : IFunc := ⟨106,[.tmp 2],(zs [zM 2 (v (.slice none 0 0))] (zs [zM 3 (zi 0)] (zs [zM 4 (zi 1)] (zs [zM 5 (v (.int .u8 0))] (.seq (zs [zM 6 (zi 0)] (.block 0 (.loop (.seq (zs [zm 13 6,zm 14 0,zg 15 (.lenStr (t 14)),za 16 .lss 13 15] (.cond (t 16) .skip (.exit 0))) (.seq (.block 1 (zs [zm 19 0,zm 20 6,zg 21 (.indexStr (t 19) (t 20)),zm 7 21] (zs [zm 22 5,zm 23 7,za 24 .or 22 23,zm 5 24] (zs [zm 25 7,⟨some 26,none,.indexAddrArr 256 1 (v (.pointer (some ⟨1,0,none⟩))) (t 25)⟩,zl 27 26,zg 28 (.toInt .i64 (t 27)),zm 8 28] (zs [zm 29 3,zm 30 4,zm 31 8,zg 32 (.un .xor (t 31)),za 33 .and 30 32,za 34 .add 29 33,zm 3 34] (.ops [zm 35 8,zm 4 35])))))) (.ops [zm 17 6,zA 18 .add (t 17) (zi 1),zm 6 18])))))) (.seq (zs [zm 36 5,zA 37 .geq (t 36) (v (.int .u8 128))] (.cond (t 37) (zs [zm 38 0,zC 39 294 [(t 38),(v (Fn 295))],zm 2 39] .ret) .skip)) (zs [zm 40 3,zg 41 (.makeSlice 9 16 [(S [])] (t 40) (t 40)),zm 9 41] (zs [zM 10 (zi 0)] (zs [zM 11 (zi 0)] (zs [zM 12 (zi 0)] (.seq (.block 2 (.loop (.seq (zs [zm 42 12,zm 43 0,zg 44 (.lenStr (t 43)),za 45 .lss 42 44,zm 46 45,zG 47 46 true (.mov (t 0)),zG 48 46 true (.mov (t 12)),zG 49 46 true (.indexStr (t 47) (t 48)),⟨some 50,some (46,true),.indexAddrArr 256 1 (v (.pointer (some ⟨1,0,none⟩))) (t 49)⟩,zG 51 46 true (.load none (t 50)),zG 52 46 true (.arith .neq (t 51) (v (.int .u8 0))),zP 53 (t 46) (t 52) (v (.bool false))] (.cond (t 53) .skip (.exit 2))) (.block 3 (.ops [zm 54 12,zA 55 .add (t 54) (zi 1),zm 12 55]))))) (zs [zm 56 12,zm 11 56] (.seq (.block 4 (.loop (.seq (zs [zm 57 12,zm 58 0,zg 59 (.lenStr (t 58)),za 60 .lss 57 59] (.cond (t 60) .skip (.exit 4))) (.block 5 (.seq (zs [zm 61 0,zm 62 12,zg 63 (.indexStr (t 61) (t 62)),⟨some 64,none,.indexAddrArr 256 1 (v (.pointer (some ⟨1,0,none⟩))) (t 63)⟩,zl 65 64,zA 66 .eql (t 65) (v (.int .u8 0))] (.cond (t 66) (zs [zm 67 12,zA 68 .add (t 67) (zi 1),zm 12 68] (.exit 5)) .skip)) (zs [zm 69 9,zm 70 10,zm 71 0,zm 72 11,zm 73 12,zg 74 (.sliceStr (t 71) (some (t 72)) (some (t 73))),zx 75 1 69 70,zS 1 (t 75) (t 74)] (zs [zm 76 10,zA 77 .add (t 76) (zi 1),zm 10 77] (zs [zm 78 12,zA 79 .add (t 78) (zi 1),zm 12 79] (.seq (.block 6 (.loop (.seq (zs [zm 80 12,zm 81 0,zg 82 (.lenStr (t 81)),za 83 .lss 80 82,zm 84 83,zG 85 84 true (.mov (t 0)),zG 86 84 true (.mov (t 12)),zG 87 84 true (.indexStr (t 85) (t 86)),⟨some 88,some (84,true),.indexAddrArr 256 1 (v (.pointer (some ⟨1,0,none⟩))) (t 87)⟩,zG 89 84 true (.load none (t 88)),zG 90 84 true (.arith .neq (t 89) (v (.int .u8 0))),zP 91 (t 84) (t 90) (v (.bool false))] (.cond (t 91) .skip (.exit 6))) (.block 7 (.ops [zm 92 12,zA 93 .add (t 92) (zi 1),zm 12 93]))))) (.ops [zm 94 12,zm 11 94])))))))))) (.seq (zs [zm 95 11,zm 96 0,zg 97 (.lenStr (t 96)),za 98 .lss 95 97] (.cond (t 98) (.ops [zm 99 9,zm 100 10,zm 101 0,zm 102 11,zg 103 (.sliceStr (t 101) (some (t 102)) none),zx 104 1 99 100,zS 1 (t 104) (t 103)]) .skip)) (zs [zm 105 9,zm 2 105] .ret)))))))))))))))⟩
def ir200 : IFunc := ⟨43,[.tmp 4,.tmp 5],(zs [zg 2 (.box 24 (t 0)),zg 3 (.box 65 (t 1)),zM 4 (zi 0),zM 5 (zi 0)] (.seq (zs [zf 8 0 3,zl 9 8] (.block 0 (.seq (zs [zA 11 .eql (t 9) (zi 10),zm 10 11] (.cond (t 10) .skip (zs [zA 12 .eql (t 9) (zi 17),zm 10 12] (.cond (t 10) .skip (.ops [zA 13 .eql (t 9) (zi 18),zm 10 13]))))) (.cond (t 10) (zs [zM 4 (zi 1),zM 5 (zi 2)] .ret) (.seq (zs [zA 15 .eql (t 9) (zi 21),zm 14 15] (.cond (t 14) .skip (.ops [zA 16 .eql (t 9) (zi 27),zm 14 16]))) (.cond (t 14) (zs [zf 17 1 2,zl 18 17,zf 19 2 3,zl 20 19,zx 21 4 18 20,zf 22 2 21,zl 23 22,zm 6 23] (zs [zm 24 6,zm 25 6,zm 4 24,zm 5 25] .ret)) (zs [zA 27 .eql (t 9) (zi 33),zm 26 27] (.cond (t 26) (zs [zM 4 (zi 1),zM 5 (zi 1)] .ret) (zs [zA 29 .eql (t 9) (zi 35),zm 28 29] (.cond (t 28) (.seq (zs [zf 30 5 3,zl 31 30] (.block 1 (zs [zA 33 .eql (t 31) (v (S [114,101,97,100])),zm 32 33] (.cond (t 32) (zs [zM 4 (zi 0),zM 5 (zi 0)] .ret) (zs [zA 35 .eql (t 31) (v (S [99,111,109,112,97,114,101,65,110,100,83,119,97,112])),zm 34 35] (.cond (t 34) (zs [zM 4 (zi 2),zM 5 (zi 2)] .ret) .skip)))))) (zs [zM 4 (zi 1),zM 5 (zi 1)] .ret)) (zs [zA 37 .eql (t 9) (zi 36),zm 36 37] (.cond (t 36) (zs [zf 38 5 3,zl 39 38,zC 40 296 [(t 39),(v (S [0]))],zm 7 40] (zs [zm 41 7,zm 42 7,zm 4 41,zm 5 42] .ret)) .skip)))))))))))) (zs [zM 4 (zi 0),zM 5 (zi 0)] .ret)))⟩
def ir201 : IFunc := ⟨9,[.tmp 4],(zs [zM 4 (v (.bool false))] (zs [zm 5 0,zm 6 1,zC 7 188 [(t 5),(t 6)],zA 8 .geq (t 7) (zi 0),zm 4 8] .ret))⟩
def ir202 : IFunc := ⟨10,[.tmp 4],(zs [zM 4 (v (.bool false))] (zs [zg 5 (.load (some 2) (t 1)),zg 6 (.load (some 4) (t 2)),zm 7 0,zC 8 197 [(t 5),(t 6),(zi 1),(t 7)],zg 9 (.un .not (t 8)),zm 4 9] .ret))⟩
def ir213 : IFunc := ⟨45,[.tmp 2],(zs [zM 2 (v (.bool false))] (.seq (zs [zm 4 0,zg 5 (.lenStr (t 4)),zA 6 .lss (t 5) (zi 1),zm 7 6,zG 8 7 false (.mov (t 0)),zG 9 7 false (.lenStr (t 8)),zG 10 7 false (.arith .gtr (t 9) (zi 40)),zP 11 (t 7) (v (.bool true)) (t 10)] (.cond (t 11) (zs [zM 2 (v (.bool false))] .ret) .skip)) (.seq (zs [zM 3 (zi 0)] (.block 0 (.loop (.seq (zs [zm 12 3,zm 13 0,zg 14 (.lenStr (t 13)),za 15 .lss 12 14] (.cond (t 15) .skip (.exit 0))) (.seq (.block 1 (zs [zm 18 0,zm 19 3,zg 20 (.indexStr (t 18) (t 19)),zC 21 302 [(t 20)],zg 22 (.un .not (t 21)),zm 23 22,zG 24 23 true (.mov (t 0)),zG 25 23 true (.mov (t 3)),zG 26 23 true (.indexStr (t 24) (t 25)),zG 27 23 true (.arith .neq (t 26) (v (.int .u8 95))),zP 28 (t 23) (t 27) (v (.bool false)),zm 29 28,zG 30 29 true (.mov (t 3)),zG 31 29 true (.arith .eql (t 30) (zi 0)),zG 32 29 true (.mov (t 31)),zG 33 32 false (.mov (t 0)),zG 34 32 false (.mov (t 3)),zG 35 32 false (.indexStr (t 33) (t 34)),zG 36 32 false (.arith .lss (t 35) (v (.int .u8 48))),zG 37 29 true (.pick (t 32) (v (.bool true)) (t 36)),zG 38 29 true (.mov (t 37)),zG 39 38 false (.mov (t 0)),zG 40 38 false (.mov (t 3)),zG 41 38 false (.indexStr (t 39) (t 40)),zG 42 38 false (.arith .gtr (t 41) (v (.int .u8 57))),zG 43 29 true (.pick (t 38) (v (.bool true)) (t 42)),zP 44 (t 29) (t 43) (v (.bool false))] (.cond (t 44) (zs [zM 2 (v (.bool false))] .ret) .skip))) (.ops [zm 16 3,zA 17 .add (t 16) (zi 1),zm 3 17])))))) (zs [zM 2 (v (.bool true))] .ret))))⟩
def ir214 : IFunc := ⟨54,[.tmp 2],(zs [zM 2 (v (S []))] (.seq (zs [zm 3 0] (.block 0 (zs [zA 5 .eql (t 3) (zi 1),zm 4 5] (.cond (t 4) (zs [zM 2 (v (S [114,110,48,48]))] .ret) (.seq (zs [zA 7 .eql (t 3) (zi 2),zm 6 7] (.cond (t 6) .skip (zs [zA 8 .eql (t 3) (zi 3),zm 6 8] (.cond (t 6) .skip (zs [zA 9 .eql (t 3) (zi 12),zm 6 9] (.cond (t 6) .skip (zs [zA 10 .eql (t 3) (zi 15),zm 6 10] (.cond (t 6) .skip (.ops [zA 11 .eql (t 3) (zi 31),zm 6 11]))))))))) (.cond (t 6) (zs [zM 2 (v (S [114,114,48,48]))] .ret) (.seq (zs [zA 13 .eql (t 3) (zi 4),zm 12 13] (.cond (t 12) .skip (zs [zA 14 .eql (t 3) (zi 7),zm 12 14] (.cond (t 12) .skip (zs [zA 15 .eql (t 3) (zi 8),zm 12 15] (.cond (t 12) .skip (.ops [zA 16 .eql (t 3) (zi 9),zm 12 16]))))))) (.cond (t 12) (zs [zM 2 (v (S [114,114,114,48]))] .ret) (zs [zA 18 .eql (t 3) (zi 5),zm 17 18] (.cond (t 17) (zs [zM 2 (v (S [114,103,48,48]))] .ret) (zs [zA 20 .eql (t 3) (zi 6),zm 19 20] (.cond (t 19) (zs [zM 2 (v (S [103,114,48,48]))] .ret) (.seq (zs [zA 22 .eql (t 3) (zi 10),zm 21 22] (.cond (t 21) .skip (zs [zA 23 .eql (t 3) (zi 13),zm 21 23] (.cond (t 21) .skip (zs [zA 24 .eql (t 3) (zi 14),zm 21 24] (.cond (t 21) .skip (zs [zA 25 .eql (t 3) (zi 23),zm 21 25] (.cond (t 21) .skip (zs [zA 26 .eql (t 3) (zi 24),zm 21 26] (.cond (t 21) .skip (zs [zA 27 .eql (t 3) (zi 26),zm 21 27] (.cond (t 21) .skip (zs [zA 28 .eql (t 3) (zi 29),zm 21 28] (.cond (t 21) .skip (zs [zA 29 .eql (t 3) (zi 25),zm 21 29] (.cond (t 21) .skip (zs [zA 30 .eql (t 3) (zi 28),zm 21 30] (.cond (t 21) .skip (.ops [zA 31 .eql (t 3) (zi 37),zm 21 31]))))))))))))))))))) (.cond (t 21) (zs [zM 2 (v (S [114,48,48,48]))] .ret) (zs [zA 33 .eql (t 3) (zi 11),zm 32 33] (.cond (t 32) (zs [zM 2 (v (S [114,114,107,82]))] .ret) (.seq (zs [zA 35 .eql (t 3) (zi 16),zm 34 35] (.cond (t 34) .skip (zs [zA 36 .eql (t 3) (zi 32),zm 34 36] (.cond (t 34) .skip (.ops [zA 37 .eql (t 3) (zi 33),zm 34 37]))))) (.cond (t 34) (zs [zM 2 (v (S [114,114,100,114]))] .ret) (.seq (zs [zA 39 .eql (t 3) (zi 17),zm 38 39] (.cond (t 38) .skip (.ops [zA 40 .eql (t 3) (zi 18),zm 38 40]))) (.cond (t 38) (zs [zM 2 (v (S [114,114,48,48]))] .ret) (zs [zA 42 .eql (t 3) (zi 19),zm 41 42] (.cond (t 41) (zs [zM 2 (v (S [48,48,112,48]))] .ret) (zs [zA 44 .eql (t 3) (zi 20),zm 43 44] (.cond (t 43) (zs [zM 2 (v (S [114,48,112,48]))] .ret) (.seq (zs [zA 46 .eql (t 3) (zi 21),zm 45 46] (.cond (t 45) .skip (.ops [zA 47 .eql (t 3) (zi 27),zm 45 47]))) (.cond (t 45) (zs [zM 2 (v (S [82,98,48,48]))] .ret) (zs [zA 49 .eql (t 3) (zi 22),zm 48 49] (.cond (t 48) (zs [zM 2 (v (S [82,48,48,48]))] .ret) (zs [zA 51 .eql (t 3) (zi 34),zm 50 51] (.cond (t 50) (zs [zM 2 (v (S [82,114,82,48]))] .ret) (zs [zA 53 .eql (t 3) (zi 35),zm 52 53] (.cond (t 52) (zs [zM 2 (v (S [82,114,48,48]))] .ret) .skip)))))))))))))))))))))))))))))))) (zs [zM 2 (v (S [48,48,48,48]))] .ret)))⟩
def ir215 : IFunc := ⟨82,[.tmp 8],(zs [zg 4 (.box 24 (t 0)),zg 5 (.box 61 (t 1)),zM 8 (v (.bool false))] (.seq (zs [zm 9 2] (.block 0 (zs [zA 11 .eql (t 9) (v (.int .u8 114)),zm 10 11] (.cond (t 10) (zs [zm 12 3,zA 13 .geq (t 12) (zi 0),zm 14 13,zG 15 14 true (.mov (t 3)),zG 16 14 true (.fieldAddr 1 (t 5)),zG 17 14 true (.load none (t 16)),zG 18 14 true (.arith .lss (t 15) (t 17)),zP 19 (t 14) (t 18) (v (.bool false)),zm 8 19] .ret) (zs [zA 21 .eql (t 9) (v (.int .u8 82)),zm 20 21] (.cond (t 20) (zs [zm 22 3,zA 23 .geq (t 22) (zi (-1)),zm 24 23,zG 25 24 true (.mov (t 3)),zG 26 24 true (.fieldAddr 1 (t 5)),zG 27 24 true (.load none (t 26)),zG 28 24 true (.arith .lss (t 25) (t 27)),zP 29 (t 24) (t 28) (v (.bool false)),zm 8 29] .ret) (zs [zA 31 .eql (t 9) (v (.int .u8 103)),zm 30 31] (.cond (t 30) (zs [zm 32 3,zA 33 .geq (t 32) (zi 0),zm 34 33,zG 35 34 true (.mov (t 3)),zG 36 34 true (.fieldAddr 0 (t 4)),zG 37 34 true (.load none (t 36)),zG 38 34 true (.arith .lss (t 35) (t 37)),zP 39 (t 34) (t 38) (v (.bool false)),zm 8 39] .ret) (zs [zA 41 .eql (t 9) (v (.int .u8 98)),zm 40 41] (.cond (t 40) (zs [zm 42 3,zA 43 .geq (t 42) (zi 0),zm 44 43,zG 45 44 true (.mov (t 3)),zG 46 44 true (.fieldAddr 1 (t 4)),zG 47 44 true (.load none (t 46)),zG 48 44 true (.lenSl (t 47)),zG 49 44 true (.arith .lss (t 45) (t 48)),zP 50 (t 44) (t 49) (v (.bool false)),zm 8 50] .ret) (zs [zA 52 .eql (t 9) (v (.int .u8 112)),zm 51 52] (.cond (t 51) (zs [zm 53 3,zA 54 .geq (t 53) (zi 0),zm 55 54,zG 56 55 true (.mov (t 3)),zG 57 55 true (.fieldAddr 3 (t 5)),zG 58 55 true (.load none (t 57)),zG 59 55 true (.lenSl (t 58)),zG 60 55 true (.arith .lss (t 56) (t 59)),zP 61 (t 55) (t 60) (v (.bool false)),zm 8 61] .ret) (zs [zA 63 .eql (t 9) (v (.int .u8 100)),zm 62 63] (.cond (t 62) (zs [zm 64 3,zA 65 .eql (t 64) (zi 0),zm 66 65,zG 67 66 false (.mov (t 3)),zG 68 66 false (.arith .eql (t 67) (zi 1)),zP 69 (t 66) (v (.bool true)) (t 68),zm 8 69] .ret) (zs [zA 71 .eql (t 9) (v (.int .u8 107)),zm 70 71] (.cond (t 70) (zs [zm 72 3,zA 73 .geq (t 72) (zi 1),zm 74 73,zG 75 74 true (.mov (t 3)),zG 76 74 true (.arith .leq (t 75) (zi 4)),zP 77 (t 74) (t 76) (v (.bool false)),zm 8 77] .ret) (zs [zA 79 .eql (t 9) (v (.int .u8 110)),zm 78 79] (.cond (t 78) (zs [zM 8 (v (.bool true))] .ret) .skip)))))))))))))))))) (zs [zm 80 3,zA 81 .eql (t 80) (zi 0),zm 8 81] .ret)))⟩
def ir216 : IFunc := ⟨19,[.tmp 2],(zs [zM 2 (v (.slice none 0 0))] (.seq (zs [zm 3 0] (.block 0 (zs [zA 5 .eql (t 3) (zi 3),zm 4 5] (.cond (t 4) (zs [zg 6 (.buildSlice 9 2 [(S []),(S [])] [(0,1,(v (S [45]))),(1,1,(v (S [33])))]),zm 2 6] .ret) (zs [zA 8 .eql (t 3) (zi 4),zm 7 8] (.cond (t 7) (zs [zg 9 (.buildSlice 9 15 [(S []),(S []),(S []),(S []),(S []),(S []),(S []),(S []),(S []),(S []),(S []),(S []),(S []),(S []),(S [])] [(0,1,(v (S [43]))),(1,1,(v (S [45]))),(2,1,(v (S [42]))),(3,1,(v (S [47]))),(4,1,(v (S [37]))),(5,1,(v (S [61,61]))),(6,1,(v (S [33,61]))),(7,1,(v (S [60]))),(8,1,(v (S [60,61]))),(9,1,(v (S [62]))),(10,1,(v (S [62,61]))),(11,1,(v (S [109,105,110]))),(12,1,(v (S [109,97,120]))),(13,1,(v (S [38,38]))),(14,1,(v (S [124,124])))]),zm 2 9] .ret) (zs [zA 11 .eql (t 3) (zi 15),zm 10 11] (.cond (t 10) (zs [zg 12 (.buildSlice 9 5 [(S []),(S []),(S []),(S []),(S [])] [(0,1,(v (S [115,105,122,101]))),(1,1,(v (S [108,111,119]))),(2,1,(v (S [104,105,103,104]))),(3,1,(v (S [115,116,114,105,100,101]))),(4,1,(v (S [100,111,109,97,105,110])))]),zm 2 12] .ret) (zs [zA 14 .eql (t 3) (zi 34),zm 13 14] (.cond (t 13) (zs [zg 15 (.buildSlice 9 8 [(S []),(S []),(S []),(S []),(S []),(S []),(S []),(S [])] [(0,1,(v (S [114,101,97,100,70,69]))),(1,1,(v (S [114,101,97,100,70,70]))),(2,1,(v (S [114,101,97,100,88,88]))),(3,1,(v (S [119,114,105,116,101,69,70]))),(4,1,(v (S [119,114,105,116,101,70,70]))),(5,1,(v (S [119,114,105,116,101,88,70]))),(6,1,(v (S [114,101,115,101,116]))),(7,1,(v (S [105,115,70,117,108,108])))]),zm 2 15] .ret) (zs [zA 17 .eql (t 3) (zi 35),zm 16 17] (.cond (t 16) (zs [zg 18 (.buildSlice 9 6 [(S []),(S []),(S []),(S []),(S []),(S [])] [(0,1,(v (S [114,101,97,100]))),(1,1,(v (S [119,114,105,116,101]))),(2,1,(v (S [97,100,100]))),(3,1,(v (S [102,101,116,99,104,65,100,100]))),(4,1,(v (S [101,120,99,104,97,110,103,101]))),(5,1,(v (S [99,111,109,112,97,114,101,65,110,100,83,119,97,112])))]),zm 2 18] .ret) .skip)))))))))))) (zs [zM 2 (v (.slice none 0 0))] .ret)))⟩
def ir217 : IFunc := ⟨18,[.tmp 4],(zs [zM 4 (v (.bool false))] (.seq (zs [zM 5 (zi 0)] (.block 0 (.loop (.seq (zs [zm 6 5,zm 7 0,zn 8 7,za 9 .lss 6 8] (.cond (t 9) .skip (.exit 0))) (.seq (.block 1 (zs [zm 12 0,zm 13 5,zx 14 1 12 13,zl 15 14,zm 16 1,za 17 .eql 15 16] (.cond (t 17) (zs [zM 4 (v (.bool true))] .ret) .skip))) (.ops [zm 10 5,zA 11 .add (t 10) (zi 1),zm 5 11])))))) (zs [zM 4 (v (.bool false))] .ret)))⟩
def ir218 : IFunc := ⟨61,[.tmp 4,.tmp 5],(zs [zg 2 (.box 24 (t 0)),zg 3 (.box 65 (t 1)),zM 4 (zi 0),zM 5 (zi 0)] (.seq (zs [zf 7 0 3,zl 8 7] (.block 0 (.seq (zs [zA 10 .eql (t 8) (zi 10),zm 9 10] (.cond (t 9) .skip (zs [zA 11 .eql (t 8) (zi 17),zm 9 11] (.cond (t 9) .skip (.ops [zA 12 .eql (t 8) (zi 18),zm 9 12]))))) (.cond (t 9) (zs [zM 4 (zi 1),zM 5 (zi 2)] .ret) (.seq (zs [zA 14 .eql (t 8) (zi 21),zm 13 14] (.cond (t 13) .skip (.ops [zA 15 .eql (t 8) (zi 27),zm 13 15]))) (.cond (t 13) (zs [zf 16 2 3,zl 17 16,zA 18 .geq (t 17) (zi 0),zm 19 18,zG 20 19 true (.fieldAddr 2 (t 3)),zG 21 19 true (.load none (t 20)),zG 22 19 true (.fieldAddr 1 (t 2)),zG 23 19 true (.load none (t 22)),zG 24 19 true (.lenSl (t 23)),zG 25 19 true (.arith .lss (t 21) (t 24)),zP 26 (t 19) (t 25) (v (.bool false))] (.cond (t 26) (.seq (.draw [zf 27 1 2,zl 28 27,zf 29 2 3,zl 30 29,zx 31 4 28 30,zf 32 2 31,zl 33 32,zf 34 1 2,zl 35 34,zf 36 2 3,zl 37 36,zx 38 4 35 37,zf 39 2 38,zl 40 39,zm 4 33] [zm 5 40]) .ret) .skip)) (zs [zA 42 .eql (t 8) (zi 33),zm 41 42] (.cond (t 41) (zs [zM 4 (zi 1),zM 5 (zi 1)] .ret) (zs [zA 44 .eql (t 8) (zi 35),zm 43 44] (.cond (t 43) (zs [zM 6 (zi 1)] (.seq (zs [zf 45 5 3,zl 46 45,zA 47 .eql (t 46) (v (S [114,101,97,100]))] (.cond (t 47) (.ops [zM 6 (zi 0)]) .skip)) (.seq (zs [zf 48 5 3,zl 49 48,zA 50 .eql (t 49) (v (S [99,111,109,112,97,114,101,65,110,100,83,119,97,112]))] (.cond (t 50) (.ops [zM 6 (zi 2)]) .skip)) (zs [zm 51 6,zm 52 6,zm 4 51,zm 5 52] .ret)))) (zs [zA 54 .eql (t 8) (zi 36),zm 53 54] (.cond (t 53) (.seq (.draw [zf 55 5 3,zl 56 55,zC 57 303 [(t 56)],zf 58 5 3,zl 59 58] [zC 60 303 [(t 59)],zm 4 57,zm 5 60]) .ret) .skip)))))))))))) (zs [zM 4 (zi 0),zM 5 (zi 0)] .ret)))⟩
def ir288 : IFunc := ⟨15,[.tmp 2],(zs [zM 2 (v (S []))] (.seq (zs [zm 3 0,zA 4 .lss (t 3) (zi 10)] (.cond (t 4) (zs [zm 5 0,zm 6 0,zA 7 .add (t 6) (zi 1),zg 8 (.sliceStr (v (S [48,49,50,51,52,53,54,55,56,57,97,98,99,100,101,102,103,104,105,106,107,108,109,110,111,112,113,114,115,116,117,118,119,120,121,122])) (some (t 5)) (some (t 7))),zm 2 8] .ret) .skip)) (zs [zm 9 0,zA 10 .mul (t 9) (zi 2),zm 11 0,zA 12 .mul (t 11) (zi 2),zA 13 .add (t 12) (zi 2),zg 14 (.sliceStr (v (S [48,48,48,49,48,50,48,51,48,52,48,53,48,54,48,55,48,56,48,57,49,48,49,49,49,50,49,51,49,52,49,53,49,54,49,55,49,56,49,57,50,48,50,49,50,50,50,51,50,52,50,53,50,54,50,55,50,56,50,57,51,48,51,49,51,50,51,51,51,52,51,53,51,54,51,55,51,56,51,57,52,48,52,49,52,50,52,51,52,52,52,53,52,54,52,55,52,56,52,57,53,48,53,49,53,50,53,51,53,52,53,53,53,54,53,55,53,56,53,57,54,48,54,49,54,50,54,51,54,52,54,53,54,54,54,55,54,56,54,57,55,48,55,49,55,50,55,51,55,52,55,53,55,54,55,55,55,56,55,57,56,48,56,49,56,50,56,51,56,52,56,53,56,54,56,55,56,56,56,57,57,48,57,49,57,50,57,51,57,52,57,53,57,54,57,55,57,56,57,57])) (some (t 10)) (some (t 13))),zm 2 14] .ret)))⟩
def ir292 : IFunc := ⟨8,[.tmp 4],(zs [zM 4 (zi 0)] (zs [zm 5 0,zm 6 1,zC 7 364 [(t 5),(t 6),(v (.bool true))],zm 4 7] .ret))⟩
def ir293 : IFunc := ⟨19,[.tmp 4],(zs [zM 4 (zi 0)] (.seq (zs [zm 6 0,zn 7 6,zM 8 (zi 0)] (.block 0 (.loop (zs [za 9 .lss 8 7] (.seq (.cond (t 9) .skip (.exit 0)) (.seq (.block 1 (zs [zm 10 8,zm 5 10] (zs [zm 11 1,zm 12 0,zm 13 5,zx 14 1 12 13,zl 15 14,za 16 .eql 11 15] (.cond (t 16) (zs [zm 17 5,zm 4 17] .ret) .skip)))) (.ops [zA 18 .add (t 8) (zi 1),zm 8 18]))))))) (zs [zM 4 (zi (-1))] .ret)))⟩
def ir296 : IFunc := ⟨34,[.tmp 4],(zs [zM 4 (zi 0)] (.seq (zs [zm 7 1,zg 8 (.lenStr (t 7)),zA 9 .eql (t 8) (zi 0)] (.cond (t 9) (zs [zm 10 0,zC 11 366 [(t 10)],zA 12 .add (t 11) (zi 1),zm 4 12] .ret) .skip)) (.seq (zs [zm 13 1,zg 14 (.lenStr (t 13)),zA 15 .eql (t 14) (zi 1)] (.cond (t 15) (zs [zm 16 0,zm 17 1,zg 18 (.indexStr (t 17) (zi 0)),zC 19 367 [(t 16),(t 18)],zm 4 19] .ret) .skip)) (zs [zM 5 (zi 0)] (.block 0 (.loop (.block 1 (zs [zm 20 0,zm 21 1,zC 22 368 [(t 20),(t 21)],zm 6 22] (.seq (zs [zm 23 6,zA 24 .eql (t 23) (zi (-1))] (.cond (t 24) (zs [zm 25 5,zm 4 25] .ret) .skip)) (zs [zm 26 5,zA 27 .add (t 26) (zi 1),zm 5 27] (.ops [zm 28 0,zm 29 6,zm 30 1,zg 31 (.lenStr (t 30)),za 32 .add 29 31,zg 33 (.sliceStr (t 28) (some (t 32)) none),zm 0 33])))))))))))⟩
def ir302 : IFunc := ⟨17,[.tmp 2],(zs [zM 2 (v (.bool false))] (zs [zm 3 0,zA 4 .geq (t 3) (v (.int .u8 97)),zm 5 4,zG 6 5 true (.mov (t 0)),zG 7 5 true (.arith .leq (t 6) (v (.int .u8 122))),zP 8 (t 5) (t 7) (v (.bool false)),zm 9 8,zG 10 9 false (.mov (t 0)),zG 11 9 false (.arith .geq (t 10) (v (.int .u8 65))),zG 12 9 false (.mov (t 11)),zG 13 12 true (.mov (t 0)),zG 14 12 true (.arith .leq (t 13) (v (.int .u8 90))),zG 15 9 false (.pick (t 12) (t 14) (v (.bool false))),zP 16 (t 9) (v (.bool true)) (t 15),zm 2 16] .ret))⟩
def ir303 : IFunc := ⟨18,[.tmp 2],(zs [zM 2 (zi 0)] (zs [zM 3 (zi 0)] (.seq (zs [zM 4 (zi 0)] (.block 0 (.loop (.seq (zs [zm 5 4,zm 6 0,zg 7 (.lenStr (t 6)),za 8 .lss 5 7] (.cond (t 8) .skip (.exit 0))) (.seq (.block 1 (zs [zm 11 0,zm 12 4,zg 13 (.indexStr (t 11) (t 12)),zA 14 .eql (t 13) (v (.int .u8 0))] (.cond (t 14) (.ops [zm 15 3,zA 16 .add (t 15) (zi 1),zm 3 16]) .skip))) (.ops [zm 9 4,zA 10 .add (t 9) (zi 1),zm 4 10])))))) (zs [zm 17 3,zm 2 17] .ret))))⟩
def ir364 : IFunc := ⟨21,[.tmp 6],(zs [zM 6 (zi 0)] (.seq (zs [zm 9 0,zg 10 (.rangeStr (t 9))] (.block 0 (.loop (zs [zg 11 (.nextStr (t 10)),zg 12 (.extract (t 11) 0)] (.seq (.cond (t 12) .skip (.exit 0)) (.block 1 (zs [zg 13 (.extract (t 11) 1),zg 14 (.extract (t 11) 2),zm 7 13,zm 8 14] (zs [zm 15 1,zm 16 8,zg 17 (.call (t 15) [(t 16)]),zm 18 2,zg 19 (.eqBool false (t 17) (t 18))] (.cond (t 19) (zs [zm 20 7,zm 6 20] .ret) .skip))))))))) (zs [zM 6 (zi (-1))] .ret)))⟩
end Go.Den.IrD
/- Den, part ZC: strings.Builder's copyCheck and String as contracts: what they do to abstract heaps. -/
namespace Go.Den
def xCheck (T : TypeId) : List Value → AH → Option (Out × AH)
 | [.pointer (some ⟨k,0,none⟩)],H => match H.get k with
  | some (.cells _ t false true _ _ _) => if t = T then match H.row k with
    | some [.pointer none,s] => match H.write k [.pointer (some ⟨k,0,none⟩),s] with
     | some H' => some (.ret (.tuple #[]),H')
     | none => none
    | some [.pointer (some ⟨k',0,none⟩),_] => if k' = k then some (.ret (.tuple #[]),H) else none
    | _ => none
   else none
  | _ => none
 | _,_ => none
def xStr (e : TypeId) : List Value → AH → Option (Out × AH)
 | [.pointer (some ⟨k,0,none⟩)],H => match H.row k with
  | some [_,.slice a n _] => match a with
   | none => if n = 0 then some (.ret (.string .empty),H) else none
   | some ⟨j,o,none⟩ => match H.get j,H.row j with
    | some (.cells _ t false _ root _ _),some cs => match H.get root with
     | some (.cells rcs rt rro rex rroot _ _) =>
      if n ≠ 0 ∧ n < 4611686018427387904 ∧ t = e ∧ o + n ≤ cs.length ∧ ((cs.drop o).take n).all isU8 = true then
       some (.ret (.string ⟨(((cs.drop o).take n).map byteV).toArray⟩),H.put root (.cells rcs rt rro rex rroot H.next H.next))
      else none
     | _ => none
    | _,_ => none
   | _ => none
  | _ => none
 | _,_ => none
end Go.Den
/- The seat's functions, part A: comparisons and searches of lists. -/
namespace Go.Den
open IrD
attribute [local irreducible] T.get T.set
def FD : FuncId → Option IFunc
 | 3 => some ir3
 | 13 => some ir13
 | 15 => some ir15
 | 16 => some ir16
 | 17 => some ir17
 | 18 => some ir18
 | 19 => some ir19
 | 20 => some ir20
 | 21 => some ir21
 | 22 => some ir22
 | 27 => some ir27
 | 50 => some ir50
 | 67 => some ir67
 | 68 => some ir68
 | 69 => some ir69
 | 70 => some ir70
 | 71 => some ir71
 | 72 => some ir72
 | 73 => some ir73
 | 74 => some ir74
 | 75 => some ir75
 | 76 => some ir76
 | 78 => some ir78
 | 79 => some ir79
 | 80 => some ir80
 | 81 => some ir81
 | 84 => some ir84
 | 85 => some ir85
 | 86 => some ir86
 | 87 => some ir87
 | 88 => some ir88
 | 92 => some ir92
 | 125 => some ir125
 | 126 => some ir126
 | 132 => some ir132
 | 133 => some ir133
 | 134 => some ir134
 | 135 => some ir135
 | 136 => some ir136
 | 137 => some ir137
 | 139 => some ir139
 | 140 => some ir140
 | 141 => some ir141
 | 142 => some ir142
 | 143 => some ir143
 | 144 => some ir144
 | 145 => some ir145
 | 146 => some ir146
 | 147 => some ir147
 | 148 => some ir148
 | 149 => some ir149
 | 152 => some ir152
 | 153 => some ir153
 | 187 => some ir187
 | 188 => some ir188
 | 189 => some ir189
 | 190 => some ir190
 | 192 => some ir192
 | 193 => some ir193
 | 194 => some ir194
 | 195 => some ir195
 | 196 => some ir196
 | 197 => some ir197
 | 198 => some ir198
 | 199 => some ir199
 | 200 => some ir200
 | 201 => some ir201
 | 202 => some ir202
 | 213 => some ir213
 | 214 => some ir214
 | 215 => some ir215
 | 216 => some ir216
 | 217 => some ir217
 | 218 => some ir218
 | 288 => some ir288
 | 292 => some ir292
 | 293 => some ir293
 | 296 => some ir296
 | 302 => some ir302
 | 303 => some ir303
 | 364 => some ir364
 | _ => none
def xCount : List Value → AH → Option (Out × AH)
 | [.string s,.int .u8 c],H => some (.ret (.int .i64 ((s.data.toList.count c.toNat.toUInt8 : Nat) : Int)),H)
 | _,_ => none
def XN : Ext := fun f => if f = 367 then some xCount else none
def GlRows (H : AH) : Prop := ∀ k z,glZ k = some z → ∃ ro thr tip,H.get k = some (.cells z.cs z.t ro true k thr tip) ∧ thr ≤ k
open Classical in
noncomputable def xAwake : List Value → AH → Option (Out × AH)
 | [],H => if GlRows H then some (.ret (.bool true),H) else none
 | _,_ => none
def intsV : List Value → Option (List Int)
 | [] => some []
 | v :: vs => match v,intsV vs with
  | .int .i64 n,some l => some (n :: l)
  | _,_ => none
def sortI (l : List Int) : List Int := l.mergeSort fun x y => decide (x ≤ y)
@[simp] theorem sortI_len {l : List Int} : (sortI l).length = l.length := by simp [sortI]
def xSort : List Value → AH → Option (Out × AH)
 | [.slice a n c],H => if n = 0 then some (.ret (.tuple #[]),H) else if 4611686018427387904 ≤ n then none else match a with
  | some ad => match srC H 1 (.slice (some ad) n c) with
   | some (cells,_) => match intsV cells with
    | some zs => match storeV H n (.pointer (some ad)) (.agg ((sortI zs).map (.int .i64)).toArray) with
     | some H' => some (.ret (.tuple #[]),H')
     | none => none
    | none => none
   | none => none
  | none => none
 | _,_ => none
def compI (zs : List Int) : List Int := Lib.compact zs ++ List.replicate (zs.length - (Lib.compact zs).length) 0
def xComp : List Value → AH → Option (Out × AH)
 | [.slice a n c],H => if n = 0 then some (.ret (.slice a n c),H) else if 4611686018427387904 ≤ n then none else match a with
  | some ad => match srC H 1 (.slice (some ad) n c) with
   | some (cells,_) => match intsV cells with
    | some zs => match storeV H n (.pointer (some ad)) (.agg ((compI zs).map (.int .i64)).toArray) with
     | some H' => some (.ret (.slice (some ad) (Lib.compact zs).length c),H')
     | none => none
    | none => none
   | none => none
  | none => none
 | _,_ => none
noncomputable def XA : Ext := fun f => if f = 14 then some xAwake else if f = 82 then some xSort else if f = 83 then some xComp else if f = 138 then some (xCheck 141) else if f = 77 then some (xStr 5) else none
theorem FD_ext : ∀ f fn,FD f = some fn → XA f = none ∧ XN f = none := by
 intro f fn h
 refine ⟨?_, ?_⟩
 ·unfold XA
  split
  ·rename_i h8; subst h8; cases h
  split
  ·rename_i h8; subst h8; cases h
  split
  ·rename_i h8; subst h8; cases h
  split
  ·rename_i h8; subst h8; cases h
  split
  ·rename_i h8; subst h8; cases h
  ·rfl
 ·unfold XN
  split
  ·rename_i h8; subst h8; cases h
  ·rfl
abbrev PPd := PP FD XA XN
abbrev big (n : Nat) : Prop := n ≤ 4611686018427387904
theorem wnc {i n : Nat} (h : i < n) (hn : big n) : IntKind.wrap .i64 ((i : Int) + 1) = ((i + 1 : Nat) : Int) := by
 rw [wrap64 (by omega) (by omega)]; simp
theorem take_step {l : List Int} {i : Nat} {n : Int} (h : i < l.length) (h1 : n ∉ l.take i) (h2 : ¬ l[i] = n) : n ∉ l.take (i + 1) := by
 rw [List.take_succ_eq_append_getElem h]
 simp only [List.mem_append,List.mem_singleton,not_or]
 exact ⟨h1,fun e => h2 e.symm⟩
theorem has_ok {t : TypeId} {l : List Int} {n : Int} (hl : big l.length) : PPd (.fn 144 [] []) [ints t l,pin n] (pbool (decide (n ∈ l))) := by
 refine PPc rfl rfl rfl (by simp) (by simp) (by simp) (PW_ok _ ?_)
 simp [ir144]
 refine PC_loop0 (fun m E L => ∃ i,i + m = l.length ∧ n ∉ l.take i ∧ L = [] ∧ E.get 0 = some (ints t l) ∧ E.get 1 = some (pin n) ∧ E.get 5 = some (pin i)) ?_ (k := l.length) ⟨0,by simp⟩
 rintro m E L ⟨i,him,hc,rfl,e0,e1,e5⟩
 simp [e0,e1,e5,ints]
 refine ⟨fun h => ?_,fun h => ?_⟩
 ·simp [e0,e1,e5,cut1 h,h,wnc h hl]
  refine ⟨fun h1 => ?_,fun h1 => ?_⟩
  ·exact .decT (h1 ▸ List.getElem_mem h)
  ·exact ⟨m - 1,by omega,i + 1,by omega,take_step h hc h1,by simp [ints]⟩
 ·rw [List.take_of_length_le h] at hc
  simp [hc]; exact .same rfl
theorem eqInts_ok {t t' : TypeId} {a b : List Int} (hb : big a.length) : PPd (.fn 50 [] []) [ints t a,ints t' b] (pbool (decide (a = b))) := by
 refine PPc rfl rfl rfl (by simp) (by simp) (by simp) (PW_ok _ ?_)
 simp [ir50,ints]
 refine ⟨fun h => ?_,fun h => ?_⟩
 ·exact .decF (fun e => h (by rw [e]))
 ·refine PC_loop0 (fun m E L => ∃ i,i + m = a.length ∧ a.take i = b.take i ∧ L = [] ∧ E.get 0 = some (ints t a) ∧ E.get 1 = some (ints t' b) ∧ E.get 12 = some (pin a.length) ∧ E.get 13 = some (pin i)) ?_ (k := a.length) ⟨0,by simp [ints]⟩
  rintro m E L ⟨i,him,hc,rfl,e0,e1,e12,e13⟩
  simp [e0,e1,e12,e13]
  refine ⟨fun hlt => ?_,fun hge => ?_⟩
  ·have hlt' : i < b.length := by omega
   simp [e0,e1,e12,e13,ints,cut1 hlt,cut1 hlt',hlt,hlt',wnc hlt hb]
   refine ⟨fun h1 => ?_,fun h1 => ?_⟩
   ·exact .decF (fun e => h1 (by simp [e]))
   ·refine ⟨m - 1,by omega,i + 1,by omega, ?_,by simp⟩
    rw [List.take_succ_eq_append_getElem hlt,List.take_succ_eq_append_getElem hlt',hc,h1]
  ·rw [List.take_of_length_le hge,List.take_of_length_le (by omega)] at hc
   exact .decT hc
def blist (t : TypeId) (l : List Bool) : PV := .fz t l.length (l.map pbool)
@[simp] theorem blist_noId {t : TypeId} {l : List Bool} : noId (blist t l) = true := by simp only [blist,noId]; exact noIdL_map fun _ _ => rfl
end Go.Den
