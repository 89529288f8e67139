/- Part 4 of the proof: a compiled form, its executor, what it computes. -/
import Derived.Test.YtabglcbliapijaaGreatDoorK3
import Derived.Laws.Strings
import Derived.Laws.RangeString
set_option linter.all false
set_option maxRecDepth 8000
set_option maxHeartbeats 8000000
/- strings.Builder's copyCheck and String as contracts: they hold of the library's functions. -/
namespace Go.Den
variable {gl : Nat → Bool} {P : Program} {σ : Ren} {H H' : AH}
theorem HR.dead {hp : Array Obj} (h : HR gl P σ H hp) {b : Nat} {ob : Obj} (hd : ∀ l q,σ l = some q → q.b = b → ¬ H.live l) : HR gl P σ H (hp.setIfInBounds b ob) := by
 refine ⟨h.lt,h.fam,fun k p hk => by simpa using h.sig k p hk,fun k p hk => ?_,h.typ,h.dis⟩
 by_cases e : p.b = b
 ·have hn := hd k p hk e
  unfold ObjOk
  unfold AH.live at hn
  cases hg : H.get k with
  | none => trivial
  | some o =>
   rw [hg] at hn
   cases o with
   | cells cs t ro ex root thr tip => exact fun ha => absurd ha hn
   | gone => trivial
   | _ => exact absurd trivial hn
 ·exact (h.obj k p hk).mono (.refl σ) (Array.getElem?_setIfInBounds_ne (Ne.symm e))
theorem VL.two {a b : Value} {cs : List Value} (h : VL σ [a,b] cs) : ∃ x y,cs = [x,y] ∧ VR σ a x ∧ VR σ b y := by
 cases h with
 | cons h1 h2 => cases h2 with
  | cons h3 h4 => cases h4; exact ⟨_,_,rfl,h1,h3⟩
theorem HR.exact2 {hp : Array Obj} (hr : HR gl P σ H hp) {k : Nat} {p : Place} {a b : Value} {cs0 : List Value} {T : TypeId} {root thr tip : Nat} (hk : σ k = some p) (hg : H.get k = some (.cells cs0 T false true root thr tip)) (hrow : H.row k = some [a,b]) :
  p.base = 0 ∧ p.room = 2 ∧ ∃ x y lo hi,hp[p.b]? = some (.cells #[x,y] T (lo,hi)) ∧ VR σ a x ∧ VR σ b y ∧ (lo < hi → 2 ≤ lo) := by
 obtain ⟨t,ro,ex,root',thr',tip',hg',hlive,⟨ccs,t2,lo,hi,hc,hat⟩,_,_,hex⟩ := hr.row hk hrow
 rw [hg] at hg'; cases hg'
 obtain ⟨cc,lh,h1,h2⟩ := hex rfl
 rw [hc] at h1; cases h1
 obtain ⟨h3,h4⟩ := h2 rfl
 have hv := hat.vals
 rw [h3,List.drop_zero,List.take_of_length_le (by simp at h4 ⊢; omega)] at hv
 obtain ⟨x,y,e1,e2,e3⟩ := hv.two
 have : ccs = #[x,y] := by
  obtain ⟨l⟩ := ccs
  simp at e1; rw [e1]
 subst this
 exact ⟨h3,by rw [hat.room,h4]; rfl,x,y,lo,hi,hc,e2,e3,fun h => by have := hat.free rfl h; simpa using this⟩
theorem check_eok {f : FuncId} {T : TypeId}
  (hused : ∀ (b : Nat) (w : World),w.cell? ⟨b,0,none⟩ = some (.pointer (some ⟨b,0,none⟩)) → Calls P f #[.pointer (some ⟨b,0,none⟩)] w fun e w' => e = .returned (.tuple #[]) ∧ w' = w)
  (hfresh : ∀ (b : Nat) (w : World),w.cell? ⟨b,0,none⟩ = some (.pointer none) → w.shape? b = some (T,2) → w.frozen? ⟨b,0,none⟩ = false → Calls P f #[.pointer (some ⟨b,0,none⟩)] w fun e w' => e = .returned (.tuple #[]) ∧ w' = w.setCell ⟨b,0,none⟩ (.pointer (some ⟨b,0,none⟩)))
  {args : List Value} {out : Out} {w : World} {cargs : Array Value} (hx : xCheck T args H = some (out,H')) (hr : HR gl P σ H w.heap) (ha : VL σ args cargs.toList) : Calls P f cargs w (EndP gl P σ H w out H') := by
 unfold xCheck at hx
 split at hx
 case h_2 => cases hx
 rename_i k
 obtain ⟨cv,hcv,hv⟩ : ∃ cv,cargs = #[cv] ∧ VR σ (.pointer (some ⟨k,0,none⟩)) cv := by
  obtain ⟨cl⟩ := cargs
  cases ha with
  | cons h1 h2 => cases h2; exact ⟨_,rfl,h1⟩
 subst hcv
 obtain ⟨k',o',p,he,hk,rfl⟩ := hv.ptr_inv
 cases he
 split at hx
 case h_2 => cases hx
 rename_i cs0 t root thr tip hg
 split at hx
 case isFalse => cases hx
 rename_i ht
 subst ht
 split at hx
 ·rename_i s hrow
  split at hx
  case h_2 => cases hx
  rename_i H2 hw
  cases hx
  obtain ⟨hb,hroom,x,y,lo,hi,hc,hvx,hvy,hfz⟩ := hr.exact2 hk hg hrow
  cases hvx
  obtain ⟨b,base,room,esz⟩ := p
  simp only at hb hroom hc
  subst hb; subst hroom
  generalize hp : Place.mk b 0 2 esz = p at *
  have hpb : p.b = b := by rw [← hp]
  have hpa : p.base = 0 := by rw [← hp]
  have hpr : p.room = 2 := by rw [← hp]
  have hat : CellsAt σ p [.pointer (some ⟨k,0,none⟩),s] false #[.pointer (some ⟨b,0,none⟩),y] lo hi := by
   refine ⟨by rw [hpr]; rfl,by simp [hpa], ?_,fun _ h => by simpa using hfz h⟩
   rw [hpa]
   have h1 : VR σ (.pointer (some ⟨k,0,none⟩)) (.pointer (some ⟨b,0,none⟩)) := by
    have := VR.ptr (σ := σ) (o := 0) hk
    rwa [hpa,hpb] at this
   exact .cons h1 (.cons hvy .nil)
  rw [← hpb] at hc
  obtain ⟨hA,hF⟩ := hr.write hk hrow hw hc rfl hat
  rw [hpb] at hc hA hF
  rw [hpb,hpa,Nat.zero_add]
  have hcb : b < w.heap.size := (Array.getElem?_eq_some_iff.1 hc).1
  refine (hfresh b w (by simp [World.cell?,hc]) (by simp [World.shape?,hc]) (by simp [World.frozen?,hc]; omega)).mono ?_
  rintro e w' ⟨rfl,rfl⟩
  have hheap : (w.setCell ⟨b,0,none⟩ (.pointer (some ⟨b,0,none⟩))).heap = w.heap.setIfInBounds b (.cells #[.pointer (some ⟨b,0,none⟩),y] t (lo,hi)) := by
   apply Array.ext_getElem?
   intro j
   rw [Array.getElem?_setIfInBounds]
   by_cases e : b = j
   ·subst e
    rw [if_pos rfl,if_pos hcb]
    simp only [World.setCell]
    rw [Array.getElem?_modify,if_pos rfl,hc]; rfl
   ·rw [if_neg e]
    simp only [World.setCell]
    rw [Array.getElem?_modify,if_neg e]
  refine ⟨_,σ,rfl,VR.undef σ, ?_, ?_⟩
  ·rw [hheap]; exact hA
  ·refine ⟨?_,rfl,rfl⟩
   rw [hheap]; exact hF
 ·rename_i k2 s hrow
  split at hx
  case isFalse => cases hx
  rename_i e
  subst e
  cases hx
  obtain ⟨hb,hroom,x,y,lo,hi,hc,hvx,hvy,hfz⟩ := hr.exact2 hk hg hrow
  obtain ⟨k3,o3,p3,he,hk3,rfl⟩ := hvx.ptr_inv
  cases he
  rw [hk] at hk3; cases hk3
  rw [hb,Nat.zero_add] at hc
  rw [hb,Nat.zero_add]
  refine (hused p.b w (by simp [World.cell?,hc])).mono ?_
  rintro e w' ⟨rfl,rfl⟩
  exact ⟨_,σ,rfl,VR.undef σ,hr,.refl _ _ _⟩
 ·cases hx
theorem xCheck_K {T : TypeId} {args : List Value} {out : Out} (hx : xCheck T args H = some (out,H')) : KWs H H' := by
 unfold xCheck at hx
 repeat' (split at hx)
 all_goals first | cases hx; done | skip
 ·rename_i hw; cases hx; exact KWs.write hw
 ·cases hx; exact .refl _
theorem xStr_K {e : TypeId} {args : List Value} {out : Out} (hx : xStr e args H = some (out,H')) : KWs H H' := by
 intro w
 unfold xStr at hx
 repeat' (split at hx)
 all_goals first | cases hx; done | skip
 ·cases hx; exact KWs.refl _ w
 ·rename_i root _ _ cs hg hrow _ rcs rt rro rex rroot rthr rtip hgr _
  cases hx
  obtain ⟨a,b,rcs',rt',rro',rex',rthr',rtip',c,d,f,g⟩ := w.fam _ _ _ _ _ _ _ _ hg
  rw [c] at hgr; cases hgr
  have hl := low_put H root (.cells rcs rt rro rex root H.next H.next)
  have k1 : KWs H (H.put root (.cells rcs rt rro rex root H.next H.next)) := KWs.root (tip' := H.next) c g (Nat.le_refl _) rfl hl.1 (.inl hl.2) (by rw [AH.gpt,if_pos rfl]) (fun j hj => .inl (by rw [AH.gpt,if_neg hj]))
  exact k1 w
theorem str_eok {f : FuncId} {te : TypeId}
  (hnil : ∀ (b x : Nat) (w : World),w.cell? ⟨b,x + 1,none⟩ = some (.slice none 0 0) → Calls P f #[.pointer (some ⟨b,x,none⟩)] w fun e w' => e = .returned (.string .empty) ∧ w'.heap = w.heap ∧ w'.os = w.os ∧ w'.output = w.output)
  (hbytes : ∀ (b x g o cap : Nat) (vs : List Value) (cur : Array Value) (lh : Nat × Nat) (w : World),w.cell? ⟨b,x + 1,none⟩ = some (.slice (some ⟨g,o,none⟩) vs.length cap) → w.heap[g]? = some (.cells cur te lh) → vs ≠ [] → vs.length < 4611686018427387904 →
   vs.length ≤ cap → o + vs.length ≤ cur.size → vs.all isU8 = true → (∀ j v,vs[j]? = some v → cur[o + j]? = some v) →
   Calls P f #[.pointer (some ⟨b,x,none⟩)] w fun e w' => e = .returned (.string ⟨(vs.map byteV).toArray⟩) ∧ w'.os = w.os ∧ w'.output = w.output ∧ ∃ ob,w'.heap = w.heap.setIfInBounds g ob)
  {args : List Value} {out : Out} {w : World} {cargs : Array Value} (hx : xStr te args H = some (out,H')) (hr : HR gl P σ H w.heap) (ha : VL σ args cargs.toList) : Calls P f cargs w (EndP gl P σ H w out H') := by
 unfold xStr at hx
 split at hx
 case h_2 => cases hx
 rename_i k
 obtain ⟨cv,hcv,hv⟩ : ∃ cv,cargs = #[cv] ∧ VR σ (.pointer (some ⟨k,0,none⟩)) cv := by
  obtain ⟨cl⟩ := cargs
  cases ha with
  | cons h1 h2 => cases h2; exact ⟨_,rfl,h1⟩
 subst hcv
 obtain ⟨k',o',p,he,hk,rfl⟩ := hv.ptr_inv
 cases he
 split at hx
 case h_2 => cases hx
 rename_i s0 a n c0 hrow
 obtain ⟨t,ro,ex,root,thr,tip,hg,hlive,⟨ccs,t2,lo,hi,hc,hat⟩,_⟩ := hr.row hk hrow
 obtain ⟨x,y,e1,e2,e3⟩ := hat.vals.two
 have hcell : w.cell? ⟨p.b,p.base + 0 + 1,none⟩ = some y := by
  have h1 := congrArg (fun l => l[1]?) e1
  simp only [List.getElem?_take,List.getElem?_drop,List.length_cons,List.length_nil] at h1
  simp only [World.cell?,hc]
  simpa using h1
 split at hx
 ·split at hx
  case isFalse => cases hx
  rename_i hn
  cases hx
  subst hn
  obtain ⟨_,_,rfl⟩ := e3.sliceNil_inv
  refine (hnil _ _ w hcell).mono ?_
  rintro e w' ⟨rfl,h1,h2,h3⟩
  exact ⟨_,σ,rfl,.string _,by rw [h1]; exact hr,⟨by rw [h1]; exact .refl _ _ _,h2,h3⟩⟩
 case h_3 => cases hx
 rename_i j o _
 split at hx
 case h_2 => cases hx
 rename_i cj tj exj rootj thj tij cs hgj hrowj
 split at hx
 case h_2 => cases hx
 rename_i rcs rt rro rex rroot rthr rtip hgr
 split at hx
 case isFalse => cases hx
 rename_i hcnd
 obtain ⟨hn0,hnb,rfl,hfit,hu8⟩ := hcnd
 cases hx
 rcases e3.slice_inv with ⟨j',o',pj,xo,capc,he,hj,rfl,hd1,hd2,hle⟩ | ⟨h8,_⟩
 case inr => exact absurd h8 hn0
 cases he
 have hxo : xo = pj.base + o := hd1.resolve_right (fun h => by rcases hd2 with h2 | h2 <;> omega)
 subst hxo
 obtain ⟨t',ro',ex',root',thr',tip',hg',hlivej,⟨cur,t3,lo2,hi2,hcj,hatj⟩,_,_,hex⟩ := hr.row hj hrowj
 rw [hgj] at hg'; cases hg'
 obtain ⟨cur2,lh2,h1,_⟩ := hex rfl
 rw [hcj] at h1; cases h1
 have hfitj := hatj.fits
 have hvl : VL σ ((cj.drop o).take n) ((cur.toList.drop (pj.base + o)).take n) := by
  have := (hatj.vals.drop o).take n
  simp only [List.drop_take,List.take_take,List.drop_drop] at this
  rw [Nat.min_eq_left (by omega)] at this
  exact this
 have heq : (cur.toList.drop (pj.base + o)).take n = (cj.drop o).take n := (hvl.u8 hu8)
 generalize hvs : (cj.drop o).take n = vs at *
 have hvn : vs.length = n := by rw [← hvs]; simp; omega
 subst hvn
 have hfam := hr.fam _ _ _ _ _ _ _ _ hgj
 obtain ⟨q1,q2,rcs',rt',rro',rex',rthr',rtip',q3,q4,q5,q6⟩ := hfam
 rw [q3] at hgr; cases hgr
 have hth : rthr ≤ H.next := by
  have := (live_cells hgj).1 hlivej
  rw [AH.alive_iff] at this
  obtain ⟨_,_,_,_,_,_,_,z,hle⟩ := this
  rw [q3] at z; cases z
  have := hr.lt _ _ hgj; omega
 have hR := hr.retag (thr' := H.next) (tip' := H.next) q3 hth q6 (Nat.le_refl _)
 have hF : Fr σ H w.heap σ _ w.heap := Fr.retag (thr' := H.next) (tip' := H.next) q3 hth
 have hget : ∀ i,(H.put rootj (.cells rcs rt rro rex rootj H.next H.next)).get i = (H.put' rootj (.cells rcs rt rro rex rootj H.next H.next)).get i := fun i => by
  simp only [AH.gpt,AH.gtp]
 have hdead : ∀ l q,σ l = some q → q.b = pj.b → ¬ (H.put' rootj (.cells rcs rt rro rex rootj H.next H.next)).live l := by
  intro l q hl hb hll
  have hll0 := live_retag q3 hth hll
  have hfj : H.famOf j = some rootj := by unfold AH.famOf; rw [hgj]
  have hfl : H.famOf l = some rootj := by
   rcases Nat.lt_trichotomy l j with y | y | y
   ·obtain ⟨⟨r,h1,h2⟩,_⟩ := hr.dis l j q pj hl hj y hll0 hlivej hb
    rw [hfj] at h2; cases h2; exact h1
   ·subst y; exact hfj
   ·obtain ⟨⟨r,h1,h2⟩,_⟩ := hr.dis j l pj q hj hl y hlivej hll0 hb.symm
    rw [hfj] at h1; cases h1; exact h2
  unfold AH.famOf at hfl
  cases hgl : H.get l with
  | none => rw [hgl] at hfl; cases hfl
  | some ob => rw [hgl] at hfl; cases ob with
   | cells cs2 t2 ro2 ex2 r2 a2 b2 =>
    simp only at hfl; cases hfl
    have hlt := hr.lt _ _ hgl
    have hlk := like_retag (thr' := H.next) (tip' := H.next) q3 l
    rw [hgl] at hlk
    obtain ⟨a',b',e⟩ := hlk.cells'
    have := (live_cells e).1 hll
    rw [AH.alive_iff] at this
    obtain ⟨_,_,_,_,_,th4,_,z4,hle⟩ := this
    rw [AH.gtp,if_pos rfl] at z4; cases z4
    omega
   | _ => cases hfl
 have hne : vs ≠ [] := by intro h; subst h; exact hn0 rfl
 refine (hbytes _ _ pj.b (pj.base + o) capc vs cur _ w hcell hcj hne hnb (by omega) (by omega) hu8 (fun i v hi => ?_)).mono ?_
 ·rw [← heq,List.getElem?_take] at hi
  split at hi
  ·simpa [Nat.add_assoc] using hi
  ·cases hi
 rintro e w' ⟨rfl,h2,h3,ob,h4⟩
 have hro : ¬ H.roOf j := by unfold AH.roOf; rw [hgj]; simp
 refine ⟨_,σ,rfl,.string _, ?_, ?_,h2,h3⟩
 ·rw [h4]; exact (hR.dead hdead).congr hget rfl
 ·rw [h4]
  refine Fr.congrR ?_ hget rfl
  refine ⟨.refl σ,Nat.le_refl _,fun _ _ => rfl,by simp,fun b hb hpr => ?_,fun b l hl => ?_⟩
  ·have hbn : pj.b ≠ b := by
    rintro rfl
    rcases hpr j pj hj rfl with z | z
    ·exact z hlivej
    ·exact hro z
   exact ⟨Array.getElem?_setIfInBounds_ne hbn,(hF.prot b hb hpr).2⟩
  ·have hbn : pj.b ≠ b := by
    rintro rfl
    rw [hcj] at hl; cases hl
   exact ⟨l,(Array.getElem?_setIfInBounds_ne hbn).trans hl⟩
end Go.Den
/- The seat's functions, part B: Put. -/
namespace Go.Den
open IrD
attribute [local irreducible] T.get T.set
def putL (l : List Int) (n : Int) : List Int := if n ∈ l then l else l.takeWhile (· < n) ++ n :: l.dropWhile (· < n)
theorem takeWhile_at {l : List Int} {n : Int} {i : Nat} (h1 : ∀ x ∈ l.take i,x < n) (hi : i ≤ l.length) (h2 : ∀ h : i < l.length,¬ l[i] < n) : l.takeWhile (· < n) = l.take i ∧ l.dropWhile (· < n) = l.drop i := by
 induction l generalizing i with
 | nil => simp at hi; subst hi; simp
 | cons a l ih =>
  cases i with
  | zero =>
   have := h2 (by simp)
   simp only [List.getElem_cons_zero] at this
   simp [List.takeWhile_cons,List.dropWhile_cons,this]
  | succ i =>
   have ha : a < n := h1 a (by simp)
   obtain ⟨c1,c2⟩ := ih (i := i) (fun x hx => h1 x (by simp [hx])) (by simp at hi; omega) (fun h => by have := h2 (by simpa using h); simpa using this)
   simp [List.takeWhile_cons,List.dropWhile_cons,ha,c1,c2]
theorem rmf {n b : Nat} (h : n ≤ 1000000000) (hb : b ≤ 10000) : roomy n b := by
 unfold roomy
 exact Nat.le_trans (Nat.mul_le_mul (show 2 * n + 1000 ≤ 2000001000 by omega) (show b + 1 ≤ 10001 by omega)) (by decide)
theorem put_ok {l : List Int} {n : Int} (hl : l.length ≤ 1000000) : PPd (.fn 85 [] []) [ints 3 l,pin n] (ints 3 (putL l n)) := by
 have hb : big l.length := by unfold big; omega
 refine PPc rfl rfl rfl (by simp) (by simp) (by simp) (PW_ok _ ?_)
 simp [ir85]
 refine (has_ok hb).runk ?_
 by_cases hn : n ∈ l
 ·simp [hn,putL]
  exact .same (by simp)
 ·simp [hn]
  refine PC_loop0 (fun m E L => ∃ i,i + m = l.length ∧ (∀ x ∈ l.take i,x < n) ∧ L = [] ∧ E.get 0 = some (ints 3 l) ∧ E.get 1 = some (pin n) ∧ E.get 5 = some (pin i)) ?_ (k := l.length) ⟨0,by simp⟩
  rintro m E L ⟨i,him,hc,rfl,e0,e1,e5⟩
  have r0 : roomy 1 8 := rmf (by omega) (by omega)
  by_cases hlt : i < l.length
  ·have r1 : roomy i 8 := rmf (by omega) (by omega)
   have r2 : roomy (i + 1) 8 := rmf (by omega) (by omega)
   have r3 : roomy (i + 1 + (l.length - i)) 8 := rmf (by omega) (by omega)
   have hle : i ≤ l.length := by omega
   simp [e0,e1,e5,ints,hlt,cut1 hlt,cut_take,cut_drop (show i + (l.length - i) = l.length by omega),hle,r0,r1,r2,r3,wnc hlt hb]
   refine ⟨fun h1 => ⟨m - 1,by omega,i + 1,by omega,fun x hx => ?_,by simp⟩,fun h1 => ?_⟩
   ·rw [List.take_succ_eq_append_getElem hlt] at hx
    rcases List.mem_append.1 hx with hx | hx
    ·exact hc x hx
    ·simp at hx; rw [hx]; exact h1
   ·obtain ⟨c1,c2⟩ := takeWhile_at hc hle (fun _ => by omega)
    refine Vw.frz rfl (by simp) (by simp) ?_
    simp [putL,hn,c1,c2]
    omega
  ·obtain rfl : i = l.length := by omega
   have r1 : roomy l.length 8 := rmf (by omega) (by omega)
   have r2 : roomy (l.length + 1) 8 := rmf (by omega) (by omega)
   simp [e0,e1,e5,ints,r0,r1,r2,cut_take]
   obtain ⟨c1,c2⟩ := takeWhile_at hc (Nat.le_refl _) (fun h => absurd h (Nat.lt_irrefl _))
   refine Vw.frz rfl (by simp) (by simp) ?_
   simp [putL,hn,c1,c2]
end Go.Den
/- Pen, part M: calls that only read the objects they are given; loops that go on with what is listed. -/
namespace Go.Den
variable {ρ ρ' : Rho} {ζ ζ' : Zeta} {A A' : Nat → Prop} {H H' : AH} {f f' : Nat → Nat} {E E' : PEnv} {e : Env} {L L' : List LObj} {g : Nat → Nat → Nat} {p : PV} {q : Bool} {n0 : Nat}
variable {F : FuncId → Option IFunc} {X0 X : Ext} {Q : Ex → PEnv → List LObj → Prop}
mutual
def zf : PV → Bool
 | .v _ => true
 | .ptr _ _ => true
 | .slc _ _ _ _ => true
 | .mapr _ => true
 | .yl _ => true
 | .fn _ a c => zfL a && zfL c
 | .ifc _ p => zf p
 | .agg cs => zfL cs
 | .tup cs => zfL cs
 | .fz _ _ _ => false
 | .fp _ => false
 | .ow _ _ _ cs => zfL cs
 | .bx _ cs => zfL cs
def zfL : List PV → Bool
 | [] => true
 | p :: ps => zf p && zfL ps
end
theorem zfL_iff {l : List PV} : zfL l = true ↔ ∀ p ∈ l,zf p = true := by
 induction l with
 | nil => simp [zfL]
 | cons a l ih => simp [zfL,ih]
theorem zfL_get {l : List PV} (h : zfL l = true) (i : Nat) (hi : i < l.length) : zf l[i] = true := zfL_iff.1 h _ (List.getElem_mem hi)
theorem VP.zf {x : Value} (h : VP ρ ζ p x) : Den.zf p = true → VP ρ ζ' p x := by
 induction h with
 | v h => intro _; exact .v h
 | ptr h => intro _; exact .ptr h
 | slc h h1 => intro _; exact .slc h h1
 | slcN h => intro _; exact .slcN h
 | mapr h => intro _; exact .mapr h
 | yl h => intro _; exact .yl h
 | fn h1 _ h3 _ ih1 ih2 =>
  intro hn; simp only [Den.zf,Bool.and_eq_true] at hn
  exact .fn h1 (fun i h h' => ih1 i h h' (zfL_get hn.1 i h)) h3 (fun i h h' => ih2 i h h' (zfL_get hn.2 i h))
 | ifc _ ih => intro hn; simp only [Den.zf] at hn; exact .ifc (ih hn)
 | agg h1 _ ih => intro hn; simp only [Den.zf] at hn; exact .agg h1 (fun i h h' => ih i h h' (zfL_get hn i h))
 | tup h1 _ ih => intro hn; simp only [Den.zf] at hn; exact .tup h1 (fun i h h' => ih i h h' (zfL_get hn i h))
 | fz => intro hn; simp [Den.zf] at hn
 | fz0 => intro hn; simp [Den.zf] at hn
 | fp => intro hn; simp [Den.zf] at hn
theorem WP.zf {x : Value} (h : WP A ρ ζ H f p x) : Den.zf p = true → WP A ρ ζ' H f p x := by
 induction h with
 | val h => intro hn; exact .val (h.zf hn)
 | ow g h1 h2 h3 h4 h5 _ h7 ih => intro hn; simp only [Den.zf] at hn; exact .ow g h1 h2 h3 h4 h5 (fun i h h' => ih i h h' (zfL_get hn i h)) h7
 | bx g h1 h2 h3 h5 _ h7 ih => intro hn; simp only [Den.zf] at hn; exact .bx g h1 h2 h3 h5 (fun i h h' => ih i h h' (zfL_get hn i h)) h7
 | ifc _ ih => intro hn; simp only [Den.zf] at hn; exact .ifc (ih hn)
theorem WL.zf {cs : List PV} {xs : List Value} (h : WL A ρ ζ H f cs xs) (hn : zfL cs = true) : WL A ρ ζ' H f cs xs := by
 obtain ⟨g,a,b,c⟩ := h
 exact ⟨g,a,fun i h h' => (b i h h').zf (zfL_get hn i h),c⟩
def zfO : LObj → Bool
 | .row _ cs => zfL cs
 | .map es _ => zfL (es.map fun e => e.2.1)
 | .rmap .. => false
 | .iter _ _ => true
 | .loop .. => false
 | .nil => true
 | .dead => true
theorem OP.zf {i : Nat} {o : LObj} (h : OP A ρ ζ H f i o) (hn : zfO o = true) : OP A ρ ζ' H f i o := by
 cases o with
 | row t cs =>
  rcases h with ⟨k,r,cells,f',h1,h2,h3,h4,h5,h6⟩ | h
  ·exact .inl ⟨k,r,cells,f',h1,h2,h3,h4,h5.zf hn,h6⟩
  ·exact .inr h
 | map es c => obtain ⟨k,es',f',h1,h0,h2,h3,⟨h4,h5⟩,h6⟩ := h; exact ⟨k,es',f',h1,h0,h2,h3,⟨h4,h5.zf hn⟩,h6⟩
 | rmap => cases hn
 | iter s pos => exact h
 | loop => cases hn
 | nil => exact h
 | dead => trivial
mutual
theorem zf_ren (θ : Nat → Nat) : ∀ p : PV,zf (ren θ p) = zf p
 | .v x => rfl
 | .ptr i o => rfl
 | .slc i o n c => rfl
 | .mapr i => rfl
 | .yl i => rfl
 | .fn f a c => by simp only [ren,zf,zfL_ren θ a,zfL_ren θ c]
 | .ifc t p => by simp only [ren,zf,zf_ren θ p]
 | .agg cs => by simp only [ren,zf,zfL_ren θ cs]
 | .tup cs => by simp only [ren,zf,zfL_ren θ cs]
 | .fz t n cs => rfl
 | .fp cs => rfl
 | .ow t n c cs => by simp only [ren,zf,zfL_ren θ cs]
 | .bx t cs => by simp only [ren,zf,zfL_ren θ cs]
theorem zfL_ren (θ : Nat → Nat) : ∀ l : List PV,zfL (renL θ l) = zfL l
 | [] => rfl
 | p :: ps => by simp only [renL,zfL,zf_ren θ p,zfL_ren θ ps]
end
theorem zfO_ren (θ : Nat → Nat) {o : LObj} (h : zfO o = true) : zfO (renO θ o) = true := by
 cases o with
 | row t cs => simpa [renO,zfO,zfL_ren] using h
 | map es c =>
  simp only [zfO,renO,List.map_map] at h ⊢
  rw [zfL_iff] at h ⊢
  intro p hp
  obtain ⟨x,hx,rfl⟩ := List.mem_map.1 hp
  show zf (ren θ x.2.1) = true
  rw [zf_ren]
  exact h _ (List.mem_map.2 ⟨x,hx,rfl⟩)
 | loop => rfl
 | rmap => rfl
 | _ => exact h
theorem PF.ro {fv fv' : PV} {args args' : List PV} {K : PV → List LObj → Prop} (hfv : Vw [] L fv fv') (hargs : VwL [] L args args') (hf : noId fv' = true) (ha : noIdL args' = true) (h : PF F X0 X q fv' args' [] K)
  (hz : ∀ v0 L0,K v0 L0 → zf v0 = true ∧ ∀ o ∈ L0,zfO o = true) (q' : Bool) :
  PF F X0 X q' fv args L (fun v L' => ∃ v0 L0,K v0 L0 ∧ v = ren (· + L.length) v0 ∧ L' = L ++ L0.map (renO (· + L.length))) := by
 intro A ρ ζ H dv dargs gz ⟨g,hg⟩ hv hargs'
 have hx := zall_x hg []
 have hvz : VP (fun _ => none) (zall [] L ρ ζ H) fv' dv := (hfv.ok hg hv).noId (.refl _) hf
 have haz : VPL (fun _ => none) (zall [] L ρ ζ H) args' dargs := by
  refine VPL.noId (ρ := rhoOf [] ρ) (.refl _) (F2.of_idx (hargs.length.symm.trans hargs'.length) fun i a b => ?_) ha
  have hi : i < args.length := by rw [hargs.length]; exact a
  exact (F2.idx hargs i hi a).ok hg (F2.idx hargs' i hi b)
 have hfrz : ∀ k z,zall [] L ρ ζ H k = some z → FrzRow H k z.r z := by
  intro k z hz
  unfold zall at hz
  split at hz
  ·rename_i hh
   obtain ⟨i,t,cs,h1,h2,h3⟩ := hh
   have hpr : prow L i = some (t,cs) := by simp [prow,h1]
   obtain ⟨_,r,cells,f',c2,c3,c4,c5,c6⟩ := hg.rowK hpr h2
   obtain ⟨z',d1,_,_,d2,d3⟩ := own_zr c2
   rw [d1] at hz; cases hz
   rw [d2]; exact d3
  ·exact (hg.frz k z hz).1
 refine (h (H.next ≤ ·) (fun _ => none) (zall [] L ρ ζ H) H dv dargs (fun k z hk => hx.le k z (gz k z hk)) ⟨fun _ _ => 0,fun i o hi => by simp at hi,fun r => by simp [sumN],fun k z hz => ⟨hfrz k z hz,by simp [sumN]⟩,fun r _ => by simp [sumN],fun j hj => hj,fun i k hk => (by cases hk),hg.wf⟩ hvz haz).mono ?_
 rintro v' H' ⟨ρ',ζ',v0,L0,c1,c2,⟨g0,hg0⟩,c4,c5,_,_,c8⟩
 obtain ⟨z1,z2⟩ := hz _ _ c8
 have hA : ∀ j,H.next ≤ j → A j := hg.acc
 let ρ2 : Rho := fun i => if i < L.length then ρ i else ρ' (i - L.length)
 have hsh : (fun i => ρ2 (i + L.length)) = ρ' := by
  funext i
  show (if i + L.length < L.length then _ else _) = _
  rw [if_neg (by omega),Nat.add_sub_cancel]
 have hle : ρ.Le ρ2 := fun i k hk => by
  show (if i < L.length then _ else _) = _
  rw [if_pos (hg.dom i k hk)]; exact hk
 have hkp := Kp.of_only c5
 let g2 : Nat → Nat → Nat := fun i => if i < L.length then g i else tg (H.next ≤ ·) (g0 (i - L.length))
 have hlen : (L ++ L0.map (renO (· + L.length))).length = L.length + L0.length := by simp
 have hsum : ∀ r,sumN (L.length + L0.length) (fun i => g2 i r) = sumN L.length (fun i => g i r) + sumN L0.length (fun i => tg (H.next ≤ ·) (g0 i) r) := fun r => by
  rw [sumN_add]
  congr 1
  ·exact sumN_congr fun i hi => by show (if i < L.length then g i else _) r = _; rw [if_pos hi]
  ·exact sumN_congr fun i hi => by show (if L.length + i < L.length then _ else tg _ (g0 (L.length + i - L.length))) r = _; rw [if_neg (by omega),Nat.add_sub_cancel_left]
 have hlow : ∀ r,¬ H.next ≤ r → sumN L0.length (fun i => tg (H.next ≤ ·) (g0 i) r) = 0 := fun r hr => sumN_zero fun i _ => by unfold tg; rw [if_neg hr]
 have hup : ∀ r,sumN L0.length (fun i => tg (H.next ≤ ·) (g0 i) r) ≤ sumN L0.length (fun i => g0 i r) := fun r => sumN_mono fun i _ => by unfold tg; split <;> omega
 refine ⟨ρ2,ζ,ren (· + L.length) v0,_,.refl _ _,hle,⟨g2, ?_, ?_, ?_, ?_, ?_, ?_,hg0.wf⟩, ?_,c5.mono (fun j hj => hA j hj),fun _ => c5,by simp,v0,L0,c8,rfl,rfl⟩
 ·intro i o hi
  by_cases hlt : i < L.length
  ·rw [List.getElem?_append_left hlt] at hi
   show OP A ρ2 ζ H' (if i < L.length then g i else _) i o
   rw [if_pos hlt]
   exact (hg.objs i o hi).kp hkp hle (.refl _) (fun _ h => h) (fun _ h => h.elim)
  ·rw [List.getElem?_append_right (by omega),List.getElem?_map] at hi
   cases ho : L0[i - L.length]? with
   | none => rw [ho] at hi; cases hi
   | some o0 =>
    rw [ho] at hi
    cases hi
    have h1 := hg0.objs _ _ ho
    rw [← hsh] at h1
    have h2 := (h1.tightRen).zf (ζ' := ζ) (zfO_ren _ (z2 _ (List.mem_of_getElem? ho)))
    simp only [Nat.sub_add_cancel (show L.length ≤ i by omega)] at h2
    show OP A ρ2 ζ H' (if i < L.length then g i else tg (H.next ≤ ·) (g0 (i - L.length))) i _
    rw [if_neg hlt]
    exact h2.kp (Kp.refl H' (fun _ => False)) (.refl _) (.refl _) hA (fun _ h => h.elim)
 ·intro r
  rw [hlen,hsum]
  by_cases hr : H.next ≤ r
  ·have := hg.bnd r hr; have := hup r; have := hg0.sum r; omega
  ·have := hlow r hr; have := hg.sum r; omega
 ·intro k z hz
  rw [hlen,hsum]
  obtain ⟨d1,d2⟩ := hg.frz k z hz
  refine ⟨hkp.frz _ _ _ id d1, ?_⟩
  have : ¬ H.next ≤ z.r := by have := d1.lt; have := d1.le; omega
  rw [hlow _ this,d2]
 ·intro r hr
  rw [hlen,hsum]
  have := c5.next
  have := hg.bnd r (by omega)
  have := hg0.bnd r hr
  have := hup r
  omega
 ·intro j hj
  exact hA j (Nat.le_trans c5.next hj)
 ·intro i k hk
  rw [hlen]
  have hk' : (if i < L.length then ρ i else ρ' (i - L.length)) = some k := hk
  split at hk'
  ·omega
  ·have := hg0.dom _ _ hk'; omega
 ·rw [← hsh] at c4
  exact (c4.ren).zf (by rw [zf_ren]; exact z1)
def Has (E : PEnv) : List (Nat × PV) → Prop
 | [] => True
 | x :: l => E.get x.1 = some x.2 ∧ Has E l
theorem Has_nil : Has E [] = True := nrfl rfl
theorem Has_cons {t : Nat} {p : PV} {l : List (Nat × PV)} : Has E ((t,p) :: l) = (E.get t = some p ∧ Has E l) := nrfl rfl
def HasV (τ : List Nat) (E : PEnv) (L : List LObj) : List (Nat × PV) → Prop
 | [] => True
 | x :: l => (∃ p,E.get x.1 = some p ∧ Vw τ L p x.2) ∧ HasV τ E L l
theorem HasV_nil {τ : List Nat} : HasV τ E L [] = True := nrfl rfl
theorem HasV_cons {τ : List Nat} {t : Nat} {p : PV} {l : List (Nat × PV)} : HasV τ E L ((t,p) :: l) = ((∃ q,E.get t = some q ∧ Vw τ L q p) ∧ HasV τ E L l) := nrfl rfl
theorem HasV.mem {τ : List Nat} {l : List (Nat × PV)} (h : HasV τ E L l) : ∀ x ∈ l,∃ p,E.get x.1 = some p ∧ Vw τ L p x.2 := by
 induction l with
 | nil => intro x hx; simp at hx
 | cons a l ih =>
  intro x hx
  rcases List.mem_cons.1 hx with rfl | hx
  ·exact h.1
  ·exact ih h.2 x hx
theorem envC_nil {j : Nat} : (envOf []).get j = none := T.get_leaf j
theorem envC {k j : Nat} {v : PV} {l : List (Nat × PV)} : (envOf ((k,v) :: l)).get j = if j = k then some v else (envOf l).get j := by
 rw [show envOf ((k,v) :: l) = (envOf l).set k v from rfl,T.get_set]
theorem Has.set {l : List (Nat × PV)} {k : Nat} {v : PV} (h : Has E l) (hk : k ∉ l.map (·.1)) : Has (E.set k v) l := by
 induction l with
 | nil => trivial
 | cons a l ih =>
  simp only [List.map_cons,List.mem_cons,not_or] at hk
  exact ⟨by rw [T.get_set,if_neg (Ne.symm hk.1)]; exact h.1,ih h.2 hk.2⟩
theorem Has.env {l : List (Nat × PV)} (h : (l.map (·.1)).Nodup) : Has (envOf l) l := by
 induction l with
 | nil => trivial
 | cons a l ih =>
  simp only [List.map_cons,List.nodup_cons] at h
  refine ⟨by rw [show envOf (a :: l) = (envOf l).set a.1 a.2 from rfl,T.get_set,if_pos rfl], ?_⟩
  exact (ih h.2).set h.1
theorem Abs.dropAll (l : List (Nat × PV)) (h : HasV [] E L l) : Abs 0 E L (envOf l) [] :=
 Abs.viewL [] l List.nodup_nil (fun i h => by simp at h) (fun i h => by omega) (Nat.le_refl _) .nil h.mem
theorem Abs.keep (τ : List Nat) (l : List (Nat × PV)) (hnd : τ.Nodup) (hlt : ∀ i ∈ τ,i < L.length) (hL : F2 (fun i o' => ∃ o,L[i]? = some o ∧ VwO τ L o o') τ L') (h : HasV τ E L l) : Abs 0 E L (envOf l) L' :=
 Abs.viewL τ l hnd hlt (fun i h => by omega) (Nat.zero_le _) hL h.mem
def GoOn (J : Nat → PEnv → List LObj → Prop) (k : Nat) (E : PEnv) (L : List LObj) : Prop := ∃ k' E' L',k' < k ∧ Abs 0 E L E' L' ∧ J k' E' L'
@[congr] theorem GoOn_congr {J : Nat → PEnv → List LObj → Prop} {k : Nat} (h : E = E') (h' : L = L') : GoOn J k E L = GoOn J k E' L' := by rw [h,h']
theorem PCl {c : ICode} (J : Nat → PEnv → List LObj → Prop) (round : ∀ k E L,J k E L → PW F X0 X 0 c (pnext (GoOn J k) Q) E L) {k : Nat} (h : J k E L) : PC F X0 X 0 (.loop c) Q E L :=
 PC_loop J (fun k E L hj => PW_ok _ (round k E L hj)) h
theorem GoOn.drop {J : Nat → PEnv → List LObj → Prop} {k : Nat} (l : List (Nat × PV)) (k' : Nat) (hk : k' < k) (hv : HasV [] E L l) (hj : J k' (envOf l) []) : GoOn J k E L := ⟨k',_,_,hk,Abs.dropAll l hv,hj⟩
theorem GoOn.same {J : Nat → PEnv → List LObj → Prop} {k : Nat} (k' : Nat) (hk : k' < k) (hj : J k' E L) : GoOn J k E L := ⟨k',_,_,hk,Abs.refl _ _ _,hj⟩
attribute [simp] Has_nil Has_cons HasV_nil HasV_cons
end Go.Den
/- Flow code: instructions, bodies and codes as trees; Small. -/
namespace Go.Den
open IrD
attribute [local irreducible] T.get T.set
def bstr (l : List UInt8) : ByteArray := ⟨l.toArray⟩
abbrev pstr (l : List UInt8) : PV := .v (.string (bstr l))
@[simp] theorem bstr_size {l : List UInt8} : (bstr l).size = l.length := by simp [bstr,ByteArray.size]
@[simp] theorem bstr_toList {l : List UInt8} : (bstr l).toList = l := by unfold bstr; exact ByteArray.toList_mk l
@[simp] theorem bstr_get {l : List UInt8} {n : Nat} : (bstr l)[n]? = l[n]? := by
 by_cases h : n < l.length
 ·rw [getElem?_pos (bstr l) n (by simpa using h),List.getElem?_eq_getElem h]
  show some ((bstr l).data[n]'_) = _
  simp [bstr]
 ·rw [getElem?_neg (bstr l) n (by simpa using h),List.getElem?_eq_none (by omega)]
@[simp] theorem bstr_get' {l : List UInt8} {n : Nat} (h : n < (bstr l).size) : (bstr l)[n] = l[n]'(by simpa using h) := by
 show (bstr l).data[n]'_ = _
 simp [bstr]
structure FIns where
 op : Int
 a : Int
 b : Int
 c : Int
 d : Int
 text : List UInt8
 list : List Int
def encI (i : FIns) : List PV := [pin i.op,pin i.a,pin i.b,pin i.c,pin i.d,pstr i.text,ints 3 i.list]
@[simp] theorem encI_len (i : FIns) : (encI i).length = 7 := rfl
@[simp] theorem encI_nl (i : FIns) : allNl (encI i) := by simp [encI,ints]
@[simp] theorem encI_noId (i : FIns) : noIdL (encI i) = true := by simp [encI,noIdL,noId]
structure FBody where
 name : List UInt8
 regs : Int
 args : Int
 code : List FIns
def encBo (b : FBody) : List PV := [pstr b.name,pin b.regs,pin b.args,recs 65 encI b.code]
@[simp] theorem encBo_len (b : FBody) : (encBo b).length = 4 := rfl
@[simp] theorem encBo_nl (b : FBody) : allNl (encBo b) := by simp [encBo,recs]
@[simp] theorem recsI_noId {t : TypeId} {l : List FIns} : noId (recs t encI l) = true := by simp [recs,noId]
@[simp] theorem encBo_noId (b : FBody) : noIdL (encBo b) = true := by simp [encBo,noIdL,noId,recs]
structure FCode where
 globals : Int
 bodies : List FBody
def encC (c : FCode) : List PV := [pin c.globals,recs 61 encBo c.bodies]
@[simp] theorem encC_len (c : FCode) : (encC c).length = 2 := rfl
@[simp] theorem recsB_noId {t : TypeId} {l : List FBody} : noId (recs t encBo l) = true := by simp [recs,noId]
@[simp] theorem encC_noId (c : FCode) : noIdL (encC c) = true := by simp [encC,noIdL,noId,recs]
@[simp] theorem encC_nl (c : FCode) : allNl (encC c) := by simp [encC,recs]
theorem cutI {l : List FIns} {i : Nat} (h : i < l.length) : cut (l.flatMap encI) (i * 7) 7 = encI l[i] := cutk encI_len h
theorem cutBo {l : List FBody} {i : Nat} (h : i < l.length) : cut (l.flatMap encBo) (i * 4) 4 = encBo l[i] := cutk encBo_len h
def fewI (l : List FIns) : Bool := l.all fun i => decide (i.list.length ≤ 20) && decide (i.text.length ≤ 60)
def fewB (most : Int) : Int → List FBody → Bool
 | _,[] => true
 | n,b :: l => decide (n + (1 + b.code.length) ≤ most) && decide (b.regs ≤ 60) && decide (b.name.length ≤ 60) && fewI b.code && fewB most (n + (1 + b.code.length)) l
def smallB (c : FCode) (most : Int) : Bool := decide (c.bodies.length ≤ 20) && decide (c.globals ≤ 50) && fewB most 0 c.bodies
def Holds (c : FCode) : Prop := ∀ b ∈ c.bodies,big b.code.length ∧ big b.name.length ∧ ∀ i ∈ b.code,big i.list.length ∧ big i.text.length
def decS (n : Nat) : List UInt8 := (if n < 10 then [] else decS (n / 10)) ++ [48 + UInt8.ofNat (n % 10)]
termination_by n
decreasing_by omega
theorem decS_small {n : Nat} (h : n < 10) : decS n = [48 + UInt8.ofNat (n % 10)] := by rw [decS,if_pos h]; rfl
theorem decS_big {n : Nat} (h : ¬ n < 10) : decS n = decS (n / 10) ++ [48 + UInt8.ofNat (n % 10)] := by rw [decS,if_neg h]
theorem decS_len : ∀ (k n : Nat),n ≤ k → (decS n).length ≤ n + 1 := by
 intro k
 induction k with
 | zero => intro n h; rw [decS_small (by omega)]; simp
 | succ k ih =>
  intro n h
  by_cases h10 : n < 10
  ·rw [decS_small h10]; simp
  ·rw [decS_big h10]
   have := ih (n / 10) (by omega)
   simp; omega
theorem bstr_app' {a b : List UInt8} : bstr a ++ bstr b = bstr (a ++ b) := by
 unfold bstr
 apply ByteArray.ext
 simp
theorem digits_ok : ∀ (k n : Nat),n ≤ k → n ≤ 1000000 → PPd (.fn 80 [] []) [pin n] (pstr (decS n)) := by
 intro k
 induction k with
 | zero =>
  intro n h _
  have : n = 0 := by omega
  subst this
  refine PPc rfl rfl rfl (by simp) (by simp [noId]) (by simp) (PW_ok _ ?_)
  simp [ir80,pbytes,pbyte]
  rw [decS_small (by omega)]
  exact .same rfl
 | succ k ih =>
  intro n h hn
  have w1 : IntKind.wrap .i64 (48 + (n : Int) % 10) = 48 + (n : Int) % 10 := wrap64 (by omega) (by omega)
  have w2 : IntKind.wrap .u8 (48 + (n : Int) % 10) = 48 + (n : Int) % 10 := by simp [IntKind.wrap,IntKind.signed,IntKind.bits]; omega
  have w3 : (48 + (n : Int) % 10).toNat = 48 + n % 10 := by omega
  have w4 : IntKind.wrap .i64 ((n : Int) % 10) = (n : Int) % 10 := wrap64 (by omega) (by omega)
  have w5 : IntKind.wrap .i64 ((n : Int) / 10) = ((n / 10 : Nat) : Int) := by rw [wrap64 (by omega) (by omega)]; omega
  have w6 : (n : Int).tmod 10 = (n : Int) % 10 := by rw [Int.tmod_eq_emod_of_nonneg (by omega)]
  refine PPc rfl rfl rfl (by simp) (by simp [noId]) (by simp) (PW_ok _ ?_)
  by_cases h10 : n < 10
  ·have h10' : ¬ (10 : Int) ≤ n := by omega
   have h10'' : (n : Int) < 10 := by omega
   simp [ir80,pbytes,pbyte,w1,w2,w3,w4,w6,h10,h10',h10'']
   rw [decS_small h10]
   exact .same rfl
  ·have h10' : (10 : Int) ≤ n := by omega
   have h10'' : ¬ (n : Int) < 10 := by omega
   have hcall := ih (n / 10) (by omega) (by omega)
   have w7 : ((n / 10 : Nat) : Int) = (n : Int) / 10 := by omega
   rw [w7] at hcall
   simp [ir80,pbytes,pbyte,w1,w2,w3,w4,w5,w6,h10,h10',h10'']
   refine hcall.runk ?_
   have hs : bstr (decS (n / 10)) ++ (⟨#[48 + UInt8.ofNat (n % 10)]⟩ : ByteArray) = bstr (decS n) := by rw [decS_big h10,← bstr_app']; rfl
   have hl := decS_len (n / 10) (n / 10) (Nat.le_refl _)
   have h1 : (⟨#[48 + UInt8.ofNat (n % 10)]⟩ : ByteArray).size = 1 := rfl
   have hm : ¬ (9223372036854775807 : Int) < ((decS (n / 10)).length : Int) + 1 := by omega
   simp [arS,hs,h1,hm]
   exact .same rfl
structure Blk where
 src : Int
 to : Int
 next : List Int
def encB (b : Blk) : List PV := [pin b.src,pin b.to,ints 3 b.next]
@[simp] theorem encB_len (b : Blk) : (encB b).length = 3 := rfl
@[simp] theorem encB_nl (b : Blk) : allNl (encB b) := by simp [encB,ints]
@[simp] theorem encB_noId (b : Blk) : noIdL (encB b) = true := by simp [encB]
def blks (t : TypeId) (bs : List Blk) : PV := recs t encB bs
@[simp] theorem blks_noId {t : TypeId} {bs : List Blk} : noId (blks t bs) = true := by simp [blks,recs]
structure OkG (bs : List Blk) : Prop where
 len : bs.length ≤ 1000
 next : ∀ b ∈ bs,b.next.length ≤ 1000
def inG (n : Nat) (x : Int) : Bool := decide (0 ≤ x) && decide (x < n)
theorem cutB {bs : List Blk} {i : Nat} (h : i < bs.length) : cut (bs.flatMap encB) (i * 3) 3 = [pin bs[i].src,pin bs[i].to,ints 3 bs[i].next] := cutk encB_len h
theorem following_ok {t : TypeId} {bs : List Blk} {k : Int} {L : List LObj} {K : PV → List LObj → Prop}
  (h : K (.fn 190 [] [.ptr L.length 0,.ptr (L.length + 1) 0]) (L ++ [.row 27 [blks t bs],.row 3 [pin k]])) : PF FD XA XN false (.fn 134 [] []) [blks t bs,pin k] L K := by
 refine PF_code0 rfl rfl rfl (PW_ok _ ?_)
 simp [ir134,blks,recs]
 simpa [blks,recs] using h
theorem following_run {t : TypeId} {b1 b2 y kk : Nat} {bs : List Blk} {J : Nat → List LObj → Prop} {K : List LObj → Prop} {L : List LObj} (hok : OkG bs) (hkk : kk < bs.length)
  (hG : ∀ i L,J i L → prow L b1 = some (27,[blks t bs]) ∧ prow L b2 = some (3,[pin kk]))
  (hskip : ∀ i (h : i < bs[kk].next.length) L,J i L → inG bs.length bs[kk].next[i] = false → J (i + 1) L)
  (hcall : ∀ i (h : i < bs[kk].next.length) L,J i L → inG bs.length bs[kk].next[i] = true → PF FD XA XN false (.yl y) [pin bs[kk].next[i]] L (fun v L' => (v = pbool true ∧ J (i + 1) L') ∨ (v = pbool false ∧ K L')))
  (hend : ∀ L,J bs[kk].next.length L → K L) (hJ : J 0 L) :
  PF FD XA XN false (.fn 190 [] [.ptr b1 0,.ptr b2 0]) [.yl y] L (fun _ L' => K L') := by
 have hb : big bs[kk].next.length := by have := hok.next _ (List.getElem_mem hkk); unfold big; omega
 refine PF_code0 rfl rfl rfl (PW_ok _ ?_)
 obtain ⟨g1,g2⟩ := hG 0 L hJ
 replace g1 := prow_some g1
 replace g2 := prow_some g2
 simp [ir190,g1,g2,blks,recs,hkk,cutB hkk,ints]
 refine PC_loop0 (fun m E L => ∃ i,i + m = bs[kk].next.length ∧ J i L ∧ E.get 0 = some (.yl y) ∧ E.get 1 = some (.ptr b1 0) ∧ E.get 10 = some (ints 3 bs[kk].next) ∧ E.get 11 = some (pin bs[kk].next.length) ∧ E.get 12 = some (pin i)) ?_ (k := bs[kk].next.length) ⟨0,by simp [hJ,ints]⟩
 rintro m E L ⟨i,him,hJ,e0,e1,e10,e11,e12⟩
 obtain ⟨g1,g2⟩ := hG i L hJ
 replace g1 := prow_some g1
 replace g2 := prow_some g2
 by_cases hlt : i < bs[kk].next.length
 ·by_cases hin : inG bs.length bs[kk].next[i] = true
  ·have hin' := hin
   simp only [inG,Bool.and_eq_true,decide_eq_true_eq] at hin'
   simp [e0,e1,e10,e11,e12,hlt,ints,cut1 hlt,g1,blks,recs,hin'.1,hin'.2]
   refine (hcall i hlt L hJ hin).mono ?_
   rintro v L' (⟨rfl,hj⟩ | ⟨rfl,hk⟩)
   ·simp [e0,e1,e10,e11,e12,wnc hlt hb]
    exact ⟨m - 1,by omega,i + 1,by omega,hj,by simp [ints]⟩
   ·simp [e0,e1,e10,e11,e12]
    exact hk
  ·have hs := hskip i hlt L hJ (by simpa using hin)
   have hin' : ¬ (0 ≤ bs[kk].next[i] ∧ bs[kk].next[i] < (bs.length : Int)) := fun hh => hin (by simp [inG,hh.1,hh.2])
   by_cases h0 : 0 ≤ bs[kk].next[i]
   ·have h1 : ¬ bs[kk].next[i] < (bs.length : Int) := fun h1 => hin' ⟨h0,h1⟩
    simp [e0,e1,e10,e11,e12,hlt,ints,cut1 hlt,g1,blks,recs,h0,h1,wnc hlt hb]
    exact ⟨m - 1,by omega,i + 1,by omega,hs,by simp [ints]⟩
   ·simp [e0,e1,e10,e11,e12,hlt,ints,cut1 hlt,g1,blks,recs,h0,wnc hlt hb]
    exact ⟨m - 1,by omega,i + 1,by omega,hs,by simp [ints]⟩
 ·simp [e11,e12,hlt]
  exact hend _ (show i = bs[kk].next.length by omega ▸ hJ)
end Go.Den
/- The plain law of graphs. -/
namespace Go.Den
def succs (bs : List Blk) (k : Nat) : List Int := ((bs[k]?.map (·.next)).getD []).filter (inG bs.length)
inductive Reach (bs : List Blk) (no : Int) : Nat → Prop
 | zero : bs ≠ [] → no ≠ 0 → Reach bs no 0
 | step {i : Nat} {x : Int} : Reach bs no i → x ∈ succs bs i → x ≠ no → Reach bs no x.toNat
theorem succs_mem {bs : List Blk} {k : Nat} {x : Int} (h : x ∈ succs bs k) : 0 ≤ x ∧ x < (bs.length : Int) ∧ ∃ h : k < bs.length,x ∈ bs[k].next := by
 unfold succs at h
 rw [List.mem_filter] at h
 obtain ⟨h1,h2⟩ := h
 simp only [inG,Bool.and_eq_true,decide_eq_true_eq] at h2
 by_cases hk : k < bs.length
 ·refine ⟨h2.1,h2.2,hk, ?_⟩
  simpa [hk] using h1
 ·simp [hk] at h1
theorem mem_succs {bs : List Blk} {k : Nat} {x : Int} (hk : k < bs.length) (h : x ∈ bs[k].next) (h0 : inG bs.length x = true) : x ∈ succs bs k := by
 unfold succs
 rw [List.mem_filter]
 exact ⟨by simpa [hk] using h,h0⟩
theorem Reach.lt {bs : List Blk} {no : Int} {i : Nat} (h : Reach bs no i) : i < bs.length := by
 cases h with
 | zero h => exact List.length_pos_iff.2 h
 | step _ h _ => have := succs_mem h; omega
structure Marked (bs : List Blk) (no : Int) (f : List Bool) (todo : List Nat) : Prop where
 len : f.length = bs.length
 zero : f[0]? = some true
 sound : ∀ i : Nat,f[i]? = some true → Reach bs no i
 marked : ∀ i ∈ todo,f[i]? = some true
 closed : ∀ i : Nat,f[i]? = some true → i ∉ todo → ∀ x ∈ succs bs i,x ≠ no → f[x.toNat]? = some true
open Classical in
noncomputable def reachL (bs : List Blk) (no : Int) : List Bool := (List.range bs.length).map fun i => decide (Reach bs no i)
theorem reachL_len {bs : List Blk} {no : Int} : (reachL bs no).length = bs.length := by simp [reachL]
theorem reachL_get {bs : List Blk} {no : Int} {i : Nat} (h : i < bs.length) : (reachL bs no)[i]? = some true ↔ Reach bs no i := by simp [reachL,h]
theorem reachL_of {bs : List Blk} {no : Int} {f : List Bool} (hl : f.length = bs.length) (h : ∀ i : Nat,f[i]? = some true ↔ Reach bs no i) : f = reachL bs no := by
 apply List.ext_getElem (by rw [hl,reachL_len])
 intro i a b
 have h1 := h i
 simp only [List.getElem?_eq_getElem a,Option.some.injEq] at h1
 simp only [reachL,List.getElem_map,List.getElem_range]
 by_cases hr : Reach bs no i
 ·rw [h1.2 hr]; simp [hr]
 ·have : f[i] ≠ true := fun e => hr (h1.1 e)
  simp [hr]; simpa using this
theorem Marked.done {bs : List Blk} {no : Int} {f : List Bool} (h : Marked bs no f []) : f = reachL bs no := by
 refine reachL_of h.len fun i => ⟨h.sound i,fun r => ?_⟩
 induction r with
 | zero => exact h.zero
 | step r hj hn ih => exact h.closed _ ih (by simp) _ hj hn
theorem Marked.start {bs : List Blk} {no : Int} (h : bs ≠ []) (hn : no ≠ 0) : Marked bs no ((List.replicate bs.length false).set 0 true) [0] := by
 have hl : 0 < bs.length := List.length_pos_iff.2 h
 refine ⟨by simp,by simp [hl],fun i hi => ?_,fun i hi => by simp at hi; subst hi; simp [hl],fun i hi hn0 => ?_⟩
 ·rw [List.getElem?_set] at hi
  split at hi
  ·rename_i h0; subst h0; exact .zero h hn
  ·rw [List.getElem?_replicate] at hi; split at hi <;> simp at hi
 ·rw [List.getElem?_set] at hi
  split at hi
  ·rename_i h0; subst h0; simp at hn0
  ·rw [List.getElem?_replicate] at hi; split at hi <;> simp at hi
structure Walk (bs : List Blk) (no : Int) (f : List Bool) (todo : List Nat) (k i : Nat) : Prop where
 len : f.length = bs.length
 zero : f[0]? = some true
 sound : ∀ i : Nat,f[i]? = some true → Reach bs no i
 marked : ∀ i ∈ todo,f[i]? = some true
 mrk : f[k]? = some true
 closed : ∀ i : Nat,f[i]? = some true → i ∉ todo → i ≠ k → ∀ x ∈ succs bs i,x ≠ no → f[x.toNat]? = some true
 part : ∀ h : k < bs.length,∀ x ∈ bs[k].next.take i,inG bs.length x = true → x ≠ no → f[x.toNat]? = some true
theorem Marked.walk {bs : List Blk} {no : Int} {f : List Bool} {todo : List Nat} {k : Nat} (h : Marked bs no f (todo ++ [k])) : Walk bs no f todo k 0 :=
 ⟨h.len,h.zero,h.sound,fun i hi => h.marked i (by simp [hi]),h.marked k (by simp),fun i hi hn hk => h.closed i hi (by simp [hn,hk]),fun _ x hx => by simp at hx⟩
theorem Walk.done {bs : List Blk} {no : Int} {f : List Bool} {todo : List Nat} {k : Nat} (hk : k < bs.length) (h : Walk bs no f todo k bs[k].next.length) : Marked bs no f todo := by
 refine ⟨h.len,h.zero,h.sound,h.marked,fun i hi hn x hx hno => ?_⟩
 by_cases e : i = k
 ·subst e
  obtain ⟨a,b,c,d⟩ := succs_mem hx
  exact h.part hk x (by simpa using d) (by simp [inG,a,b]) hno
 ·exact h.closed i hi hn e x hx hno
theorem Walk.skip {bs : List Blk} {no : Int} {f : List Bool} {todo : List Nat} {k i : Nat} (hk : k < bs.length) (hi : i < bs[k].next.length) (h : Walk bs no f todo k i) (hs : inG bs.length bs[k].next[i] = true → bs[k].next[i] ≠ no → f[bs[k].next[i].toNat]? = some true) : Walk bs no f todo k (i + 1) := by
 refine ⟨h.len,h.zero,h.sound,h.marked,h.mrk,h.closed,fun _ x hx h1 h2 => ?_⟩
 rw [List.take_succ_eq_append_getElem hi] at hx
 rcases List.mem_append.1 hx with hx | hx
 ·exact h.part hk x hx h1 h2
 ·simp at hx; subst hx; exact hs h1 h2
theorem Walk.add {bs : List Blk} {no : Int} {f : List Bool} {todo : List Nat} {k i : Nat} (hk : k < bs.length) (hi : i < bs[k].next.length) (h : Walk bs no f todo k i) (hin : inG bs.length bs[k].next[i] = true) (hno : bs[k].next[i] ≠ no) :
  Walk bs no (f.set bs[k].next[i].toNat true) (todo ++ [bs[k].next[i].toNat]) k (i + 1) := by
 have hin' := hin
 simp only [inG,Bool.and_eq_true,decide_eq_true_eq] at hin'
 have hj : bs[k].next[i].toNat < f.length := by rw [h.len]; omega
 generalize hj' : bs[k].next[i].toNat = j at *
 have up : ∀ i : Nat,f[i]? = some true → (f.set j true)[i]? = some true := fun i hi => by
  rw [List.getElem?_set]
  by_cases e : j = i
  ·subst e; simp [hj]
  ·rw [if_neg e]; exact hi
 have hr : Reach bs no j := hj' ▸ .step (h.sound k h.mrk) (mem_succs hk (List.getElem_mem hi) hin) hno
 refine ⟨by simpa using h.len,up 0 h.zero,fun i hi => ?_,fun i hi => ?_,up k h.mrk,fun i hi hn hne x hx hxn => ?_,fun _ x hx h1 h2 => ?_⟩
 ·rw [List.getElem?_set] at hi
  split at hi
  ·rename_i e; subst e; exact hr
  ·exact h.sound i hi
 ·rcases List.mem_append.1 hi with hi | hi
  ·exact up i (h.marked i hi)
  ·simp at hi; subst hi; simp [hj]
 ·simp only [List.mem_append,List.mem_singleton,not_or] at hn
  rw [List.getElem?_set,if_neg (Ne.symm hn.2)] at hi
  exact up _ (h.closed i hi hn.1 hne x hx hxn)
 ·rw [List.take_succ_eq_append_getElem hi] at hx
  rcases List.mem_append.1 hx with hx | hx
  ·exact up _ (h.part hk x hx h1 h2)
  ·simp at hx; subst hx; rw [hj']; simp [hj]
end Go.Den
/- The seat's functions, part D: without. -/
namespace Go.Den
open IrD
attribute [local irreducible] T.get T.set
abbrev pn (i : Nat) : PV := pin (i : Int)
theorem repl_rep (x : Value) (n : Nat) : repl [x] n = List.replicate n x := by
 induction n with
 | zero => rfl
 | succ n ih => simp [repl,ih,List.replicate_succ]
theorem unm_set {f : List Bool} {j : Nat} (h : f[j]? = some false) : (f.set j true).count false + 1 = f.count false := by
 induction f generalizing j with
 | nil => simp at h
 | cons a f ih =>
  cases j with
  | zero => simp at h; subst h; simp
  | succ j =>
   have := ih (j := j) (by simpa using h)
   simp only [List.set_cons_succ,List.count_cons]
   omega
abbrev wBody : ICode := (.block 3
       (.seq (.ops [⟨(some 41),none,.mov (t 8)⟩,
        ⟨(some 42),none,.load none (t 3)⟩,
        ⟨(some 43),none,.arith .neq (t 41) (t 42)⟩,
        ⟨(some 44),none,.mov (t 43)⟩,
        ⟨(some 45),some (44,true),.load none (t 5)⟩,
        ⟨(some 46),some (44,true),.mov (t 8)⟩,
        ⟨(some 47),some (44,true),.indexAddr 1 (t 45) (t 46)⟩,
        ⟨(some 48),some (44,true),.load none (t 47)⟩,
        ⟨(some 49),some (44,true),.un .not (t 48)⟩,
        ⟨(some 50),none,.pick (t 44) (t 49) (v (.bool false))⟩])
       (.cond (t 50)
        (.seq (.ops [⟨(some 51),none,.load none (t 5)⟩,
         ⟨(some 52),none,.mov (t 8)⟩,
         ⟨(some 53),none,.indexAddr 1 (t 51) (t 52)⟩,
         ⟨none,none,.store 1 (t 53) (v (.bool true))⟩])
        (.ops [⟨(some 54),none,.load none (t 6)⟩,
         ⟨(some 55),none,.mov (t 8)⟩,
         ⟨(some 56),none,.buildSlice 3 1 [(I 0)] [(0,1,(t 55))]⟩,
         ⟨(some 57),none,.append 3 1 8 (t 54) (t 56)⟩,
         ⟨none,none,.store 1 (t 6) (t 57)⟩]))
        .skip)))
abbrev wAs : ICode := (.ops [⟨(some 8),none,.mov (t 40)⟩])
def WJ (bs : List Blk) (tb : TypeId) (no : Int) (k M : Nat) (E0 : PEnv) (i : Nat) (L : List LObj) : Prop :=
 ∃ f todo junk r rest,Walk bs no f todo k i ∧ 2 * f.count false + todo.length ≤ M ∧ noIdL junk = true ∧
  L = .row 3 [pin no] :: .row 4 (f.map pbool) :: .row 232 [.slc 1 0 bs.length bs.length] :: .row 41 [.slc (r + 4) 0 todo.length (todo.length + junk.length)] :: rest ∧
  rest[r]? = some (.row 3 (todo.map pn ++ junk)) ∧ r ≠ 1 ∧ r ≠ 2 ∧ r ≠ 3 ∧ rest[1]? = some (.row 27 [blks tb bs]) ∧ rest[2]? = some (.row 3 [pin k]) ∧ rest[3]? = some (.loop E0 [40] wAs wBody 0 none)
theorem w_yield {bs : List Blk} {tb : TypeId} {no : Int} {k M i : Nat} {E0 : PEnv} {L : List LObj} (hok : OkG bs) (hk : k < bs.length) (hM : M ≤ 3000) (hi : i < bs[k].next.length) (hJ : WJ bs tb no k M E0 i L) (hin : inG bs.length bs[k].next[i] = true)
  (e3 : E0.get 3 = some (.ptr 0 0)) (e5 : E0.get 5 = some (.ptr 2 0)) (e6 : E0.get 6 = some (.ptr 3 0)) :
  PF FD XA XN false (.yl 7) [pin bs[k].next[i]] L (fun v L' => v = pbool true ∧ WJ bs tb no k M E0 (i + 1) L') := by
 obtain ⟨f,todo,junk,r,rest,hw,hm,hnj,rfl,hr,r1,r2,r3,g1,g2,g3⟩ := hJ
 have hin' := hin
 simp only [inG,Bool.and_eq_true,decide_eq_true_eq] at hin'
 obtain ⟨x,hx⟩ : ∃ x : Nat,bs[k].next[i] = (x : Int) := ⟨bs[k].next[i].toNat,by omega⟩
 have hxl : x < bs.length := by omega
 have hxf : x < f.length := by rw [hw.len]; exact hxl
 have hg3 : 3 < rest.length := (List.getElem?_eq_some_iff.1 g3).1
 have hgr : r < rest.length := (List.getElem?_eq_some_iff.1 hr).1
 have r3' : ¬ 3 = r := fun h => r3 h.symm
 have hr' : rest[r]'hgr = _ := (List.getElem?_eq_some_iff.1 hr).2
 have g3' : rest[3]'hg3 = _ := (List.getElem?_eq_some_iff.1 g3).2
 have rm : roomy (todo.length + 1) 8 := rmf (by omega) (by omega)
 refine PF_yield1 (E1 := E0.set 40 (pin bs[k].next[i])) (by simpa using g3) (by simp) ?_
 have go : ∀ f',f[x]? = some f' → Walk bs no f todo k i → ((x : Int) = no ∨ f' = true) → Walk bs no f todo k (i + 1) := fun f' hf' h hor => h.skip hk hi fun _ hno => by
  rw [hx] at hno ⊢
  rcases hor with h | h
  ·exact absurd h hno
  ·simpa [h] using hf'
 by_cases hno : (x : Int) = no
 ·simp [e3,e5,e6,hx,hno,g3,hg3]
  exact ⟨g3',f,todo,junk,r,_,go _ (List.getElem?_eq_getElem hxf) hw (.inl hno),hm,hnj,rfl,by simp [hr,r3'],r1,r2,r3,by simp [g1],by simp [g2],by simp [hg3]⟩
 ·have hno' : ((x : Int) != no) = true := by simp [hno]
  cases hf : f[x] with
  | true =>
   simp [e3,e5,e6,hx,hno,hno',g3,hg3,hxl,hxf,hf]
   exact ⟨g3',f,todo,junk,r,_,go _ (List.getElem?_eq_getElem hxf) hw (.inr hf),hm,hnj,rfl,by simp [hr,r3'],r1,r2,r3,by simp [g1],by simp [g2],by simp [hg3]⟩
  | false =>
   have hc := unm_set (f := f) (j := x) (by simp [hxf,hf])
   have hadd := hw.add hk hi hin (by rw [hx]; exact hno)
   rw [hx,Int.toNat_natCast] at hadd
   have hmap : (List.map pbool f).set x (pbool true) = List.map pbool (f.set x true) := by rw [List.map_set]
   have s3 : ∀ (a b : LObj) (h : 3 < ((rest.set 3 a).set r b).length),((rest.set 3 a).set r b)[3] = a := fun a b h => by simp [List.getElem_set,r3]
   cases junk with
   | nil =>
    have r1' : ¬ 1 = r := fun h => r1 h.symm
    simp [e3,e5,e6,hx,hno',g3,hg3,hxl,hxf,hf,hr,r3',rm,List.getElem?_append,hgr,hr',g3']
    refine ⟨s3 _ _ _,f.set x true,todo ++ [x],[],rest.length + 1,_,hadd,by simp; omega,rfl,by simp; rfl, ?_,by omega,by omega,by omega, ?_, ?_, ?_⟩
    ·rw [List.getElem?_append_right (by simp)]; simp
    ·rw [List.getElem?_append_left (by simp; omega)]; simp [List.getElem?_set,r1,g1]
    ·rw [List.getElem?_append_left (by simp; omega)]; simp [List.getElem?_set,r2,g2]
    ·rw [List.getElem?_append_left (by simp; omega)]; simp [List.getElem?_set,hg3]
   | cons j0 junk =>
    simp [e3,e5,e6,hx,hno',g3,hg3,hxl,hxf,hf,hr,r3',rm,List.getElem?_append,hgr,hr',g3']
    simp only [noIdL,Bool.and_eq_true] at hnj
    refine ⟨s3 _ _ _,f.set x true,todo ++ [x],junk,r,_,hadd,by simp; omega,hnj.2,by simp [Nat.add_comm 1,Nat.add_assoc]; rfl, ?_,r1,r2,r3, ?_, ?_, ?_⟩
    ·rw [List.getElem?_append_left (by simp; omega)]; simp [List.getElem?_set,hgr,r3']
    ·rw [List.getElem?_append_left (by simp; omega)]; simp [List.getElem?_set,r1,g1]
    ·rw [List.getElem?_append_left (by simp; omega)]; simp [List.getElem?_set,r2,g2]
    ·rw [List.getElem?_append_left (by simp; omega)]; simp [List.getElem?_set,hg3]
theorem w_range {tb : TypeId} {bs : List Blk} {no : Int} {E0 : PEnv} {f : List Bool} {td : List Nat} {kk : Nat} {junk : List PV} {c : Nat} {Q : Ex → PEnv → List LObj → Prop} (hok : OkG bs) (hkl : kk < bs.length) (hM : 2 * f.count false + td.length ≤ 3000)
  (e3 : E0.get 3 = some (.ptr 0 0)) (e5 : E0.get 5 = some (.ptr 2 0)) (e6 : E0.get 6 = some (.ptr 3 0)) (e39 : E0.get 39 = some (.fn 190 [] [.ptr 5 0,.ptr 6 0])) (hw : Walk bs no f td kk 0) (hj : noIdL junk = true) (hc : c = td.length + junk.length)
  (hQ : ∀ (f' : List Bool) (todo : List Nat) (junk' : List PV) (r : Nat) (rest : List LObj),Marked bs no f' todo → 2 * f'.count false + todo.length ≤ 2 * f.count false + td.length → noIdL junk' = true → rest[r]? = some (.row 3 (todo.map pn ++ junk')) → r ≠ 3 → r < rest.length →
   Q .norm E0 (.row 3 [pin no] :: .row 4 (f'.map pbool) :: .row 232 [.slc 1 0 bs.length bs.length] :: .row 41 [.slc (r + 4) 0 todo.length (todo.length + junk'.length)] :: rest.set 3 .dead)) :
  PC FD XA XN 0 (.rangeFunc (t 39) [40] wAs wBody) Q E0 [.row 3 [pin no],.row 4 (f.map pbool),.row 232 [.slc 1 0 bs.length bs.length],.row 41 [.slc 4 0 td.length c],.row 3 (td.map pn ++ junk),.row 27 [blks tb bs],.row 3 [pin kk]] := by
 refine PC_rangeFunc (by simpa using e39) ?_
 refine PF.mono (following_run (t := tb) (kk := kk) (J := WJ bs tb no kk (2 * f.count false + td.length) E0) (K := WJ bs tb no kk (2 * f.count false + td.length) E0 (bs[kk].next.length)) hok hkl ?_ ?_ ?_ ?_ ?_) ?_
 ·rintro i L ⟨f,todo,junk,r,rest,hw,hm,hnj,rfl,hr,r1,r2,r3,g1,g2,g3⟩
  exact ⟨by simp [g1],by simp [g2]⟩
 ·rintro i hi L ⟨f,todo,junk,r,rest,hw,hm,hnj,rfl,hr,r1,r2,r3,g1,g2,g3⟩ hin
  exact ⟨f,todo,junk,r,rest,hw.skip hkl hi (fun h => by rw [hin] at h; cases h),hm,hnj,rfl,hr,r1,r2,r3,g1,g2,g3⟩
 ·intro i hi L hJ hin
  exact (w_yield hok hkl hM hi hJ hin e3 e5 e6).mono fun v L' h => .inl h
 ·exact fun L h => h
 ·exact ⟨f,td,junk,0,_,hw,Nat.le_refl _,hj,by rw [hc]; rfl,rfl,by omega,by omega,by omega,rfl,rfl,rfl⟩
 ·rintro v L ⟨f',todo,junk',r,rest,hw',hm',hnj,rfl,hr,r1,r2,r3,g1,g2,g3⟩
  refine ⟨E0,[40],wAs,wBody,0,none,by simpa using g3,by omega, ?_⟩
  exact hQ f' todo junk' r rest (hw'.done hkl) hm' hnj hr r3 (List.getElem?_eq_some_iff.1 hr).1
theorem without_ok {tb : TypeId} {bs : List Blk} {no : Int} (hok : OkG bs) : PPd (.fn 189 [] []) [blks tb bs,pin no] (blist 4 (reachL bs no)) := by
 have hl := hok.len
 have l1 : (bs.length : Int) ≤ 9223372036854775807 := by omega
 have l2 : (bs.length : Int) ≤ 281474976710656 := by omega
 refine PPc rfl rfl rfl (by simp) (by simp) (by simp) (PW_ok _ ?_)
 by_cases h0 : bs = []
 ·subst h0
  simp [ir189,blks,recs]
  exact Vw.frz rfl (by simp [repl]) (by simp [repl]) (by simp [blist,reachL,repl])
 by_cases hno : no = 0
 ·subst hno
  simp [ir189,blks,recs,l1,l2,h0,repl_rep]
  have hr : reachL bs 0 = List.replicate bs.length false := by
   refine (reachL_of (by simp) fun i => ⟨fun h => ?_,fun h => ?_⟩).symm
   ·rw [List.getElem?_replicate] at h; split at h <;> simp at h
   ·exfalso
    induction h with
    | zero _ h => exact h rfl
    | step _ _ _ ih => exact ih
  exact Vw.frz rfl (by simp [allNl]) (by simp [nIi]) (by simp [blist,hr])
 have hpos : 0 < bs.length := List.length_pos_iff.2 h0
 simp [ir189,blks,recs,l1,l2,h0,hno,repl_rep,hpos]
 refine PC.abs (Abs.viewL [0,1,2,4,3] [(0,blks tb bs),(3,.ptr 0 0),(5,.ptr 2 0),(6,.ptr 3 0)] (by simp) (by simp) (fun i h => by omega) (by simp)
  (L' := [.row 3 [pin no],.row 4 (((List.replicate bs.length false).set 0 true).map pbool),.row 232 [.slc 1 0 bs.length bs.length],.row 41 [.slc 4 0 1 1],.row 3 [pin 0]]) ?_ ?_) ?_
 ·refine .cons ⟨_,rfl,.row (VwL.same (by simp))⟩ (.cons ⟨_,rfl,.row (by rw [List.map_set,List.map_replicate]; exact VwL.same (noIdL_set (by simp [nIi]) rfl))⟩ (.cons ⟨_,rfl,.row (.cons (.slc rfl) .nil)⟩ (.cons ⟨_,rfl,.row (.cons (.slc rfl) .nil)⟩ (.cons ⟨_,rfl,.row (VwL.same (by simp))⟩ .nil))))
 ·simp
  exact ⟨.same (by simp [blks,recs]),.ptr rfl,.ptr rfl,.ptr rfl⟩
 refine PC_loop (fun k E L => ∃ f todo junk,Marked bs no f todo ∧ 2 * f.count false + todo.length = k ∧ k ≤ 2500 ∧ noIdL junk = true ∧
  L = [.row 3 [pin no],.row 4 (f.map pbool),.row 232 [.slc 1 0 bs.length bs.length],.row 41 [.slc 4 0 todo.length (todo.length + junk.length)],.row 3 (todo.map pn ++ junk)] ∧
  E.get 0 = some (blks tb bs) ∧ E.get 3 = some (.ptr 0 0) ∧ E.get 5 = some (.ptr 2 0) ∧ E.get 6 = some (.ptr 3 0)) ?_ (k := 2 * ((List.replicate bs.length false).set 0 true).count false + 1)
  ⟨_,[0],[],Marked.start h0 hno,by simp, ?_,rfl,by simp,by simp [envOf],by simp [envOf],by simp [envOf],by simp [envOf]⟩
 case refine_2 =>
  have := List.count_le_length (a := false) (l := (List.replicate bs.length false).set 0 true)
  simp at this
  omega
 rintro k E L ⟨f,todo,junk,hm,hk,hk2,hj,rfl,e0,e3,e5,e6⟩
 rcases List.eq_nil_or_concat todo with rfl | ⟨td,kk,rfl⟩
 ·refine PW_ok _ ?_
  simp [e5,e6]
  refine Vw.frz rfl (by simp) (by simp) ?_
  rw [hm.done]; simp [blist,reachL_len]
 ·rw [List.concat_eq_append] at hm hk ⊢
  have hkf := hm.marked kk (by simp)
  have hkl : kk < bs.length := by rw [← hm.len]; exact (List.getElem?_eq_some_iff.1 hkf).1
  have hlen : td.length ≤ 2500 := by simp at hk; omega
  have w1 : IntKind.wrap .i64 (td.length : Int) = td.length := wrap64 (by omega) (by omega)
  have c0 : ¬ ((td.length : Int) + 1 = 0) := by omega
  have c1 : (td.length : Int) < td.length + 1 := by omega
  have c2 : (td.length : Int) ≤ td.length + 1 + junk.length := by omega
  have c3 : td.length ≤ td.length + 1 + junk.length := by omega
  refine PW_ok _ ?_
  simp [e0,e3,e5,e6,w1,c0,c1,c2,c3]
  unfold PFk
  refine following_ok ?_
  simp
  refine w_range hok hkl (f := f) (td := td) (junk := pn kk :: junk) ?_ (by simp [e3]) (by simp [e5]) (by simp [e6]) (by simp) hm.walk (by simp [hj]) (by simp; omega) ?_
  ·simp at hk; omega
  intro f' todo junk' r rest hm' hle hnj hr r3 hrl
  simp
  refine ⟨2 * f'.count false + todo.length,by simp at hk; omega,envOf [(0,blks tb bs),(3,.ptr 0 0),(5,.ptr 2 0),(6,.ptr 3 0)],
   [.row 3 [pin no],.row 4 (f'.map pbool),.row 232 [.slc 1 0 bs.length bs.length],.row 41 [.slc 4 0 todo.length (todo.length + junk'.length)],.row 3 (todo.map pn ++ junk')], ?_,f',todo,hm',rfl,by simp at hk; omega,junk',hnj,rfl,by simp [envOf],by simp [envOf],by simp [envOf],by simp [envOf]⟩
  refine Abs.viewL [0,1,2,3,r + 4] _ (by simp) (by simp; omega) (fun i h => by omega) (by simp) ?_ ?_
  ·refine .cons ⟨_,rfl,.row (VwL.same (by simp))⟩ (.cons ⟨_,rfl,.row (VwL.same (by simp))⟩ (.cons ⟨_,rfl,.row (.cons (.slc rfl) .nil)⟩ (.cons ⟨_,rfl,.row (.cons (.slc rfl) .nil)⟩ (.cons ⟨_, ?_,.row (VwL.same (by simp [hnj]))⟩ .nil))))
   simp [List.getElem?_set,hr,show ¬ 3 = r from fun h => r3 h.symm]
  ·simp [e0,e3,e5,e6]
   exact ⟨.same (by simp),.ptr rfl,.ptr rfl,.ptr rfl⟩
def closedAt (bs : List Blk) (no : Int) (f : List Bool) (j : Nat) : Prop := f[j]? = some true → ∀ x ∈ succs bs j,x ≠ no → f[x.toNat]? = some true
structure Pass (bs : List Blk) (no : Int) (fp f : List Bool) (ag : Bool) (i : Nat) : Prop where
 len : f.length = bs.length
 zero : f[0]? = some true
 sound : ∀ i : Nat,f[i]? = some true → Reach bs no i
 same : ag = false → f = fp ∧ ∀ j,j < i → closedAt bs no f j
 less : ag = true → f.count false < fp.count false
structure Pass2 (bs : List Blk) (no : Int) (fp f : List Bool) (ag : Bool) (i k : Nat) : Prop extends Pass bs no fp f ag i where
 part : ag = false → f[i]? = some true → ∀ h : i < bs.length,∀ x ∈ bs[i].next.take k,inG bs.length x = true → x ≠ no → f[x.toNat]? = some true
theorem Pass.begin {bs : List Blk} {no : Int} {fp f : List Bool} {ag : Bool} {i : Nat} (h : Pass bs no fp f ag i) : Pass2 bs no fp f ag i 0 := ⟨h,fun _ _ _ x hx => by simp at hx⟩
theorem Pass2.done {bs : List Blk} {no : Int} {fp f : List Bool} {ag : Bool} {i k : Nat} (hi : i < bs.length) (h : Pass2 bs no fp f ag i k) (hk : f[i]? = some true → bs[i].next.length ≤ k) : Pass bs no fp f ag (i + 1) := by
 refine ⟨h.len,h.zero,h.sound,fun ha => ⟨(h.same ha).1,fun j hj => ?_⟩,h.less⟩
 by_cases e : j = i
 ·subst e
  intro hf x hx hno
  obtain ⟨a,b,c,d⟩ := succs_mem hx
  refine h.part ha hf hi x ?_ (by simp [inG,a,b]) hno
  rw [List.take_of_length_le (hk hf)]; exact d
 ·exact (h.same ha).2 j (by omega)
theorem Pass2.skip {bs : List Blk} {no : Int} {fp f : List Bool} {ag : Bool} {i k : Nat} (hi : i < bs.length) (hk : k < bs[i].next.length) (h : Pass2 bs no fp f ag i k) (hs : inG bs.length bs[i].next[k] = true → bs[i].next[k] ≠ no → f[bs[i].next[k].toNat]? = some true) : Pass2 bs no fp f ag i (k + 1) := by
 refine ⟨h.toPass,fun ha hf _ x hx h1 h2 => ?_⟩
 rw [List.take_succ_eq_append_getElem hk] at hx
 rcases List.mem_append.1 hx with hx | hx
 ·exact h.part ha hf hi x hx h1 h2
 ·simp at hx; subst hx; exact hs h1 h2
theorem Pass2.add {bs : List Blk} {no : Int} {fp f : List Bool} {ag : Bool} {i k j : Nat} (hi : i < bs.length) (hk : k < bs[i].next.length) (h : Pass2 bs no fp f ag i k) (hf : f[i]? = some true) (hj : bs[i].next[k] = (j : Int)) (hjl : j < bs.length) (hno : (j : Int) ≠ no) (hfj : f[j]? = some false) : Pass2 bs no fp (f.set j true) true i (k + 1) := by
 have hc := unm_set hfj
 have hjf : j < f.length := by rw [h.len]; exact hjl
 refine ⟨⟨by simpa using h.len, ?_,fun x hx => ?_,(fun ha => by cases ha),fun _ => ?_⟩,(fun ha => by cases ha)⟩
 ·rw [List.getElem?_set]; split
  ·rename_i e; subst e; simp [hjf]
  ·exact h.zero
 ·rw [List.getElem?_set] at hx
  split at hx
  ·rename_i e; subst e
   have := Reach.step (h.sound i hf) (mem_succs hi (List.getElem_mem hk) (by rw [hj]; simp [inG,hjl])) (by rw [hj]; exact hno)
   rw [hj] at this; simpa using this
  ·exact h.sound x hx
 ·cases ag with
  | true => have := h.less rfl; omega
  | false => have := (h.same rfl).1; subst this; omega
theorem Pass.closed {bs : List Blk} {no : Int} {fp f : List Bool} (h : Pass bs no fp f false bs.length) : f = reachL bs no := by
 refine reachL_of h.len fun i => ⟨h.sound i,fun r => ?_⟩
 induction r with
 | zero => exact h.zero
 | step r hj hn ih => exact (h.same rfl).2 _ (Reach.lt r) ih _ hj hn
structure REnv (tb : TypeId) (bs : List Blk) (no : Int) (f : List Bool) (ag : Bool) (E : PEnv) (L : List LObj) : Prop where
 l : L = [.row 4 (f.map pbool)]
 e0 : E.get 0 = some (blks tb bs)
 e1 : E.get 1 = some (pin no)
 e5 : E.get 5 = some (.slc 0 0 bs.length bs.length)
 e6 : E.get 6 = some (pbool ag)
def RJ1 (tb : TypeId) (bs : List Blk) (no : Int) (m : Nat) (E : PEnv) (L : List LObj) : Prop := ∃ f ag,f.length = bs.length ∧ f[0]? = some true ∧ (∀ i : Nat,f[i]? = some true → Reach bs no i) ∧ (ag = false → f = reachL bs no) ∧ m = 2 * f.count false + (if ag = true then 1 else 0) ∧ REnv tb bs no f ag E L
def RJ2 (tb : TypeId) (bs : List Blk) (no : Int) (fp : List Bool) (m : Nat) (E : PEnv) (L : List LObj) : Prop := ∃ f ag i,i + m = bs.length ∧ Pass bs no fp f ag i ∧ REnv tb bs no f ag E L ∧ E.get 7 = some (pin i)
def RJ3 (tb : TypeId) (bs : List Blk) (no : Int) (fp : List Bool) (i : Nat) (hi : i < bs.length) (m : Nat) (E : PEnv) (L : List LObj) : Prop := ∃ f ag k,k + m = bs[i].next.length ∧ Pass2 bs no fp f ag i k ∧ REnv tb bs no f ag E L ∧ E.get 7 = some (pin i) ∧ E.get 8 = some (pin k)
theorem reach_ok {tb : TypeId} {bs : List Blk} {no : Int} (hok : OkG bs) : PPd (.fn 193 [] []) [blks tb bs,pin no] (blist 4 (reachL bs no)) := by
 have hl := hok.len
 have hb : big bs.length := by unfold big; omega
 have l1 : (bs.length : Int) ≤ 9223372036854775807 := by omega
 have l2 : (bs.length : Int) ≤ 281474976710656 := by omega
 refine PPc rfl rfl rfl (by simp) (by simp) (by simp) (PW_ok _ ?_)
 by_cases h0 : bs = []
 ·subst h0
  simp [ir193,blks,recs]
  exact Vw.frz rfl (by simp [repl]) (by simp [repl]) (by simp [blist,reachL,repl])
 by_cases hno : no = 0
 ·subst hno
  simp [ir193,blks,recs,l1,l2,h0,repl_rep]
  have hr : reachL bs 0 = List.replicate bs.length false := by
   refine (reachL_of (by simp) fun i => ⟨fun h => ?_,fun h => ?_⟩).symm
   ·rw [List.getElem?_replicate] at h; split at h <;> simp at h
   ·exfalso
    induction h with
    | zero _ h => exact h rfl
    | step _ _ _ ih => exact ih
  exact Vw.frz rfl (by simp [allNl]) (by simp [nIi]) (by simp [blist,hr])
 have hpos : 0 < bs.length := List.length_pos_iff.2 h0
 have hm := Marked.start (bs := bs) h0 hno
 simp [ir193,blks,recs,l1,l2,h0,hno,repl_rep,hpos]
 refine PC_loop0 (RJ1 tb bs no) ?_
  ⟨(List.replicate bs.length false).set 0 true,true,by simp,hm.zero,hm.sound,(fun h => by cases h),rfl,by rw [List.map_set,List.map_replicate],by simp [blks,recs],by simp,by simp,by simp⟩
 rintro m E L ⟨f,ag,f1,f2,f3,f4,rfl,rfl,e0,e1,e5,e6⟩
 cases ag with
 | false =>
  simp [e5,e6]
  exact Vw.frz rfl (by simp) (by simp) (by rw [f4 rfl]; simp [blist,reachL_len])
 | true =>
 simp [e6]
 refine PC_loop0 (RJ2 tb bs no f) ?_ (k := bs.length)
  ⟨f,false,0,by simp,⟨f1,f2,f3,fun _ => ⟨rfl,fun j hj => by omega⟩,(fun h => by cases h)⟩,⟨rfl,by simp [e0],by simp [e1],by simp [e5],by simp⟩,by simp⟩
 clear e0 e1 e5 e6
 rintro m2 E L ⟨f',ag,i,him,hp,⟨rfl,e0,e1,e5,e6⟩,e7⟩
 by_cases hi : i < bs.length
 case neg =>
  have : i = bs.length := by omega
  subst this
  simp [e0,e7,blks,recs]
  cases ag with
  | true =>
   have := hp.less rfl
   exact ⟨2 * f'.count false + 1,by omega,f',true,hp.len,hp.zero,hp.sound,(fun h => by cases h),rfl,rfl,by simp [e0],by simp [e1],by simp [e5],by simp [e6]⟩
  | false =>
   have := (hp.same rfl).1
   subst this
   exact ⟨2 * f'.count false,by omega,f',false,hp.len,hp.zero,hp.sound,fun _ => hp.closed,rfl,rfl,by simp [e0],by simp [e1],by simp [e5],by simp [e6]⟩
 simp [e0,e7,blks,recs,hi]
 refine PC_loop0 (RJ3 tb bs no f i hi) ?_ (k := bs[i].next.length) ⟨f',ag,0,by simp,hp.begin,⟨rfl,by simp [e0],by simp [e1],by simp [e5],by simp [e6]⟩,by simp [e7],by simp⟩
 have hbi : big bs[i].next.length := by have := hok.next _ (List.getElem_mem hi); unfold big; omega
 clear e0 e1 e5 e6 e7 hp
 rintro m E L ⟨f',ag,k,hkm,hp,⟨rfl,e0,e1,e5,e6⟩,e7,e8⟩
 have hif : i < f'.length := by rw [hp.len]; exact hi
 by_cases hk : k < bs[i].next.length
 case neg =>
  simp [e0,e7,e8,blks,recs,hi,cutB hi,ints,hk,wnc hi hb]
  exact ⟨m2 - 1,by omega,f',ag,i + 1,by omega,hp.done hi (fun _ => by omega),⟨rfl,by simp [e0],by simp [e1],by simp [e5],by simp [e6]⟩,by simp⟩
 cases hfi : f'[i] with
 | false =>
  simp [e0,e5,e7,e8,blks,recs,hi,cutB hi,ints,hk,hfi,hif,wnc hi hb]
  exact ⟨m2 - 1,by omega,f',ag,i + 1,by omega,hp.done hi (fun h => by simp [hif,hfi] at h),⟨rfl,by simp [e0],by simp [e1],by simp [e5],by simp [e6]⟩,by simp⟩
 | true =>
 have hft : f'[i]? = some true := by simp [hif,hfi]
 have next : ∀ {E' : PEnv},E'.get 0 = some (blks tb bs) → E'.get 1 = some (pin no) → E'.get 5 = some (.slc 0 0 bs.length bs.length) → E'.get 6 = some (pbool ag) → E'.get 7 = some (pin i) → E'.get 8 = some (pin ((k : Int) + 1)) →
   (inG bs.length bs[i].next[k] = true → bs[i].next[k] ≠ no → f'[bs[i].next[k].toNat]? = some true) → ∃ k',k' < m ∧ RJ3 tb bs no f i hi k' E' [.row 4 (f'.map pbool)] := fun a0 a1 a5 a6 a7 a8 hs =>
  ⟨m - 1,by omega,f',ag,k + 1,by omega,hp.skip hi hk hs,⟨rfl,a0,a1,a5,a6⟩,a7,by rw [a8]; simp⟩
 by_cases hx0 : 0 ≤ bs[i].next[k]
 case neg =>
  simp [e0,e5,e7,e8,blks,recs,hi,cutB hi,ints,hk,hfi,hif,cut1 hk,hx0,wnc hk hbi]
  exact next (by simp [e0]) (by simp [e1]) (by simp [e5]) (by simp [e6]) (by simp [e7]) (by simp) (fun h _ => by simp [inG,hx0] at h)
 by_cases hx1 : bs[i].next[k] < (bs.length : Int)
 case neg =>
  simp [e0,e5,e7,e8,blks,recs,hi,cutB hi,ints,hk,hfi,hif,cut1 hk,hx0,hx1,wnc hk hbi]
  exact next (by simp [e0]) (by simp [e1]) (by simp [e5]) (by simp [e6]) (by simp [e7]) (by simp) (fun h _ => by simp [inG,hx0,hx1] at h)
 obtain ⟨x,hx⟩ : ∃ x : Nat,bs[i].next[k] = (x : Int) := ⟨bs[i].next[k].toNat,by omega⟩
 have hxl : x < bs.length := by omega
 have hxf : x < f'.length := by rw [hp.len]; exact hxl
 by_cases hxn : (x : Int) = no
 case pos =>
  subst hxn
  simp [e0,e1,e5,e7,e8,blks,recs,hi,cutB hi,ints,hk,hfi,hif,cut1 hk,hx,hxl,wnc hk hbi]
  exact next (by simp [e0]) (by simp [e1]) (by simp [e5]) (by simp [e6]) (by simp [e7]) (by simp) (fun _ h => absurd hx h)
 cases hfx : f'[x] with
 | true =>
  simp [e0,e1,e5,e7,e8,blks,recs,hi,cutB hi,ints,hk,hfi,hif,cut1 hk,hx,hxn,hxl,hxf,hfx,wnc hk hbi]
  exact next (by simp [e0]) (by simp [e1]) (by simp [e5]) (by simp [e6]) (by simp [e7]) (by simp) (fun _ _ => by simp [hx,hxf,hfx])
 | false =>
  simp [e0,e1,e5,e7,e8,blks,recs,hi,cutB hi,ints,hk,hfi,hif,cut1 hk,hx,hxn,hxl,hxf,hfx,wnc hk hbi]
  exact ⟨m - 1,by omega,f'.set x true,true,k + 1,by omega,hp.add hi hk hft hx hxl hxn (by simp [hxf,hfx]),⟨by rw [List.map_set],by simp [e0],by simp [e1],by simp [e5],by simp⟩,by simp [e7],by simp⟩
theorem reached_ok {tb : TypeId} {bs : List Blk} (hok : OkG bs) : PPd (.fn 132 [] []) [blks tb bs] (blist 4 (reachL bs (-1))) := by
 refine PPc rfl rfl rfl (by simp) (by simp) (by simp) (PW_ok _ ?_)
 simp [ir132]
 refine (without_ok hok).runk ?_
 simp
 exact .same (by simp)
theorem reachedR_ok {tb : TypeId} {bs : List Blk} (hok : OkG bs) : PPd (.fn 142 [] []) [blks tb bs] (blist 4 (reachL bs (-1))) := by
 refine PPc rfl rfl rfl (by simp) (by simp) (by simp) (PW_ok _ ?_)
 simp [ir142]
 refine (reach_ok hok).runk ?_
 simp
 exact .same (by simp)
noncomputable def domB (bs : List Blk) (d b : Nat) : Bool := (reachL bs (-1)).getD b false && (decide (d = b) || !(reachL bs d).getD b false)
theorem domR_ok {tb : TypeId} {bs : List Blk} {d b : Nat} (hok : OkG bs) (hb : b < bs.length) : PPd (.fn 141 [] []) [blks tb bs,pn d,pn b] (pbool (domB bs d b)) := by
 have h1 : b < (reachL bs (-1)).length := by rw [reachL_len]; exact hb
 have h2 : b < (reachL bs d).length := by rw [reachL_len]; exact hb
 have l1 := reachL_len (bs := bs) (no := -1)
 have l2 := reachL_len (bs := bs) (no := d)
 refine PPc rfl rfl rfl (by simp) (by simp) (by simp) (PW_ok _ ?_)
 simp [ir141]
 refine (reachedR_ok hok).runk ?_
 cases hr : (reachL bs (-1))[b] with
 | false =>
  simp [blist,l1,hb,cut1 h1,hr]
  exact .eq (by simp [domB,List.getD_eq_getElem?_getD,h1,hr]) rfl
 | true =>
 by_cases hdb : d = b
 ·subst hdb
  simp [blist,l1,hb,cut1 h1,hr]
  exact .eq (by simp [domB,List.getD_eq_getElem?_getD,h1,hr]) rfl
 ·have hdb' : ¬ (d : Int) = b := by omega
  simp [blist,l1,hb,cut1 h1,hr,hdb,hdb']
  refine (reach_ok hok).runk ?_
  simp [blist,l2,hb,cut1 h2,hr,hdb]
  exact .eq (by simp [domB,List.getD_eq_getElem?_getD,h1,h2,hr,hdb]) rfl
noncomputable def backB (bs : List Blk) (b h : Nat) : Bool := decide ((h : Int) ∈ (bs[b]?.map (·.next)).getD []) && domB bs h b
theorem back_ok {tb : TypeId} {bs : List Blk} {b h : Nat} (hok : OkG bs) (hb : b < bs.length) : PPd (.fn 143 [] []) [blks tb bs,pn b,pn h] (pbool (backB bs b h)) := by
 have hbi : big bs[b].next.length := by have := hok.next _ (List.getElem_mem hb); unfold big; omega
 refine PPc rfl rfl rfl (by simp) (by simp) (by simp) (PW_ok _ ?_)
 simp [ir143,blks,recs,hb,cutB hb]
 refine (has_ok hbi).runk ?_
 by_cases hm : (h : Int) ∈ bs[b].next
 ·simp [hm]
  refine (domR_ok (tb := tb) hok hb).runk ?_
  simp
  exact .eq (by simp [backB,hb,hm]) rfl
 ·simp [hm]
  exact .eq (by simp [backB,hb,hm]) rfl
def pre {α : Type} (n : Nat) (g : Nat → α) (x : α) (i : Nat) : List α := (List.range n).map fun j => if j < i then g j else x
theorem pre_len {α : Type} {n i : Nat} {g : Nat → α} {x : α} : (pre n g x i).length = n := by simp [pre]
theorem pre_zero {α : Type} {n : Nat} {g : Nat → α} {x : α} : pre n g x 0 = List.replicate n x := by
 apply List.ext_getElem (by simp [pre])
 intro i a b; simp [pre]
theorem pre_set {α : Type} {n i : Nat} {g : Nat → α} {x : α} : (pre n g x i).set i (g i) = pre n g x (i + 1) := by
 apply List.ext_getElem (by simp [pre])
 intro j a b
 simp only [pre,List.getElem_set,List.getElem_map,List.getElem_range]
 by_cases h : i = j
 ·subst h; simp
 ·simp only [h,if_false]
  by_cases h2 : j < i
  ·simp [h2,show j < i + 1 by omega]
  ·simp [h2,show ¬ j < i + 1 by omega]
theorem pre_full {α : Type} {n : Nat} {g : Nat → α} {x : α} : pre n g x n = (List.range n).map g := by
 unfold pre
 exact List.map_congr_left fun j hj => by rw [if_pos (List.mem_range.1 hj)]
theorem pre_getD {α : Type} {n i j : Nat} {g : Nat → α} {x : α} (h : j < n) : (pre n g x i)[j]? = some (if j < i then g j else x) := by simp [pre,h]
theorem F2.set {α β : Type} {R : α → β → Prop} {as : List α} {bs : List β} (h : F2 R as bs) {i : Nat} {a : α} {b : β} (hab : R a b) : F2 R (as.set i a) (bs.set i b) := by
 induction h generalizing i with
 | nil => exact .nil
 | cons h _ ih => cases i with
  | zero => exact .cons hab (by assumption)
  | succ i => exact .cons h ih
noncomputable def domP (bs : List Blk) (d b : Nat) : Bool := (reachL bs (-1)).getD d false && ((reachL bs (-1)).getD b false && !(reachL bs d).getD b false)
noncomputable def domRow (bs : List Blk) (d : Nat) : List Bool := (List.range bs.length).map (domP bs d)
noncomputable def dRw (bs : List Blk) : List (List Bool) := (List.range bs.length).map (domRow bs)
abbrev nilS : PV := .v (.slice none 0 0)
theorem noIdL_pre {n i : Nat} {g : Nat → PV} {x : PV} (h : ∀ j,noId (g j) = true) (hx : noId x = true) : noIdL (pre n g x i) = true := by
 unfold pre; exact noIdL_map fun j _ => by split; exact h j; exact hx
structure DEnv (tb : TypeId) (bs : List Blk) (d : Nat) (E : PEnv) : Prop where
 e0 : E.get 0 = some (blks tb bs)
 e3 : E.get 3 = some (blist 4 (reachL bs (-1)))
 e4 : E.get 4 = some (.slc 0 0 bs.length bs.length)
 e14 : E.get 14 = some (pin bs.length)
 e15 : E.get 15 = some (pn d)
def DJ1 (tb : TypeId) (bs : List Blk) (m : Nat) (E : PEnv) (L : List LObj) : Prop := ∃ d,d + m = bs.length ∧ L = [.row 232 (pre bs.length (fun d => blist 4 (domRow bs d)) nilS d)] ∧ DEnv tb bs d E
def DJ2 (tb : TypeId) (bs : List Blk) (d : Nat) (m : Nat) (E : PEnv) (L : List LObj) : Prop := ∃ b,b + m = bs.length ∧
 L = [.row 232 ((pre bs.length (fun d => blist 4 (domRow bs d)) nilS d).set d (.slc 1 0 bs.length bs.length)),.row 4 (pre bs.length (fun b => pbool (domP bs d b)) (pbool false) b)] ∧ DEnv tb bs d E ∧
 E.get 5 = some (pn d) ∧ E.get 6 = some (blist 4 (reachL bs d)) ∧ E.get 33 = some (pin bs.length) ∧ E.get 34 = some (pn b)
theorem dom_next {tb : TypeId} {bs : List Blk} {d m : Nat} {E : PEnv} {cs : List PV} (hd : d < bs.length) (hdm : d + m = bs.length) (hcs : cs = (domRow bs d).map pbool)
  (e0 : E.get 0 = some (blks tb bs)) (e3 : E.get 3 = some (blist 4 (reachL bs (-1)))) (e4 : E.get 4 = some (.slc 0 0 bs.length bs.length)) (e14 : E.get 14 = some (pin bs.length)) (e15 : E.get 15 = some (pn (d + 1))) :
  ∃ k',k' < m ∧ ∃ E' L',Abs 0 E [.row 232 ((pre bs.length (fun d => blist 4 (domRow bs d)) nilS d).set d (.slc 1 0 bs.length bs.length)),.row 4 cs] E' L' ∧ DJ1 tb bs k' E' L' := by
 refine ⟨m - 1,by omega,envOf [(0,blks tb bs),(3,blist 4 (reachL bs (-1))),(4,.slc 0 0 bs.length bs.length),(14,pin bs.length),(15,pn (d + 1))],[.row 232 (pre bs.length (fun d => blist 4 (domRow bs d)) nilS (d + 1))], ?_,
  d + 1,by omega,rfl,⟨by simp [envOf],by simp [envOf],by simp [envOf],by simp [envOf],by simp [envOf]⟩⟩
 refine Abs.viewL [0] _ (by simp) (by simp) (fun i h => by omega) (by simp) (.cons ⟨_,rfl,.row ?_⟩ .nil) ?_
 ·rw [← pre_set]
  refine F2.set (VwL.same (noIdL_pre (fun j => by simp) rfl)) ?_
  have h : Vw [0] [.row 232 ((pre bs.length (fun d => blist 4 (domRow bs d)) nilS d).set d (.slc 1 0 bs.length bs.length)),.row 4 cs] (.slc 1 0 bs.length bs.length) (.fz 4 bs.length ((domRow bs d).map pbool)) :=
   .fzs (t := 4) (cs := cs) (cs'' := cs) (by simp) rfl (by rw [hcs]; simp) (by simp) (by simp) (by rw [hcs]) (fun i a b => by simp only [hcs]; exact .same (by simp))
  have e : blist 4 (domRow bs d) = .fz 4 bs.length ((domRow bs d).map pbool) := by simp [blist,domRow]
  rw [e]; exact h
 ·simp [e0,e3,e4,e14,e15]
  exact ⟨.same (by simp),.same (by simp),.slc rfl,.same rfl,.same rfl⟩
theorem dominates_ok {tb : TypeId} {bs : List Blk} (hok : OkG bs) : PPd (.fn 133 [] []) [blks tb bs] (.fz 232 bs.length ((dRw bs).map (blist 4))) := by
 have hl := hok.len
 have hb : big bs.length := by unfold big; omega
 have l1 : (bs.length : Int) ≤ 9223372036854775807 := by omega
 have l2 : (bs.length : Int) ≤ 281474976710656 := by omega
 have l3 : 24 * (bs.length : Int) ≤ 281474976710656 := by omega
 have r1 := reachL_len (bs := bs) (no := -1)
 have hbl : ∀ no,blist 4 (reachL bs no) = .fz 4 bs.length ((reachL bs no).map pbool) := fun no => by simp [blist,reachL_len]
 refine PPc rfl rfl rfl (by simp) (by simp) (by simp [nIi]) (PW_ok _ ?_)
 simp [ir133]
 refine (reached_ok hok).runk ?_
 simp [blks,recs,l1,l2,l3,repl_rep]
 refine PC_loop (DJ1 tb bs) ?_ (k := bs.length) ⟨0,by simp,by rw [pre_zero],⟨by simp [blks,recs],by simp,by simp,by simp,by simp⟩⟩
 rintro m E L ⟨d,hdm,rfl,e0,e3,e4,e14,e15⟩
 refine PW_ok _ ?_
 by_cases hd : d < bs.length
 case neg =>
  have : d = bs.length := by omega
  subst this
  simp [e4,e14,e15]
  refine Vw.frz rfl (by rw [pre_full]; simp [blist]) (by rw [pre_full]; simp) (by rw [pre_full]; simp [dRw])
 have hd2 : d < (reachL bs (-1)).length := by rw [r1]; exact hd
 cases hr : (reachL bs (-1))[d] with
 | false =>
  simp [e0,e3,e4,e14,e15,blks,recs,hd,l1,l2,repl_rep,pre_len,hbl,cut1 hd2,r1,hr,wnc hd hb]
  refine dom_next (tb := tb) hd hdm ?_ (by simp [e0]) (by simp [e3]) (by simp [e4]) (by simp [e14]) (by simp)
  apply List.ext_getElem (by simp [domRow])
  intro i a b
  simp [domRow,domP,List.getD_eq_getElem?_getD,hd2,hr]
 | true =>
 simp [e0,e3,e4,e14,e15,blks,recs,hd,l1,l2,repl_rep,pre_len,hbl,cut1 hd2,r1,hr]
 refine (without_ok (tb := tb) hok).runk ?_
 simp [e0,blks,recs]
 refine PC_loop0 (DJ2 tb bs d) ?_ (k := bs.length) ⟨0,by simp,by rw [pre_zero],⟨by simp [e0],by simp [e3],by simp [e4],by simp [e14],by simp [e15]⟩,by simp,by simp,by simp,by simp⟩
 clear e0 e3 e4 e14 e15
 rintro m2 E L ⟨b,hbm,rfl,⟨e0,e3,e4,e14,e15⟩,e5,e6,e33,e34⟩
 by_cases hbb : b < bs.length
 case neg =>
  have : b = bs.length := by omega
  subst this
  simp [e33,e34,e15,wnc hd hb]
  refine dom_next (tb := tb) hd hdm (by rw [pre_full]; simp [domRow]) (by simp [e0]) (by simp [e3]) (by simp [e4]) (by simp [e14]) (by simp)
 have hb2 : b < (reachL bs (-1)).length := by rw [r1]; exact hbb
 have hb3 : b < (reachL bs d).length := by rw [reachL_len]; exact hbb
 have go : ∀ {E' : PEnv} {L' : List LObj} {x : Bool},x = domP bs d b → L' = [.row 232 ((pre bs.length (fun d => blist 4 (domRow bs d)) nilS d).set d (.slc 1 0 bs.length bs.length)),.row 4 ((pre bs.length (fun b => pbool (domP bs d b)) (pbool false) b).set b (pbool x))] →
   DEnv tb bs d E' → E'.get 5 = some (pn d) → E'.get 6 = some (blist 4 (reachL bs d)) → E'.get 33 = some (pin bs.length) → E'.get 34 = some (pn (b + 1)) → ∃ k',k' < m2 ∧ DJ2 tb bs d k' E' L' := by
  rintro E' L' x rfl rfl a0 a5 a6 a33 a34
  exact ⟨m2 - 1,by omega,b + 1,by omega,by rw [pre_set (g := fun b => pbool (domP bs d b))],a0,a5,a6,a33,a34⟩
 cases hr2 : (reachL bs (-1))[b] with
 | false =>
  simp [e0,e3,e4,e5,e6,e14,e15,e33,e34,hd,hbb,pre_len,hbl,cut1 hb2,r1,hr2,wnc hbb hb]
  refine go ?_ rfl ⟨by simp [e0],by simp [e3],by simp [e4],by simp [e14],by simp [e15]⟩ (by simp [e5]) (by simp [e6]) (by simp [e33]) (by simp)
  simp [domP,List.getD_eq_getElem?_getD,hb2,hr2]
 | true =>
  simp [e0,e3,e4,e5,e6,e14,e15,e33,e34,hd,hbb,pre_len,hbl,cut1 hb2,cut1 hb3,r1,hr2,wnc hbb hb]
  refine go ?_ rfl ⟨by simp [e0],by simp [e3],by simp [e4],by simp [e14],by simp [e15]⟩ (by simp [e5]) (by simp [e6]) (by simp [e33]) (by simp)
  simp [domP,List.getD_eq_getElem?_getD,hb2,hr2,hd2,hr,hb3]
end Go.Den
/- The seat's functions, part I: Dominators. -/
namespace Go.Den
open IrD
attribute [local irreducible] T.get T.set
open Classical in
noncomputable def idomStep (D : Nat → Nat → Bool) (b : Nat) (best : Int) (d : Nat) : Int := if d ≠ b ∧ D d b = true ∧ (best < 0 ∨ D best.toNat d = true) then (d : Int) else best
noncomputable def idomTo (D : Nat → Nat → Bool) (b n : Nat) : Int := (List.range n).foldl (idomStep D b) (-1)
theorem idomTo_succ {D : Nat → Nat → Bool} {b n : Nat} : idomTo D b (n + 1) = idomStep D b (idomTo D b n) n := by simp [idomTo,List.range_succ]
theorem idomTo_lt (D : Nat → Nat → Bool) (b n : Nat) : idomTo D b n = -1 ∨ ∃ k : Nat,k < n ∧ idomTo D b n = k := by
 induction n with
 | zero => exact .inl rfl
 | succ n ih =>
  rw [idomTo_succ]
  unfold idomStep
  split
  ·exact .inr ⟨n,by omega,rfl⟩
  ·rcases ih with h | ⟨k,h1,h2⟩
   ·exact .inl h
   ·exact .inr ⟨k,by omega,h2⟩
noncomputable def doms (bs : List Blk) : List Int := (List.range bs.length).map fun b => idomTo (domP bs) b bs.length
structure IEnv (tb : TypeId) (bs : List Blk) (b : Nat) (E : PEnv) : Prop where
 e0 : E.get 0 = some (blks tb bs)
 e3 : E.get 3 = some (.fz 232 bs.length ((dRw bs).map (blist 4)))
 e4 : E.get 4 = some (.slc 0 0 b b)
 e11 : E.get 11 = some (pin bs.length)
 e12 : E.get 12 = some (pn b)
def IJ1 (tb : TypeId) (bs : List Blk) (g : Nat → Int) (m : Nat) (E : PEnv) (L : List LObj) : Prop := ∃ b,b + m = bs.length ∧ L = [.row 3 (((List.range b).map g).map pin)] ∧ IEnv tb bs b E
def IJ2 (tb : TypeId) (bs : List Blk) (g : Nat → Int) (b : Nat) (m : Nat) (E : PEnv) (L : List LObj) : Prop := ∃ d,d + m = bs.length ∧ L = [.row 3 (((List.range b).map g).map pin)] ∧ IEnv tb bs b E ∧
 E.get 5 = some (pn b) ∧ E.get 6 = some (pin (idomTo (domP bs) b d)) ∧ E.get 16 = some (pin bs.length) ∧ E.get 17 = some (pn d)
theorem dominators_ok {tb : TypeId} {bs : List Blk} (hok : OkG bs) : PPd (.fn 68 [] []) [blks tb bs] (ints 3 (doms bs)) := by
 have hl := hok.len
 have hb : big bs.length := by unfold big; omega
 have hrl : (dRw bs).length = bs.length := by simp [dRw]
 have hrow : ∀ d (h : d < (dRw bs).length),(dRw bs)[d] = domRow bs d := fun d h => by simp [dRw]
 have hbr : ∀ d,blist 4 (domRow bs d) = .fz 4 bs.length ((domRow bs d).map pbool) := fun d => by simp [blist,domRow]
 have hdl : ∀ d,(domRow bs d).length = bs.length := fun d => by simp [domRow]
 have hdr : ∀ d b (h : b < (domRow bs d).length),(domRow bs d)[b] = domP bs d b := fun d b h => by simp [domRow]
 refine PPc rfl rfl rfl (by simp) (by simp) (by simp) (PW_ok _ ?_)
 simp [ir68]
 refine (dominates_ok hok).runk ?_
 simp [blks,recs]
 refine PC.abs ((Abs.addNil 0 _ []).trans (Abs.viewL [0] [(0,blks tb bs),(3,.fz 232 bs.length ((dRw bs).map (blist 4))),(4,.slc 0 0 0 0),(11,pin bs.length),(12,pn 0)] (L' := [.row 3 []]) (by simp) (by simp) (fun i h => by omega) (by simp) (.cons ⟨_,rfl,.nilr⟩ .nil) ?_)) ?_
 ·simp
  exact ⟨.same (by simp [blks,recs]),.same (by simp [nIi]),.nilr rfl rfl,.same rfl,.same rfl⟩
 refine PC_loop (IJ1 tb bs (fun b => idomTo (domP bs) b bs.length)) ?_ (k := bs.length) ⟨0,by simp,rfl,⟨by simp [envOf],by simp [envOf],by simp [envOf],by simp [envOf],by simp [envOf]⟩⟩
 rintro m E L ⟨b,hbm,rfl,e0,e3,e4,e11,e12⟩
 refine PW_ok _ ?_
 by_cases hbb : b < bs.length
 case neg =>
  have : b = bs.length := by omega
  subst this
  simp [e4,e11,e12]
  exact Vw.frz rfl (by simp) (by simp) (by simp [ints,doms])
 simp [e0,e3,e4,e11,e12,hbb,blks,recs]
 refine PC_loop0 (IJ2 tb bs (fun b => idomTo (domP bs) b bs.length) b) ?_ (k := bs.length) ⟨0,by simp,by simp,⟨by simp [e0],by simp [e3],by simp [e4],by simp [e11],by simp [e12]⟩,by simp,by simp [idomTo],by simp,by simp⟩
 clear e0 e3 e4 e11 e12
 rintro m2 E L ⟨d,hdm,rfl,⟨e0,e3,e4,e11,e12⟩,e5,e6,e16,e17⟩
 by_cases hd : d < bs.length
 case neg =>
  have : d = bs.length := by omega
  subst this
  have rr : roomy (b + 1) 8 := rmf (by omega) (by omega)
  simp [e4,e6,e12,e16,e17,rr,wnc hbb hb]
  refine ⟨m - 1,by omega,envOf [(0,blks tb bs),(3,.fz 232 bs.length ((dRw bs).map (blist 4))),(4,.slc 0 0 (b + 1) (b + 1)),(11,pin bs.length),(12,pn (b + 1))],[.row 3 (((List.range (b + 1)).map (fun b => idomTo (domP bs) b bs.length)).map pin)], ?_,
   b + 1,by omega,rfl,⟨by simp [envOf],by simp [envOf],by simp [envOf],by simp [envOf],by simp [envOf]⟩⟩
  refine Abs.viewL [2] _ (by simp) (by simp) (fun i h => by omega) (by simp) (.cons ⟨_,rfl,.row ?_⟩ .nil) ?_
  ·rw [List.range_succ]
   simp only [List.map_append,List.map_map,List.map_cons,List.map_nil]
   exact VwL.same (by simp)
  ·simp [e0,e3,e11]
   exact ⟨.same (by simp),.same (by simp [nIi]),.slc rfl,.same rfl,.same rfl⟩
 have next : ∀ {E' : PEnv} {best : Int},best = idomTo (domP bs) b (d + 1) → IEnv tb bs b E' → E'.get 5 = some (pn b) → E'.get 6 = some (pin best) → E'.get 16 = some (pin bs.length) → E'.get 17 = some (pn (d + 1)) →
   ∃ k',k' < m2 ∧ IJ2 tb bs (fun b => idomTo (domP bs) b bs.length) b k' E' [.row 3 (((List.range b).map (fun b => idomTo (domP bs) b bs.length)).map pin)] := by
  rintro E' best rfl a0 a5 a6 a16 a17
  exact ⟨m2 - 1,by omega,d + 1,by omega,rfl,a0,a5,a6,a16,a17⟩
 by_cases hdb : d = b
 ·subst hdb
  simp [e0,e3,e4,e5,e6,e11,e12,e16,e17,hd,wnc hd hb]
  simpa using next (E' := _) (best := idomTo (domP bs) d d) (by rw [idomTo_succ]; simp [idomStep]) ⟨by simp [e0],by simp [e3],by simp [e4],by simp [e11],by simp [e12]⟩ (by simp [e5]) (by simp [e6]) (by simp [e16]) (by simp)
 have hdb' : ¬ (d : Int) = b := by omega
 have c1 : cut ((dRw bs).map (blist 4)) d 1 = [blist 4 (domRow bs d)] := by rw [cut1 (by rw [hrl]; exact hd),hrow]
 have c2 : cut ((domRow bs d).map pbool) b 1 = [pbool (domP bs d b)] := by rw [cut1 (by rw [hdl]; exact hbb),hdr]
 cases hD : domP bs d b with
 | false =>
  simp [e0,e3,e4,e5,e6,e11,e12,e16,e17,hd,hdb,hdb',hbb,c1,c2,hbr,hD,wnc hd hb]
  simpa using next (E' := _) (best := idomTo (domP bs) b d) (by rw [idomTo_succ]; simp [idomStep,hD]) ⟨by simp [e0],by simp [e3],by simp [e4],by simp [e11],by simp [e12]⟩ (by simp [e5]) (by simp [e6]) (by simp [e16]) (by simp)
 | true =>
 rcases idomTo_lt (domP bs) b d with hbest | ⟨k,hk,hbest⟩
 ·rw [hbest] at e6
  simp [e0,e3,e4,e5,e6,e11,e12,e16,e17,hd,hdb,hdb',hbb,c1,c2,hbr,hD,wnc hd hb]
  simpa using next (E' := _) (best := (d : Int)) (by rw [idomTo_succ]; simp [idomStep,hD,hdb,hbest]) ⟨by simp [e0],by simp [e3],by simp [e4],by simp [e11],by simp [e12]⟩ (by simp [e5]) (by simp) (by simp [e16]) (by simp)
 ·rw [hbest] at e6
  have hkn : k < bs.length := by omega
  have c3 : cut ((dRw bs).map (blist 4)) k 1 = [blist 4 (domRow bs k)] := by rw [cut1 (by rw [hrl]; exact hkn),hrow]
  have c4 : cut ((domRow bs k).map pbool) d 1 = [pbool (domP bs k d)] := by rw [cut1 (by rw [hdl]; exact hd),hdr]
  have hk0 : ¬ (k : Int) < 0 := by omega
  cases hD2 : domP bs k d with
  | false =>
   simp [e0,e3,e4,e5,e6,e11,e12,e16,e17,hd,hdb,hdb',hbb,hkn,c1,c2,c3,c4,hbr,hD,hD2,hk0,wnc hd hb]
   simpa using next (E' := _) (best := (k : Int)) (by rw [idomTo_succ]; simp [idomStep,hD,hdb,hbest,hk0,hD2]) ⟨by simp [e0],by simp [e3],by simp [e4],by simp [e11],by simp [e12]⟩ (by simp [e5]) (by simp [e6]) (by simp [e16]) (by simp)
  | true =>
   simp [e0,e3,e4,e5,e6,e11,e12,e16,e17,hd,hdb,hdb',hbb,hkn,c1,c2,c3,c4,hbr,hD,hD2,hk0,wnc hd hb]
   simpa using next (E' := _) (best := (d : Int)) (by rw [idomTo_succ]; simp [idomStep,hD,hdb,hbest,hk0,hD2]) ⟨by simp [e0],by simp [e3],by simp [e4],by simp [e11],by simp [e12]⟩ (by simp [e5]) (by simp) (by simp [e16]) (by simp)
end Go.Den
/- The seat's functions, part J: Dominators of the reference. -/
namespace Go.Den
open IrD
attribute [local irreducible] T.get T.set
noncomputable def idomR (bs : List Blk) (b : Nat) : Int := if b = 0 then -1 else idomTo (domB bs) b bs.length
noncomputable def domsR (bs : List Blk) : List Int := (List.range bs.length).map (idomR bs)
structure KEnv (tb : TypeId) (bs : List Blk) (b : Nat) (E : PEnv) : Prop where
 e0 : E.get 0 = some (blks tb bs)
 e3 : E.get 3 = some (.slc 0 0 b b)
 e4 : E.get 4 = some (pn b)
def KJ1 (tb : TypeId) (bs : List Blk) (m : Nat) (E : PEnv) (L : List LObj) : Prop := ∃ b,b + m = bs.length ∧ L = [.row 3 (((List.range b).map (idomR bs)).map pin)] ∧ KEnv tb bs b E
def KJ2 (tb : TypeId) (bs : List Blk) (b : Nat) (m : Nat) (E : PEnv) (L : List LObj) : Prop := ∃ d,d + m = bs.length ∧ (b = 0 → d = 0) ∧ L = [.row 3 (((List.range b).map (idomR bs)).map pin)] ∧ KEnv tb bs b E ∧
 E.get 5 = some (pin (idomTo (domB bs) b d)) ∧ E.get 6 = some (pn d)
theorem k_next {tb : TypeId} {bs : List Blk} {b m : Nat} {E : PEnv} {x : Int} (hbb : b < bs.length) (hbm : b + m = bs.length) (hx : x = idomR bs b) (e0 : E.get 0 = some (blks tb bs)) (e3 : E.get 3 = some (.slc 2 0 (b + 1) (b + 1))) (e4 : E.get 4 = some (pn (b + 1))) :
  ∃ k',k' < m ∧ ∃ E' L',Abs 0 E [.dead,.row 3 [pin x],.row 3 (((List.range b).map (idomR bs)).map pin ++ [pin x])] E' L' ∧ KJ1 tb bs k' E' L' := by
 subst hx
 refine ⟨m - 1,by omega,envOf [(0,blks tb bs),(3,.slc 0 0 (b + 1) (b + 1)),(4,pn (b + 1))],[.row 3 (((List.range (b + 1)).map (idomR bs)).map pin)], ?_,b + 1,by omega,rfl,⟨by simp [envOf],by simp [envOf],by simp [envOf]⟩⟩
 refine Abs.viewL [2] _ (by simp) (by simp) (fun i h => by omega) (by simp) (.cons ⟨_,rfl,.row ?_⟩ .nil) ?_
 ·rw [List.range_succ]
  simp only [List.map_append,List.map_map,List.map_cons,List.map_nil]
  exact VwL.same (by simp)
 ·simp [e0,e3,e4]
  exact ⟨.same (by simp),.slc rfl,.same rfl⟩
theorem dominatorsR_ok {tb : TypeId} {bs : List Blk} (hok : OkG bs) : PPd (.fn 78 [] []) [blks tb bs] (ints 3 (domsR bs)) := by
 have hl := hok.len
 have hb : big bs.length := by unfold big; omega
 refine PPc rfl rfl rfl (by simp) (by simp) (by simp) (PW_ok _ ?_)
 simp [ir78]
 refine PC_loop (KJ1 tb bs) ?_ (k := bs.length) ⟨0,by simp,by simp,⟨by simp,by simp,by simp⟩⟩
 rintro m E L ⟨b,hbm,rfl,e0,e3,e4⟩
 refine PW_ok _ ?_
 by_cases hbb : b < bs.length
 case neg =>
  have : b = bs.length := by omega
  subst this
  simp [e0,e3,e4,blks,recs]
  exact Vw.frz rfl (by simp) (by simp) (by simp [ints,domsR])
 simp [e0,e3,e4,hbb,blks,recs]
 refine PC_loop0 (KJ2 tb bs b) ?_ (k := bs.length) ⟨0,by simp,fun _ => rfl,by simp,⟨by simp [e0],by simp [e3],by simp [e4]⟩,by simp [idomTo],by simp⟩
 clear e0 e3 e4
 rintro m2 E L ⟨d,hdm,hb0,rfl,⟨e0,e3,e4⟩,e5,e6⟩
 have rr : roomy (b + 1) 8 := rmf (by omega) (by omega)
 by_cases hb1 : b = 0
 ·have hd0 := hb0 hb1
  subst hd0; subst hb1
  simp [e0,e3,e4,e5,e6,hbb,blks,recs,rr,wnc hbb hb]
  exact k_next hbb hbm (by simp [idomTo,idomR]) (by simp [e0]) (by simp) (by simp; rfl)
 have hb2 : 0 < b := by omega
 by_cases hd : d < bs.length
 case neg =>
  have : d = bs.length := by omega
  subst this
  simp [e0,e3,e4,e5,e6,blks,recs,rr,wnc hbb hb]
  simpa using k_next (E := _) (x := idomTo (domB bs) b bs.length) hbb hbm (by simp [idomR,hb1]) (by simp [e0]) (by simp) (by simp)
 have next : ∀ {E' : PEnv} {best : Int},best = idomTo (domB bs) b (d + 1) → KEnv tb bs b E' → E'.get 5 = some (pin best) → E'.get 6 = some (pn (d + 1)) →
   ∃ k',k' < m2 ∧ KJ2 tb bs b k' E' [.row 3 (((List.range b).map (idomR bs)).map pin)] := by
  rintro E' best rfl a0 a5 a6
  exact ⟨m2 - 1,by omega,d + 1,by omega,fun h => absurd h hb1,rfl,a0,a5,a6⟩
 by_cases hdb : d = b
 ·subst hdb
  simp [e0,e3,e4,e5,e6,hd,hb2,blks,recs,wnc hd hb]
  simpa using next (E' := _) (best := idomTo (domB bs) d d) (by rw [idomTo_succ]; simp [idomStep]) ⟨by simp [e0],by simp [e3],by simp [e4]⟩ (by simp [e5]) (by simp)
 have hdb' : ¬ (d : Int) = b := by omega
 simp [e0,e3,e4,e5,e6,hd,hb2,blks,recs,hdb,hdb',wnc hd hb]
 refine (domR_ok (tb := tb) hok hbb).runk ?_
 cases hD : domB bs d b with
 | false =>
  simp [e0,e3,e4,e5,e6,wnc hd hb]
  simpa using next (E' := _) (best := idomTo (domB bs) b d) (by rw [idomTo_succ]; simp [idomStep,hD]) ⟨by simp [e0],by simp [e3],by simp [e4]⟩ (by simp [e5]) (by simp)
 | true =>
 rcases idomTo_lt (domB bs) b d with hbest | ⟨k,hk,hbest⟩
 ·rw [hbest] at e5
  simp [e0,e3,e4,e5,e6,wnc hd hb]
  simpa using next (E' := _) (best := (d : Int)) (by rw [idomTo_succ]; simp [idomStep,hD,hdb,hbest]) ⟨by simp [e0],by simp [e3],by simp [e4]⟩ (by simp) (by simp)
 ·rw [hbest] at e5
  have hk0 : ¬ (k : Int) < 0 := by omega
  simp [e0,e3,e4,e5,e6,hk0,wnc hd hb,blks,recs]
  refine (domR_ok (tb := tb) (d := k) hok hd).runk ?_
  cases hD2 : domB bs k d with
  | false =>
   simp [e0,e3,e4,e5,e6,wnc hd hb]
   simpa using next (E' := _) (best := (k : Int)) (by rw [idomTo_succ]; simp [idomStep,hD,hdb,hbest,hk0,hD2]) ⟨by simp [e0],by simp [e3],by simp [e4]⟩ (by simp [e5]) (by simp)
  | true =>
   simp [e0,e3,e4,e5,e6,wnc hd hb]
   simpa using next (E' := _) (best := (d : Int)) (by rw [idomTo_succ]; simp [idomStep,hD,hdb,hbest,hk0,hD2]) ⟨by simp [e0],by simp [e3],by simp [e4]⟩ (by simp) (by simp)
end Go.Den
/- The law of natural loops. -/
namespace Go.Den
abbrev Asc (l : List Int) : Prop := l.Pairwise (· < ·)
theorem asc_ext : ∀ {l l' : List Int},Asc l → Asc l' → (∀ x,x ∈ l ↔ x ∈ l') → l = l' := by
 intro l
 induction l with
 | nil => intro l' _ _ h; cases l' with
  | nil => rfl
  | cons a l' => have := (h a).2 (by simp); simp at this
 | cons a l ih =>
  intro l' h1 h2 h
  cases l' with
  | nil => have := (h a).1 (by simp); simp at this
  | cons b l' =>
   rw [Asc,List.pairwise_cons] at h1 h2
   have hab : a = b := by
    have ha := (h a).1 (by simp)
    have hb := (h b).2 (by simp)
    rcases List.mem_cons.1 ha with e | e
    ·exact e
    ·rcases List.mem_cons.1 hb with e' | e'
     ·exact e'.symm
     ·have := h1.1 b e'; have := h2.1 a e; omega
   subst hab
   congr 1
   refine ih h1.2 h2.2 fun x => ⟨fun hx => ?_,fun hx => ?_⟩
   ·rcases List.mem_cons.1 ((h x).1 (List.mem_cons_of_mem _ hx)) with e | e
    ·subst e; have := h1.1 x hx; omega
    ·exact e
   ·rcases List.mem_cons.1 ((h x).2 (List.mem_cons_of_mem _ hx)) with e | e
    ·subst e; have := h2.1 x hx; omega
    ·exact e
theorem putL_mem {l : List Int} {n x : Int} : x ∈ putL l n ↔ x ∈ l ∨ x = n := by
 unfold putL
 split
 ·rename_i h
  exact ⟨.inl,fun h' => h'.elim id (fun e => e ▸ h)⟩
 ·rw [List.mem_append,List.mem_cons]
  conv => rhs; rw [← List.takeWhile_append_dropWhile (p := fun y => decide (y < n)) (l := l),List.mem_append]
  constructor
  ·rintro (h | h | h)
   ·exact .inl (.inl h)
   ·exact .inr h
   ·exact .inl (.inr h)
  ·rintro ((h | h) | h)
   ·exact .inl h
   ·exact .inr (.inr h)
   ·exact .inr (.inl h)
theorem dropWhile_gt : ∀ {l : List Int} {n : Int},Asc l → n ∉ l → ∀ x ∈ l.dropWhile (fun y => decide (y < n)),n < x := by
 intro l
 induction l with
 | nil => intro n _ _ x hx; simp at hx
 | cons a l ih =>
  intro n h hn x hx
  rw [Asc,List.pairwise_cons] at h
  simp only [List.mem_cons,not_or] at hn
  rw [List.dropWhile_cons] at hx
  split at hx
  ·exact ih h.2 hn.2 x hx
  ·rename_i ha
   simp only [decide_eq_true_eq] at ha
   rcases List.mem_cons.1 hx with e | e
   ·subst e; omega
   ·have := h.1 x e; omega
theorem takeWhile_lt {n : Int} : ∀ {l : List Int},∀ x ∈ l.takeWhile (fun y => decide (y < n)),x < n := by
 intro l
 induction l with
 | nil => intro x hx; simp at hx
 | cons a l ih =>
  intro x hx
  rw [List.takeWhile_cons] at hx
  split at hx
  ·rename_i ha
   rcases List.mem_cons.1 hx with e | e
   ·subst e; simpa using ha
   ·exact ih x e
  ·simp at hx
theorem putL_asc {l : List Int} {n : Int} (h : Asc l) : Asc (putL l n) := by
 unfold putL
 split
 ·exact h
 ·rename_i hn
  have h' := h
  rw [Asc,← List.takeWhile_append_dropWhile (p := fun y => decide (y < n)) (l := l),List.pairwise_append] at h'
  rw [Asc,List.pairwise_append,List.pairwise_cons]
  refine ⟨h'.1,⟨dropWhile_gt h hn,h'.2.1⟩,fun a ha b hb => ?_⟩
  rcases List.mem_cons.1 hb with e | e
  ·subst e; exact takeWhile_lt a ha
  ·have := takeWhile_lt a ha; have := dropWhile_gt h hn b e; omega
theorem putL_len {l : List Int} {n : Int} : (putL l n).length ≤ l.length + 1 := by
 unfold putL
 split
 ·omega
 ·have h1 : (l.takeWhile (fun y => decide (y < n))).length + (l.dropWhile (fun y => decide (y < n))).length = l.length := by rw [← List.length_append,List.takeWhile_append_dropWhile]
  simp only [List.length_append,List.length_cons]
  omega
inductive InL (bs : List Blk) (h : Nat) : Nat → Prop
 | src {b : Nat} : b < bs.length → backB bs b h = true → InL bs h b
 | head : InL bs h h
 | step {b x : Nat} : InL bs h x → x ≠ h → (hb : b < bs.length) → (reachL bs (-1))[b]? = some true → (x : Int) ∈ bs[b].next → InL bs h b
def hasLoop (bs : List Blk) (h : Nat) : Prop := ∃ b,b < bs.length ∧ backB bs b h = true
open Classical in
noncomputable def loopL (bs : List Blk) (h : Nat) : List Int := ((List.range bs.length).filter fun k => decide (InL bs h k)).map fun (k : Nat) => (k : Int)
structure Lp where
 head : Int
 blocks : List Int
def encL (x : Lp) : List PV := [pin x.head,ints 3 x.blocks]
@[simp] theorem encL_len (b : Lp) : (encL b).length = 2 := rfl
@[simp] theorem encL_nl (b : Lp) : allNl (encL b) := by simp [encL,ints]
@[simp] theorem encL_noId (b : Lp) : noIdL (encL b) = true := by simp [encL]
open Classical in
noncomputable def lpT (bs : List Blk) (n : Nat) : List Lp := ((List.range n).filter fun h => decide (hasLoop bs h)).map fun (h : Nat) => ⟨h,loopL bs h⟩
theorem loopsTo_succ {bs : List Blk} {n : Nat} (h : hasLoop bs n) : lpT bs (n + 1) = lpT bs n ++ [⟨n,loopL bs n⟩] := by simp [lpT,List.range_succ,h]
theorem loopsTo_skip {bs : List Blk} {n : Nat} (h : ¬ hasLoop bs n) : lpT bs (n + 1) = lpT bs n := by simp [lpT,List.range_succ,h]
theorem InL.lt {bs : List Blk} {h k : Nat} (hh : h < bs.length) (hi : InL bs h k) : k < bs.length := by
 cases hi with
 | src hb _ => exact hb
 | head => exact hh
 | step _ _ hb _ _ => exact hb
theorem loopL_asc (bs : List Blk) (h : Nat) : Asc (loopL bs h) := by
 unfold loopL Asc
 rw [List.pairwise_map]
 refine List.Pairwise.filter _ ?_
 exact List.pairwise_lt_range.imp fun h => by omega
theorem loopL_mem {bs : List Blk} {h : Nat} {x : Int} : x ∈ loopL bs h ↔ ∃ k : Nat,x = k ∧ k < bs.length ∧ InL bs h k := by
 simp only [loopL,List.mem_map,List.mem_filter,List.mem_range,decide_eq_true_eq]
 exact ⟨fun ⟨k,⟨a,b⟩,c⟩ => ⟨k,c.symm,a,b⟩,fun ⟨k,a,b,c⟩ => ⟨k,⟨b,c⟩,a.symm⟩⟩
theorem loopL_of {bs : List Blk} {h : Nat} {l : List Int} (ha : Asc l) (hh : h < bs.length) (h1 : ∀ x ∈ l,∃ k : Nat,x = k ∧ InL bs h k) (h2 : ∀ k : Nat,InL bs h k → (k : Int) ∈ l) : l = loopL bs h :=
 asc_ext ha (loopL_asc bs h) fun x => by
  rw [loopL_mem]
  exact ⟨fun hx => let ⟨k,a,b⟩ := h1 x hx; ⟨k,a,b.lt hh,b⟩,fun ⟨k,a,_,c⟩ => a ▸ h2 k c⟩
end Go.Den
/- The seat's functions, part M: Loops of the reference. -/
namespace Go.Den
open IrD
attribute [local irreducible] T.get T.set
def miss (n : Nat) (l : List Int) : Nat := (List.range n).countP fun (k : Nat) => decide ((k : Int) ∉ l)
theorem countP_lt {α : Type} {p q : α → Bool} : ∀ {l : List α} {a : α},(∀ x,q x = true → p x = true) → a ∈ l → p a = true → q a = false → l.countP q < l.countP p := by
 intro l
 induction l with
 | nil => intro a _ h; simp at h
 | cons b l ih =>
  intro a h ha hp hq
  have hle : l.countP q ≤ l.countP p := List.countP_mono_left fun x _ => h x
  rcases List.mem_cons.1 ha with e | e
  ·subst e; simp [List.countP_cons,hp,hq]; omega
  ·have := ih h e hp hq
   simp only [List.countP_cons]
   cases hqb : q b with
   | false => simp; omega
   | true => simp [h b hqb]; omega
theorem miss_put {n b : Nat} {l : List Int} (hb : b < n) (hn : (b : Int) ∉ l) : miss n (putL l b) < miss n l :=
 countP_lt (a := b) (fun x hx => by simp only [decide_eq_true_eq,putL_mem] at hx ⊢; exact fun h => hx (.inl h)) (by simpa using hb) (by simpa using hn) (by simp [putL_mem])
theorem asc_len {n : Nat} {l : List Int} (h : Asc l) (hb : ∀ x ∈ l,∃ k : Nat,x = k ∧ k < n) : l.length ≤ n := by
 have e : l = ((List.range n).filter fun (k : Nat) => decide ((k : Int) ∈ l)).map fun (k : Nat) => (k : Int) := by
  refine asc_ext h ?_ fun x => ?_
  ·unfold Asc
   rw [List.pairwise_map]
   exact (List.Pairwise.filter _ (List.pairwise_lt_range)).imp fun h => by omega
  ·simp only [List.mem_map,List.mem_filter,List.mem_range,decide_eq_true_eq]
   constructor
   ·intro hx
    obtain ⟨k,rfl,hk⟩ := hb x hx
    exact ⟨k,⟨hk,hx⟩,rfl⟩
   ·rintro ⟨k,⟨_,h2⟩,rfl⟩; exact h2
 rw [e,List.length_map]
 exact Nat.le_trans (List.length_filter_le _ _) (by simp)
structure Srcs (bs : List Blk) (h b : Nat) (l : List Int) : Prop where
 asc : Asc l
 mem : ∀ x,x ∈ l ↔ ∃ k : Nat,x = k ∧ k < b ∧ backB bs k h = true
theorem Srcs.len {bs : List Blk} {h b : Nat} {l : List Int} (hs : Srcs bs h b l) : l.length ≤ b := asc_len hs.asc fun x hx => let ⟨k,a,c,_⟩ := (hs.mem x).1 hx; ⟨k,a,c⟩
theorem Srcs.zero {bs : List Blk} {h : Nat} : Srcs bs h 0 [] := ⟨.nil,fun x => by simp⟩
theorem Srcs.skip {bs : List Blk} {h b : Nat} {l : List Int} (hs : Srcs bs h b l) (hb : backB bs b h = false) : Srcs bs h (b + 1) l :=
 ⟨hs.asc,fun x => (hs.mem x).trans ⟨fun ⟨k,a,c,d⟩ => ⟨k,a,by omega,d⟩,fun ⟨k,a,c,d⟩ => ⟨k,a,(by
  rcases Nat.lt_or_ge k b with h | h
  ·exact h
  ·have : k = b := by omega
   subst this; rw [hb] at d; cases d),d⟩⟩⟩
theorem Srcs.put {bs : List Blk} {h b : Nat} {l : List Int} (hs : Srcs bs h b l) (hb : backB bs b h = true) : Srcs bs h (b + 1) (putL l b) :=
 ⟨putL_asc hs.asc,fun x => by
  rw [putL_mem,hs.mem]
  constructor
  ·rintro (⟨k,a,c,d⟩ | rfl)
   ·exact ⟨k,a,by omega,d⟩
   ·exact ⟨b,rfl,by omega,hb⟩
  ·rintro ⟨k,a,c,d⟩
   rcases Nat.lt_or_ge k b with h | h
   ·exact .inl ⟨k,a,h,d⟩
   ·have : k = b := by omega
    subst this; exact .inr a⟩
structure LIn (bs : List Blk) (h : Nat) (l : List Int) : Prop where
 asc : Asc l
 sound : ∀ x ∈ l,∃ k : Nat,x = k ∧ InL bs h k
 head : (h : Int) ∈ l
 src : ∀ b,b < bs.length → backB bs b h = true → (b : Int) ∈ l
theorem LIn.len {bs : List Blk} {h : Nat} {l : List Int} (hh : h < bs.length) (hl : LIn bs h l) : l.length ≤ bs.length := asc_len hl.asc fun x hx => let ⟨k,a,c⟩ := hl.sound x hx; ⟨k,a,c.lt hh⟩
theorem Srcs.lin {bs : List Blk} {h : Nat} {l : List Int} (hs : Srcs bs h bs.length l) : LIn bs h (putL l h) :=
 ⟨putL_asc hs.asc,fun x hx => by
  rcases putL_mem.1 hx with h1 | h1
  ·obtain ⟨k,a,c,d⟩ := (hs.mem x).1 h1; exact ⟨k,a,.src c d⟩
  ·exact ⟨h,h1,.head⟩,putL_mem.2 (.inr rfl),fun b hb hk => putL_mem.2 (.inl ((hs.mem b).2 ⟨b,rfl,hb,hk⟩))⟩
theorem LIn.put {bs : List Blk} {h b : Nat} {l : List Int} (hl : LIn bs h l) (hb : b < bs.length) (hr : (reachL bs (-1))[b]? = some true) {x : Int} (hx : x ∈ bs[b].next) (hxh : x ≠ h) (hxl : x ∈ l) : LIn bs h (putL l b) :=
 ⟨putL_asc hl.asc,fun y hy => by
  rcases putL_mem.1 hy with h1 | h1
  ·exact hl.sound y h1
  ·obtain ⟨k,a,c⟩ := hl.sound x hxl
   subst a
   exact ⟨b,h1,.step c (fun e => hxh (by rw [e])) hb hr hx⟩,putL_mem.2 (.inl hl.head),fun k hk hs => putL_mem.2 (.inl (hl.src k hk hs))⟩
def closedL (bs : List Blk) (h : Nat) (l : List Int) (b : Nat) : Prop := (reachL bs (-1))[b]? = some true → ∀ hb : b < bs.length,∀ x ∈ bs[b].next,x ≠ (h : Int) → x ∈ l → (b : Int) ∈ l
theorem LIn.closed {bs : List Blk} {h : Nat} {l : List Int} (hh : h < bs.length) (hl : LIn bs h l) (hc : ∀ b,b < bs.length → closedL bs h l b) : l = loopL bs h :=
 loopL_of hl.asc hh hl.sound fun k hk => by
  induction hk with
  | src hb hk => exact hl.src _ hb hk
  | head => exact hl.head
  | step _ hxh hb hr hx ih => exact hc _ hb hr hb _ hx (by omega) ih
structure MPass (bs : List Blk) (h : Nat) (lp l : List Int) (ag : Bool) (b : Nat) : Prop where
 lin : LIn bs h l
 same : ag = false → l = lp ∧ ∀ j,j < b → closedL bs h l j
 less : ag = true → miss bs.length l < miss bs.length lp
structure MPass2 (bs : List Blk) (h : Nat) (lp l : List Int) (ag : Bool) (b k : Nat) : Prop extends MPass bs h lp l ag b where
 part : ag = false → (reachL bs (-1))[b]? = some true → ∀ hb : b < bs.length,∀ x ∈ bs[b].next.take k,x ≠ (h : Int) → x ∈ l → (b : Int) ∈ l
theorem MPass.begin {bs : List Blk} {h : Nat} {lp l : List Int} {ag : Bool} {b : Nat} (hp : MPass bs h lp l ag b) : MPass2 bs h lp l ag b 0 := ⟨hp,fun _ _ _ x hx => by simp at hx⟩
theorem MPass2.done {bs : List Blk} {h : Nat} {lp l : List Int} {ag : Bool} {b k : Nat} (hb : b < bs.length) (hp : MPass2 bs h lp l ag b k) (hk : bs[b].next.length ≤ k) : MPass bs h lp l ag (b + 1) := by
 refine ⟨hp.lin,fun ha => ⟨(hp.same ha).1,fun j hj => ?_⟩,hp.less⟩
 by_cases e : j = b
 ·subst e
  intro hr _ x hx hxh hxl
  exact hp.part ha hr hb x (by rw [List.take_of_length_le hk]; exact hx) hxh hxl
 ·exact (hp.same ha).2 j (by omega)
theorem MPass2.skip {bs : List Blk} {h : Nat} {lp l : List Int} {ag : Bool} {b k : Nat} (hb : b < bs.length) (hk : k < bs[b].next.length) (hp : MPass2 bs h lp l ag b k) (hs : (reachL bs (-1))[b]? = some true → bs[b].next[k] ≠ (h : Int) → bs[b].next[k] ∈ l → (b : Int) ∈ l) : MPass2 bs h lp l ag b (k + 1) := by
 refine ⟨hp.toMPass,fun ha hr _ x hx h1 h2 => ?_⟩
 rw [List.take_succ_eq_append_getElem hk] at hx
 rcases List.mem_append.1 hx with hx | hx
 ·exact hp.part ha hr hb x hx h1 h2
 ·simp at hx; subst hx; exact hs hr h1 h2
theorem MPass2.add {bs : List Blk} {h : Nat} {lp l : List Int} {ag : Bool} {b k : Nat} (hb : b < bs.length) (hk : k < bs[b].next.length) (hp : MPass2 bs h lp l ag b k) (hr : (reachL bs (-1))[b]? = some true) (h1 : bs[b].next[k] ≠ (h : Int)) (h2 : bs[b].next[k] ∈ l) (h3 : (b : Int) ∉ l) : MPass2 bs h lp (putL l b) true b (k + 1) := by
 refine ⟨⟨hp.lin.put hb hr (List.getElem_mem hk) h1 h2,(fun ha => by cases ha),fun _ => ?_⟩,(fun ha => by cases ha)⟩
 have hm := miss_put hb h3
 cases ag with
 | true => have := hp.less rfl; omega
 | false => have := (hp.same rfl).1; subst this; exact hm
structure NEnv (tb : TypeId) (bs : List Blk) (h : Nat) (E : PEnv) : Prop where
 e0 : E.get 0 = some (blks tb bs)
 e3 : E.get 3 = some (.slc 0 0 (lpT bs h).length (lpT bs h).length)
 e4 : E.get 4 = some (blist 4 (reachL bs (-1)))
 e5 : E.get 5 = some (pn h)
noncomputable def NL (bs : List Blk) (h : Nat) : List LObj := [.row 156 ((lpT bs h).flatMap encL)]
def NJ1 (tb : TypeId) (bs : List Blk) (m : Nat) (E : PEnv) (L : List LObj) : Prop := ∃ h,h + m = bs.length ∧ L = NL bs h ∧ NEnv tb bs h E
def NJ2 (tb : TypeId) (bs : List Blk) (h : Nat) (m : Nat) (E : PEnv) (L : List LObj) : Prop := ∃ b l,b + m = bs.length ∧ L = NL bs h ∧ NEnv tb bs h E ∧ Srcs bs h b l ∧ E.get 6 = some (ints 3 l) ∧ E.get 7 = some (pn b)
def NJ3 (tb : TypeId) (bs : List Blk) (h : Nat) (m : Nat) (E : PEnv) (L : List LObj) : Prop := ∃ l ag,m = 2 * miss bs.length l + (if ag = true then 1 else 0) ∧ L = NL bs h ∧ NEnv tb bs h E ∧ LIn bs h l ∧ (ag = false → l = loopL bs h) ∧ E.get 6 = some (ints 3 l) ∧ E.get 8 = some (pbool ag)
def NJ4 (tb : TypeId) (bs : List Blk) (h : Nat) (lp : List Int) (m : Nat) (E : PEnv) (L : List LObj) : Prop := ∃ b l ag,b + m = bs.length ∧ L = NL bs h ∧ NEnv tb bs h E ∧ MPass bs h lp l ag b ∧ E.get 6 = some (ints 3 l) ∧ E.get 8 = some (pbool ag) ∧ E.get 9 = some (pn b)
def NJ5 (tb : TypeId) (bs : List Blk) (h : Nat) (lp : List Int) (b : Nat) (hb : b < bs.length) (m : Nat) (E : PEnv) (L : List LObj) : Prop := ∃ k l ag,k + m = bs[b].next.length ∧ L = NL bs h ∧ NEnv tb bs h E ∧ MPass2 bs h lp l ag b k ∧ E.get 6 = some (ints 3 l) ∧ E.get 8 = some (pbool ag) ∧ E.get 9 = some (pn b) ∧ E.get 10 = some (pn k)
theorem hasLoop_of {bs : List Blk} {h : Nat} {l : List Int} (hs : Srcs bs h bs.length l) : hasLoop bs h ↔ l ≠ [] := by
 constructor
 ·rintro ⟨b,hb,hk⟩ e
  have := (hs.mem b).2 ⟨b,rfl,hb,hk⟩
  rw [e] at this; simp at this
 ·intro hn
  obtain ⟨x,hx⟩ := List.exists_mem_of_ne_nil _ hn
  obtain ⟨k,_,hk,hb⟩ := (hs.mem x).1 hx
  exact ⟨k,hk,hb⟩
theorem loopsTo_len {bs : List Blk} {n : Nat} : (lpT bs n).length ≤ n := by
 simp only [lpT,List.length_map]
 exact Nat.le_trans (List.length_filter_le _ _) (Nat.le_of_eq List.length_range)
theorem pcells_ints {t : TypeId} {l : List Int} : pcells (ints t l) = [ints t l] := rfl
theorem nl_ints {t : TypeId} {l : List Int} : nl (ints t l) = true := rfl
theorem pone_ints {t : TypeId} {l : List Int} : pone (ints t l) = true := rfl
theorem sumC {α : Type} {l : List α} {k : Nat} : (l.map fun _ => k).sum = l.length * k := by
 induction l with
 | nil => simp
 | cons a l ih => simp [ih,Nat.succ_mul,Nat.add_comm]
set_option linter.unusedSimpArgs false in
theorem loopsR_ok {tb : TypeId} {bs : List Blk} (hok : OkG bs) : PPd (.fn 79 [] []) [blks tb bs] (recs 156 encL (lpT bs bs.length)) := by
 have hl := hok.len
 have hb : big bs.length := by unfold big; omega
 refine PPc rfl rfl rfl (by simp) (by simp) (by simp [recs]) (PW_ok _ ?_)
 simp [ir79]
 refine (reachedR_ok hok).runk ?_
 simp
 refine PC_loop (NJ1 tb bs) ?_ (k := bs.length) ⟨0,by simp,by simp [NL,lpT],⟨by simp,by simp [lpT],by simp,by simp⟩⟩
 rintro m E L ⟨h,hhm,rfl,e0,e3,e4,e5⟩
 refine PW_ok _ ?_
 by_cases hh : h < bs.length
 case neg =>
  have : h = bs.length := by omega
  subst this
  simp [e0,e3,e4,e5,blks,recs]
  exact Vw.frz rfl (by simp) (by simp) rfl
 simp [e0,e3,e4,e5,hh,blks,recs]
 refine PC.abs (Abs.viewL [0] [(0,blks tb bs),(3,.slc 0 0 (lpT bs h).length (lpT bs h).length),(4,blist 4 (reachL bs (-1))),(5,pn h),(6,.fz 3 0 []),(7,pn 0)] (L' := NL bs h) (by simp) (by simp [NL]) (fun i h => by omega) (by simp) (.cons ⟨_,rfl,.row (.same (by simp))⟩ .nil) ?_) ?_
 ·simp [e0,e3,e4,e5]
  exact ⟨.same (by simp),.slc rfl,.same (by simp),.same rfl,.fzs (cs'' := []) (by simp [NL]) rfl (by simp [allNl]) (Nat.zero_le _) rfl rfl (by simp),.same rfl⟩
 refine PC_loop0 (NJ2 tb bs h) ?_ (k := bs.length) ⟨0,[],by simp,rfl,⟨by simp [envOf],by simp [envOf],by simp [envOf],by simp [envOf]⟩,.zero,by simp [ints,envOf],by simp [envOf]⟩
 clear e0 e3 e4 e5
 rintro m2 E L ⟨b,l,hbm,rfl,⟨e0,e3,e4,e5⟩,hs,e6,e7⟩
 by_cases hbb : b < bs.length
 case pos =>
  have hlb := hs.len
  simp [e0,e3,e4,e5,e6,e7,hbb,blks,recs]
  refine (back_ok (tb := tb) hok hbb).runk ?_
  cases hk : backB bs b h with
  | false =>
   simp [e0,e3,e4,e5,e6,e7,wnc hbb hb]
   exact ⟨m2 - 1,by omega,b + 1,l,by omega,rfl,⟨by simp [e0],by simp [e3],by simp [e4],by simp [e5]⟩,hs.skip hk,by simp [e6],by simp⟩
  | true =>
   simp [e0,e3,e4,e5,e6,e7]
   refine (put_ok (by omega)).runk ?_
   simp [e0,e3,e4,e5,e6,e7,wnc hbb hb]
   exact ⟨m2 - 1,by omega,b + 1,putL l b,by omega,rfl,⟨by simp [e0],by simp [e3],by simp [e4],by simp [e5]⟩,hs.put hk,by simp,by simp⟩
 have : b = bs.length := by omega
 subst this
 have next : ∀ {E' : PEnv} {L' : List LObj},Abs 0 E' L' (envOf [(0,blks tb bs),(3,.slc 0 0 (lpT bs (h + 1)).length (lpT bs (h + 1)).length),(4,blist 4 (reachL bs (-1))),(5,pn (h + 1))]) (NL bs (h + 1)) →
   ∃ k',k' < m ∧ ∃ E'' L'',Abs 0 E' L' E'' L'' ∧ NJ1 tb bs k' E'' L'' := fun ha =>
  ⟨m - 1,by omega,_,_,ha,h + 1,by omega,rfl,⟨by simp [envOf],by simp [envOf],by simp [envOf],by simp [envOf]⟩⟩
 by_cases hl0 : l = []
 ·have hnl : ¬ hasLoop bs h := fun hx => (hasLoop_of hs).1 hx hl0
  subst hl0
  simp [e0,e3,e4,e5,e6,e7,blks,recs,ints,wnc hh hb]
  refine next (Abs.viewL [0] _ (by simp) (by simp [NL]) (fun i h => by omega) (by simp) (.cons ⟨_,rfl,.row ?_⟩ .nil) ?_)
  ·rw [loopsTo_skip hnl]; exact .same (by simp)
  ·simp [e0,e3,e4,e5]
   rw [loopsTo_skip hnl]
   exact ⟨.same (by simp),.slc rfl,.same (by simp),.same rfl⟩
 have hlp : hasLoop bs h := (hasLoop_of hs).2 hl0
 have hll := hs.len
 simp [e0,e3,e4,e5,e6,e7,blks,recs,ints,hl0]
 refine (put_ok (l := l) (n := (h : Int)) (by omega)).runk ?_
 simp [e0,e3,e4,e5,e6,e7]
 refine PC_loop0 (NJ3 tb bs h) ?_ ⟨putL l h,true,rfl,rfl,⟨by simp [e0],by simp [e3],by simp [e4],by simp [e5]⟩,hs.lin,(fun h => by cases h),by simp,by simp⟩
 clear e0 e3 e4 e5 e6 e7 hs hl0 hll
 rintro m2 E L ⟨l,ag,rfl,rfl,⟨e0,e3,e4,e5⟩,hli,hag,e6,e8⟩
 have hll := hli.len hh
 cases ag with
 | false =>
  have := hag rfl
  subst this
  have hle : (lpT bs h).length ≤ h := loopsTo_len
  have rr : roomy ((lpT bs h).length + 1) 32 := rmf (by omega) (by omega)
  simp [e0,e3,e4,e5,e6,e8,wnc hh hb,NL,rr,pcells_ints,nl_ints,pone_ints,sumC,allOne]
  refine next (Abs.viewL [2] _ (by simp) (by simp) (fun i h => by omega) (by simp) (.cons ⟨_,rfl,.row ?_⟩ .nil) ?_)
  ·rw [loopsTo_succ hlp,List.flatMap_append]
   exact VwL.same (by simp)
  ·simp [e0,e3,e4,e5,loopsTo_succ hlp]
   exact ⟨.same (by simp),.slc rfl,.same (by simp),.same rfl⟩
 | true =>
 simp [e8]
 refine PC_loop0 (NJ4 tb bs h l) ?_ (k := bs.length) ⟨0,l,false,by simp,rfl,⟨by simp [e0],by simp [e3],by simp [e4],by simp [e5]⟩,⟨hli,fun _ => ⟨rfl,fun j hj => by omega⟩,(fun h => by cases h)⟩,by simp [e6],by simp,by simp⟩
 clear e0 e3 e4 e5 e6 e8 
 rintro m2 E L ⟨b,l',ag,hbm,rfl,⟨e0,e3,e4,e5⟩,hp,e6,e8,e9⟩
 by_cases hbb : b < bs.length
 case neg =>
  have : b = bs.length := by omega
  subst this
  simp [e0,e9,blks,recs]
  cases ag with
  | true =>
   have := hp.less rfl
   exact ⟨2 * miss bs.length l' + 1,by omega,l',true,rfl,rfl,⟨by simp [e0],by simp [e3],by simp [e4],by simp [e5]⟩,hp.lin,(fun h => by cases h),by simp [e6],by simp [e8]⟩
  | false =>
   have := (hp.same rfl).1
   subst this
   exact ⟨2 * miss bs.length l',by omega,l',false,rfl,rfl,⟨by simp [e0],by simp [e3],by simp [e4],by simp [e5]⟩,hp.lin,fun _ => hp.lin.closed hh fun b => fun hb => (hp.same rfl).2 b hb,by simp [e6],by simp [e8]⟩
 simp [e0,e9,blks,recs,hbb]
 refine PC_loop0 (NJ5 tb bs h l b hbb) ?_ (k := bs[b].next.length) ⟨0,l',ag,by simp,rfl,⟨by simp [e0],by simp [e3],by simp [e4],by simp [e5]⟩,hp.begin,by simp [e6],by simp [e8],by simp [e9],by simp⟩
 have hbi : big bs[b].next.length := by have := hok.next _ (List.getElem_mem hbb); unfold big; omega
 clear e0 e3 e4 e5 e6 e8 e9 hp
 rintro m E L ⟨k,l',ag,hkm,rfl,⟨e0,e3,e4,e5⟩,hp,e6,e8,e9,e10⟩
 by_cases hk : k < bs[b].next.length
 case neg =>
  simp [e0,e9,e10,blks,recs,hbb,cutB hbb,ints,hk,wnc hbb hb]
  exact ⟨m2 - 1,by omega,b + 1,l',ag,by omega,rfl,⟨by simp [e0],by simp [e3],by simp [e4],by simp [e5]⟩,hp.done hbb (by omega),by simp [e6],by simp [e8],by simp⟩
 have hrl := reachL_len (bs := bs) (no := -1)
 have hbr : b < (reachL bs (-1)).length := by omega
 have hll' := hp.lin.len hh
 have next : ∀ {E' : PEnv},E'.get 0 = some (blks tb bs) → E'.get 3 = some (.slc 0 0 (lpT bs h).length (lpT bs h).length) → E'.get 4 = some (blist 4 (reachL bs (-1))) → E'.get 5 = some (pn h) → E'.get 6 = some (ints 3 l') → E'.get 8 = some (pbool ag) → E'.get 9 = some (pn b) → E'.get 10 = some (pn (k + 1)) →
   ((reachL bs (-1))[b]? = some true → bs[b].next[k] ≠ (h : Int) → bs[b].next[k] ∈ l' → (b : Int) ∈ l') → ∃ k',k' < m ∧ NJ5 tb bs h l b hbb k' E' (NL bs h) := fun a0 a3 a4 a5 a6 a8 a9 a10 hs =>
  ⟨m - 1,by omega,k + 1,l',ag,by omega,rfl,⟨a0,a3,a4,a5⟩,hp.skip hbb hk hs,a6,a8,a9,a10⟩
 have hbl : blist 4 (reachL bs (-1)) = .fz 4 bs.length ((reachL bs (-1)).map pbool) := by rw [blist,hrl]
 have hcb : cut ((reachL bs (-1)).map pbool) b 1 = [pbool (reachL bs (-1))[b]] := cut1 hbr
 have hli' : ∀ x : Int,PPd (.fn 144 [] []) [ints 3 l',pin x] (pbool (decide (x ∈ l'))) := fun x => has_ok (by unfold big; omega)
 cases hr : (reachL bs (-1))[b] with
 | false =>
  simp [e0,e3,e4,e5,e6,e8,e9,e10,blks,recs,hbb,cutB hbb,ints,hk,cut1 hk,hbl,hcb,hr,wnc hk hbi]
  exact next (by simp [e0]) (by simp [e3]) (by simp [e4]) (by simp [e5]) (by simp [e6]) (by simp [e8]) (by simp [e9]) (by simp) (fun h => by simp [hbr,hr] at h)
 | true =>
 have hrt : (reachL bs (-1))[b]? = some true := by simp [hbr,hr]
 by_cases hxh : bs[b].next[k] = (h : Int)
 case pos =>
  simp [e0,e3,e4,e5,e6,e8,e9,e10,blks,recs,hbb,cutB hbb,ints,hk,cut1 hk,hbl,hcb,hr,hxh,wnc hk hbi]
  exact next (by simp [e0]) (by simp [e3]) (by simp [e4]) (by simp [e5]) (by simp [e6]) (by simp [e8]) (by simp [e9]) (by simp) (fun _ h => absurd hxh h)
 simp [e0,e3,e4,e5,e6,e8,e9,e10,blks,recs,hbb,cutB hbb,ints,hk,cut1 hk,hbl,hcb,hr,hxh]
 refine (hli' _).runk ?_
 by_cases hxl : bs[b].next[k] ∈ l'
 case neg =>
  simp [e0,e3,e4,e5,e6,e8,e9,e10,hxl,wnc hk hbi]
  exact next (by simp [e0]) (by simp [e3]) (by simp [e4]) (by simp [e5]) (by simp [e6]) (by simp [e8]) (by simp [e9]) (by simp) (fun _ _ h => absurd h hxl)
 simp [e0,e3,e4,e5,e6,e8,e9,e10,hxl]
 refine (hli' _).runk ?_
 by_cases hbl' : (b : Int) ∈ l'
 case pos =>
  simp [e0,e3,e4,e5,e6,e8,e9,e10,hbl',wnc hk hbi]
  exact next (by simp [e0]) (by simp [e3]) (by simp [e4]) (by simp [e5]) (by simp [e6]) (by simp [e8]) (by simp [e9]) (by simp) (fun _ _ _ => hbl')
 simp [e0,e3,e4,e5,e6,e8,e9,e10,hbl']
 refine (put_ok (l := l') (n := (b : Int)) (by omega)).runk ?_
 simp [e0,e3,e4,e5,e6,e8,e9,e10,wnc hk hbi]
 exact ⟨m - 1,by omega,k + 1,putL l' b,true,by omega,rfl,⟨by simp [e0],by simp [e3],by simp [e4],by simp [e5]⟩,hp.add hbb hk hrt hxh hxl hbl',by simp,by simp,by simp [e9],by simp⟩
def decI (x : Int) : List UInt8 := decS x.toNat
def nextS (l : List Int) : List UInt8 := l.flatMap fun x => 32 :: decI x
def byS (x : Int) : List UInt8 := if 0 ≤ x then [32,98,121,32] ++ decI x else []
def loopS (ls : List Lp) (i : Nat) : List UInt8 := ls.flatMap fun x => if x.head = (i : Int) then [32,108,111,111,112] else []
def lineS (b : Blk) (x : Int) (ls : List Lp) (i : Nat) : List UInt8 := decS i ++ [32] ++ decI b.src ++ [46,46] ++ decI b.to ++ [32,45,62] ++ nextS b.next ++ byS x ++ loopS ls i ++ [10]
def lineAt (bs : List Blk) (ds : List Int) (ls : List Lp) (i : Nat) : List UInt8 := match bs[i]?,ds[i]? with
 | some b,some x => lineS b x ls i
 | _,_ => []
def txtS (bs : List Blk) (ds : List Int) (ls : List Lp) (i : Nat) : List UInt8 := (List.range i).flatMap (lineAt bs ds ls)
theorem txtS_succ {bs : List Blk} {ds : List Int} {ls : List Lp} {i : Nat} : txtS bs ds ls (i + 1) = txtS bs ds ls i ++ lineAt bs ds ls i := by simp [txtS,List.range_succ]
def small1 (x : Int) : Prop := 0 ≤ x ∧ x ≤ 1000
structure OkT (bs : List Blk) (ds : List Int) (ls : List Lp) : Prop where
 nb : bs.length ≤ 1000
 nd : ds.length = bs.length
 nl : ls.length ≤ 1000
 src : ∀ b ∈ bs,small1 b.src ∧ small1 b.to ∧ b.next.length ≤ 1000 ∧ ∀ x ∈ b.next,small1 x
 dom : ∀ x ∈ ds,x ≤ 1000
theorem decI_len {x : Int} (h : x ≤ 1000) : (decI x).length ≤ 1001 := by
 have := decS_len x.toNat x.toNat (Nat.le_refl _)
 unfold decI; omega
theorem dec_ok {x : Int} (h : small1 x) : PPd (.fn 80 [] []) [pin x] (pstr (decI x)) := by
 obtain ⟨k,rfl⟩ : ∃ k : Nat,x = k := ⟨x.toNat,by have := h.1; omega⟩
 have := h.2
 exact digits_ok k k (Nat.le_refl _) (by omega)
theorem flat_len {α : Type} {f : α → List UInt8} {n : Nat} : ∀ (l : List α),(∀ x ∈ l,(f x).length ≤ n) → (l.flatMap f).length ≤ l.length * n := by
 intro l
 induction l with
 | nil => intro _; simp
 | cons a l ih =>
  intro h
  have h1 := h a (by simp)
  have h2 := ih (fun x hx => h x (List.mem_cons_of_mem _ hx))
  simp only [List.flatMap_cons,List.length_append,List.length_cons]
  have : (l.length + 1) * n = l.length * n + n := Nat.succ_mul _ _
  omega
theorem nextS_len {l : List Int} (h : ∀ x ∈ l,small1 x) (hl : l.length ≤ 1000) : (nextS l).length ≤ 1002000 := by
 have := flat_len (f := fun x => 32 :: decI x) (n := 1002) l (fun x hx => by have := decI_len (h x hx).2; simp; omega)
 unfold nextS
 have h2 : l.length * 1002 ≤ 1000 * 1002 := Nat.mul_le_mul_right _ hl
 omega
theorem loopS_len {ls : List Lp} {i : Nat} (h : ls.length ≤ 1000) : (loopS ls i).length ≤ 5000 := by
 have := flat_len (f := fun x : Lp => if x.head = (i : Int) then ([32,108,111,111,112] : List UInt8) else []) (n := 5) ls (fun x _ => by split <;> simp)
 unfold loopS
 omega
theorem byS_len {x : Int} (h : x ≤ 1000) : (byS x).length ≤ 1005 := by
 unfold byS
 split
 ·have := decI_len h; simp; omega
 ·simp
theorem lineAt_len {bs : List Blk} {ds : List Int} {ls : List Lp} {i : Nat} (hi : i ≤ 1000) (h : OkT bs ds ls) : (lineAt bs ds ls i).length ≤ 2000000 := by
 unfold lineAt
 split
 ·rename_i b x hb hx
  obtain ⟨h1,h2,h3,h4⟩ := h.src b (List.mem_of_getElem? hb)
  have a1 := decS_len i i (Nat.le_refl _)
  have a2 := decI_len h1.2
  have a3 := decI_len h2.2
  have a4 := nextS_len h4 h3
  have a5 := byS_len (h.dom x (List.mem_of_getElem? hx))
  have a6 := loopS_len (i := i) h.nl
  simp only [lineS,List.length_append,List.length_cons,List.length_nil]
  omega
 ·simp
theorem txtS_len {bs : List Blk} {ds : List Int} {ls : List Lp} (h : OkT bs ds ls) : ∀ {i : Nat},i ≤ 1000 → (txtS bs ds ls i).length ≤ i * 2000000 := by
 intro i
 induction i with
 | zero => intro _; simp [txtS]
 | succ i ih =>
  intro hi
  have h1 := ih (by omega)
  have h2 := lineAt_len (i := i) (by omega) h
  rw [txtS_succ,List.length_append]
  omega
theorem str_add {a b : List UInt8} (h : a.length + b.length ≤ 9000000000000000000) : arS .add (bstr a) (bstr b) = some (.string (bstr (a ++ b))) := by
 have hm : ¬ IntKind.max .i64 < ((a.length + b.length : Nat) : Int) := by show ¬ (9223372036854775807 : Int) < _; omega
 simp [arS,bstr_app',hm]
 omega
theorem str_lit {a : List UInt8} {b : Array UInt8} (h : a.length + b.size ≤ 9000000000000000000) : arS .add (bstr a) ⟨b⟩ = some (.string (bstr (a ++ b.toList))) := by
 have : (⟨b⟩ : ByteArray) = bstr b.toList := by unfold bstr; simp
 rw [this]; exact str_add (by simpa using h)
def TxJ (bs : List Blk) (ds : List Int) (ls : List Lp) (m : Nat) (E : PEnv) (L : List LObj) : Prop := ∃ i : Nat,i + m = bs.length ∧ L = [] ∧
 Has E [(6,blks 155 bs),(8,ints 3 ds),(9,recs 156 encL ls),(10,pstr (txtS bs ds ls i)),(11,pin i)]
def TxJ2 (bs : List Blk) (ds : List Int) (ls : List Lp) (i : Nat) (s1 : List UInt8) (nx : List Int) (m : Nat) (E : PEnv) (L : List LObj) : Prop := ∃ k : Nat,k + m = nx.length ∧ L = [] ∧
 Has E [(6,blks 155 bs),(8,ints 3 ds),(9,recs 156 encL ls),(10,pstr (s1 ++ nextS (nx.take k))),(11,pin i),(12,pin k)]
def TxJ3 (bs : List Blk) (ds : List Int) (ls : List Lp) (i : Nat) (s1 : List UInt8) (m : Nat) (E : PEnv) (L : List LObj) : Prop := ∃ k : Nat,k + m = ls.length ∧ L = [] ∧
 Has E [(6,blks 155 bs),(8,ints 3 ds),(9,recs 156 encL ls),(10,pstr (s1 ++ loopS (ls.take k) i)),(11,pin i),(13,pin k)]
end Go.Den
/- Blocks: the plain law. -/
namespace Go.Den
def dSq : Nat → ICode → ICode
 | 0,c => c
 | k + 1,.seq _ b => dSq k b
 | _,c => c
def hSq : ICode → ICode
 | .seq a _ => a
 | c => c
def opT (x : FIns) : Bool := decide (x.op = 19) || decide (x.op = 20)
def opE (x : FIns) : Bool := opT x || decide (x.op = 22)
def leadL (l : List FIns) (i : Nat) : Bool := (match i with | 0 => true | j + 1 => (l[j]?.map opE).getD false) || l.any fun x => opT x && decide (x.c = (i : Int))
def stB (f : Nat → Bool) : Nat → List (Nat × Nat) × Nat
 | 0 => ([],0)
 | i + 1 => if i = 0 then ([],0) else if f i then ((stB f i).1 ++ [((stB f i).2,i)],i) else stB f i
theorem stB_lead {f : Nat → Bool} {i : Nat} (h0 : i ≠ 0) (h : f i = true) : stB f (i + 1) = ((stB f i).1 ++ [((stB f i).2,i)],i) := by simp [stB,h0,h]
theorem stB_go {f : Nat → Bool} {i : Nat} (h0 : i ≠ 0) (h : f i = false) : stB f (i + 1) = stB f i := by simp [stB,h0,h]
def numB (f : Nat → Bool) (i : Nat) : Nat := (stB f (i + 1)).1.length
def firstsB (f : Nat → Bool) (i : Nat) : List Nat := (stB f i).1.map (·.1) ++ [(stB f i).2]
def allB (f : Nat → Bool) (n : Nat) : List (Nat × Nat) := if n = 0 then [] else (stB f n).1 ++ [((stB f n).2,n)]
theorem firstsB_lead {f : Nat → Bool} {i : Nat} (h0 : i ≠ 0) (h : f i = true) : firstsB f (i + 1) = firstsB f i ++ [i] := by simp [firstsB,stB_lead h0 h]
theorem firstsB_go {f : Nat → Bool} {i : Nat} (h0 : i ≠ 0) (h : f i = false) : firstsB f (i + 1) = firstsB f i := by simp [firstsB,stB_go h0 h]
theorem firstsB_one {f : Nat → Bool} : firstsB f 1 = [0] := rfl
theorem firstsB_lt {f : Nat → Bool} : ∀ {i : Nat},i ≠ 0 → (∀ x ∈ firstsB f i,x < i) ∧ (firstsB f i).Pairwise (· < ·) := by
 intro i
 induction i with
 | zero => intro h; exact absurd rfl h
 | succ i ih =>
  intro _
  by_cases h0 : i = 0
  ·subst h0; simp [firstsB_one]
  ·obtain ⟨h1,h2⟩ := ih h0
   cases h : f i with
   | true =>
    rw [firstsB_lead h0 h]
    refine ⟨fun x hx => ?_, ?_⟩
    ·rcases List.mem_append.1 hx with e | e
     ·have := h1 x e; omega
     ·simp at e; omega
    ·rw [List.pairwise_append]
     exact ⟨h2,by simp,fun a ha b hb => by simp at hb; subst hb; exact h1 a ha⟩
   | false =>
    rw [firstsB_go h0 h]
    exact ⟨fun x hx => by have := h1 x hx; omega,h2⟩
theorem firstsB_len {f : Nat → Bool} {i : Nat} : (firstsB f i).length = (stB f i).1.length + 1 := by simp [firstsB]
theorem firstsB_prefix {f : Nat → Bool} {i : Nat} (h0 : i ≠ 0) : ∀ {n : Nat},i ≤ n → firstsB f i <+: firstsB f n := by
 intro n
 induction n with
 | zero => intro h; omega
 | succ n ih =>
  intro h
  by_cases e : i = n + 1
  ·subst e; exact List.prefix_rfl
  ·have h1 := ih (by omega)
   have hn : n ≠ 0 := by omega
   cases hf : f n with
   | true => rw [firstsB_lead hn hf]; exact h1.trans (List.prefix_append _ _)
   | false => rw [firstsB_go hn hf]; exact h1
theorem firstsB_last {f : Nat → Bool} {i : Nat} (h : i = 0 ∨ f i = true) : (firstsB f (i + 1))[numB f i]? = some i := by
 rcases Nat.eq_zero_or_pos i with e | e
 ·subst e; simp [firstsB_one,numB,stB]
 ·have h1 := h.resolve_left (by omega)
  rw [firstsB_lead (by omega) h1]
  unfold numB
  rw [stB_lead (by omega) h1]
  rw [List.getElem?_append_right (by rw [firstsB_len]; simp)]
  simp [firstsB_len]
theorem firstsB_at {f : Nat → Bool} {i n : Nat} (hi : i < n) (h : i = 0 ∨ f i = true) : (firstsB f n)[numB f i]? = some i ∧ ∀ k x,k < numB f i → (firstsB f n)[k]? = some x → x ≠ i := by
 have h1 : (firstsB f n)[numB f i]? = some i := by
  obtain ⟨r,hr⟩ := firstsB_prefix (f := f) (i := i + 1) (by omega) (n := n) (by omega)
  rw [← hr]
  have := firstsB_last h
  rw [List.getElem?_append_left]
  ·exact this
  ·exact (List.getElem?_eq_some_iff.1 this).1
 refine ⟨h1,fun k x hk hx e => ?_⟩
 subst e
 have h2 := (firstsB_lt (f := f) (i := n) (by omega)).2
 rw [List.pairwise_iff_getElem] at h2
 obtain ⟨ha,hb⟩ := List.getElem?_eq_some_iff.1 h1
 obtain ⟨hc,hd⟩ := List.getElem?_eq_some_iff.1 hx
 have := h2 k (numB f x) hc ha hk
 omega
theorem numB_lt {f : Nat → Bool} {i n : Nat} (hi : i < n) : numB f i < (allB f n).length := by
 have h := (firstsB_prefix (f := f) (i := i + 1) (by omega) (n := n) (by omega)).length_le
 rw [firstsB_len,firstsB_len] at h
 unfold numB allB
 rw [if_neg (by omega)]
 simp
 omega
theorem allB_firsts {f : Nat → Bool} {n : Nat} (h : n ≠ 0) : (allB f n).map (·.1) = firstsB f n := by simp [allB,h,firstsB]
theorem stB_ok {f : Nat → Bool} : ∀ {i : Nat},i ≠ 0 → (∀ x ∈ (stB f i).1,x.1 < x.2 ∧ x.2 < i) ∧ (stB f i).2 < i ∧ (stB f i).1.length < i := by
 intro i
 induction i with
 | zero => intro h; exact absurd rfl h
 | succ i ih =>
  intro _
  by_cases h0 : i = 0
  ·subst h0; simp [stB]
  ·obtain ⟨h1,h2,h3⟩ := ih h0
   cases h : f i with
   | true =>
    rw [stB_lead h0 h]
    refine ⟨fun x hx => ?_,by simp,by simp; omega⟩
    rcases List.mem_append.1 hx with e | e
    ·have := h1 x e; omega
    ·simp at e; subst e; simp; omega
   | false =>
    rw [stB_go h0 h]
    exact ⟨fun x hx => by have := h1 x hx; omega,by omega,by omega⟩
theorem allB_ok {f : Nat → Bool} {n : Nat} : (∀ x ∈ allB f n,x.1 < x.2 ∧ x.2 ≤ n) ∧ (allB f n).length ≤ n := by
 unfold allB
 by_cases h : n = 0
 ·subst h; simp
 ·rw [if_neg h]
  obtain ⟨h1,h2,h3⟩ := stB_ok (f := f) h
  refine ⟨fun x hx => ?_,by simp; omega⟩
  rcases List.mem_append.1 hx with e | e
  ·have := h1 x e; omega
  ·simp at e; subst e; simp; omega
def nextB (f : Nat → Bool) (k : Nat) (x : FIns) : List Int :=
 if x.op = 22 then [] else if x.op = 19 then [((numB f x.c.toNat : Nat) : Int)] else if x.op = 20 then (if numB f x.c.toNat = k + 1 then [((k + 1 : Nat) : Int)] else [((k + 1 : Nat) : Int),((numB f x.c.toNat : Nat) : Int)]) else [((k + 1 : Nat) : Int)]
end Go.Den
/- Text, by the reference: the loop. -/
namespace Go.Den
open IrD
attribute [local irreducible] T.get T.set
def unblock : ICode → ICode
 | .block _ c => c
 | c => c
def unloop : ICode → ICode
 | .loop c => c
 | c => c
def code3 : ICode := unblock (dSq 1 (hSq (dSq 3 (unblock (hSq (dSq 1 (unloop (unblock (dSq 1 (hSq (dSq 6 ir18.body))))))))))) 
theorem loop3_ok {bs : List Blk} {ds : List Int} {ls : List Lp} {i : Nat} {s1 : List UInt8} {Q : Ex → PEnv → List LObj → Prop} (hl : s1.length ≤ 4000000000) (hls : ls.length ≤ 1000)
  (hQ : ∀ E L,L = [] → Has E [(6,blks 155 bs),(8,ints 3 ds),(9,recs 156 encL ls),(10,pstr (s1 ++ loopS ls i)),(11,pin i)] → Q (.exit 4) E L)
  {E : PEnv} (e6 : E.get 6 = some (blks 155 bs)) (e8 : E.get 8 = some (ints 3 ds)) (e9 : E.get 9 = some (recs 156 encL ls)) (e10 : E.get 10 = some (pstr s1)) (e11 : E.get 11 = some (pin i)) (e13 : E.get 13 = some (pin (0 : Nat))) : PC FD XA XN 0 code3 Q E [] := by
 have hb : big ls.length := by unfold big; omega
 simp [code3,unblock,unloop,ir18,hSq,dSq]
 refine PCl (TxJ3 bs ds ls i s1) ?_ (k := ls.length) ⟨0,by omega,rfl,e6,e8,e9,by rw [e10]; simp [loopS],e11,e13,trivial⟩
 clear e6 e8 e9 e10 e11 e13
 rintro m E L ⟨k,hkm,rfl,⟨e6,e8,e9,e10,e11,e13, -⟩⟩
 by_cases hk : k < ls.length
 case neg =>
  have hke : k = ls.length := by omega
  subst hke
  rw [List.take_length] at e10
  simp [e6,e8,e9,e10,e11,e13,recs]
  exact hQ _ _ rfl (by simp [e6,e8,e9,e10,e11,recs])
 have hk' : (k : Int) < (ls.length : Int) := by omega
 have hcut : cut (ls.flatMap encL) (k * 2) 2 = [pin ls[k].head,ints 3 ls[k].blocks] := cutk encL_len hk
 have hwk : IntKind.wrap .i64 ((k : Int) + 1) = (k : Int) + 1 := wrap64 (by omega) (by omega)
 have hst : loopS (ls.take (k + 1)) i = loopS (ls.take k) i ++ (if ls[k].head = (i : Int) then [32,108,111,111,112] else []) := by rw [List.take_succ_eq_append_getElem hk]; unfold loopS; rw [List.flatMap_append]; simp
 have hls2 := loopS_len (ls := ls.take k) (i := i) (by rw [List.length_take]; omega)
 generalize loopS (ls.take k) i = s2 at *
 by_cases hh : ls[k].head = (i : Int)
 ·rw [if_pos hh] at hst
  have a1 := str_lit (a := s1 ++ s2) (b := #[32,108,111,111,112]) (by simp; omega)
  simp only [List.append_assoc,List.cons_append,List.nil_append] at a1
  simp [e6,e8,e9,e10,e11,e13,recs,ints,hk,hk',hcut,hh,hwk,a1]
  exact GoOn.same (m - 1) (by omega) ⟨k + 1,by omega,rfl,by rw [hst]; simp [e6,e8,e9,e10,e11,e13,recs]⟩
 ·rw [if_neg hh,List.append_nil] at hst
  simp [e6,e8,e9,e10,e11,e13,recs,ints,hk,hk',hcut,hh,hwk]
  exact GoOn.same (m - 1) (by omega) ⟨k + 1,by omega,rfl,by rw [hst]; simp [e6,e8,e9,e10,e11,e13,recs]⟩
theorem rtext_loop {bs : List Blk} {ds : List Int} {ls : List Lp} {Q : Ex → PEnv → List LObj → Prop} (ok : OkT bs ds ls)
  (hQ : ∀ E L,L = [] → Has E [(10,pstr (txtS bs ds ls bs.length))] → Q .norm E L)
  {E : PEnv} {L : List LObj} (h : TxJ bs ds ls bs.length E L) : PC FD XA XN 0 (dSq 1 (hSq (dSq 6 ir18.body))) Q E L := by
 have hnb := ok.nb
 have hb : big bs.length := by unfold big; omega
 simp [ir18,hSq,dSq]
 refine PW_ok _ ?_
 simp
 refine PCl (TxJ bs ds ls) ?_ (k := bs.length) h
 clear h
 rintro m E L ⟨i,him,rfl,⟨e6,e8,e9,e10,e11, -⟩⟩
 by_cases hi : i < bs.length
 case neg =>
  have hie : i = bs.length := by omega
  subst hie
  simp [e6,e8,e9,e10,e11,blks,recs]
  exact hQ _ _ rfl (by simp [e10])
 have hi' : (i : Int) < (bs.length : Int) := by omega
 have hcut := cutB hi
 have hbi := ok.src _ (List.getElem_mem hi)
 have hdi : i < ds.length := by rw [ok.nd]; exact hi
 have hts := txtS_len ok (i := i) (by omega)
 have hla : lineAt bs ds ls i = lineS bs[i] ds[i] ls i := by simp [lineAt,hi,hdi]
 have hsucc := txtS_succ (bs := bs) (ds := ds) (ls := ls) (i := i)
 rw [hla] at hsucc
 have hd1 := digits_ok i i (Nat.le_refl _) (by omega)
 have hl1 := decS_len i i (Nat.le_refl _)
 generalize bs[i] = b at *
 obtain ⟨hsrc,hto,hnl,hnx⟩ := hbi
 have hd2 := dec_ok hsrc
 have hd3 := dec_ok hto
 have hl2 := decI_len hsrc.2
 have hl3 := decI_len hto.2
 generalize txtS bs ds ls i = s0 at *
 simp [e6,e8,e9,e10,e11,blks,recs,hi,hi',hcut]
 refine hd1.runj ?_
 have a1 := str_add (a := s0) (b := decS i) (by omega)
 have a2 := str_lit (a := s0 ++ decS i) (b := #[32]) (by simp; omega)
 have a3 := str_add (a := s0 ++ decS i ++ [32]) (b := decI b.src) (by simp; omega)
 have a4 := str_lit (a := s0 ++ decS i ++ [32] ++ decI b.src) (b := #[46,46]) (by simp; omega)
 have a5 := str_add (a := s0 ++ decS i ++ [32] ++ decI b.src ++ [46,46]) (b := decI b.to) (by simp; omega)
 have a6 := str_lit (a := s0 ++ decS i ++ [32] ++ decI b.src ++ [46,46] ++ decI b.to) (b := #[32,45,62]) (by simp; omega)
 simp only [List.append_assoc,List.cons_append,List.nil_append] at a1 a2 a3 a4 a5 a6
 simp [e6,e8,e9,e10,e11,blks,recs,hi,hi',hcut,a1,a2]
 refine hd2.runj ?_
 simp [e6,e8,e9,e10,e11,blks,recs,hi,hi',hcut,a3,a4]
 refine hd3.runj ?_
 simp [e6,e8,e9,e10,e11,blks,recs,hi,hi',hcut,a5,a6]
 have hs1 : (s0 ++ (decS i ++ 32 :: (decI b.src ++ 46 :: 46 :: (decI b.to ++ [32,45,62])))).length ≤ 3000000000 := by simp; omega
 have hfin : s0 ++ lineS b ds[i] ls i = (s0 ++ (decS i ++ 32 :: (decI b.src ++ 46 :: 46 :: (decI b.to ++ [32,45,62])))) ++ nextS b.next ++ byS ds[i] ++ loopS ls i ++ [10] := by simp [lineS]
 rw [hfin] at hsucc
 generalize s0 ++ (decS i ++ 32 :: (decI b.src ++ 46 :: 46 :: (decI b.to ++ [32,45,62]))) = s1 at *
 refine PC.abs (Abs.dropAll [(6,blks 155 bs),(8,ints 3 ds),(9,recs 156 encL ls),(10,pstr (s1 ++ nextS (b.next.take 0))),(11,pin i),(12,pin (0 : Nat))] ?_) ?_
 ·simp [e6,e8,e9,e11,nextS]
  exact ⟨.same (by simp),.same (by simp),.same (by simp [recs,noId]),.same rfl,.same rfl,.same rfl⟩
 clear a1 a2 a3 a4 a5 a6 hd1 hd2 hd3 e6 e8 e9 e10 e11
 refine PCl (TxJ2 bs ds ls i s1 b.next) ?_ (k := b.next.length) ⟨0,by omega,rfl,Has.env (by simp)⟩
 rintro m2 E L ⟨k,hkm,rfl,⟨e6,e8,e9,e10,e11,e12, -⟩⟩
 by_cases hk : k < b.next.length
 case pos =>
  have hk' : (k : Int) < (b.next.length : Int) := by omega
  have hxk := hnx _ (List.getElem_mem hk)
  have hd := dec_ok hxk
  have hlx := decI_len hxk.2
  have hcutk := cut1 (f := pin) hk
  have hns := nextS_len (l := b.next.take k) (fun x hx => hnx x (List.mem_of_mem_take hx)) (by rw [List.length_take]; omega)
  have hst : nextS (b.next.take (k + 1)) = nextS (b.next.take k) ++ 32 :: decI b.next[k] := by rw [List.take_succ_eq_append_getElem hk]; unfold nextS; rw [List.flatMap_append,List.flatMap_cons,List.flatMap_nil,List.append_nil]
  have hwk : IntKind.wrap .i64 ((k : Int) + 1) = (k : Int) + 1 := wrap64 (by omega) (by omega)
  generalize b.next[k] = x at *
  generalize nextS (b.next.take k) = s2 at *
  have a1 := str_lit (a := s1 ++ s2) (b := #[32]) (by simp; omega)
  have a2 := str_add (a := s1 ++ s2 ++ [32]) (b := decI x) (by simp; omega)
  simp only [List.append_assoc,List.cons_append,List.nil_append] at a1 a2
  simp [e6,e8,e9,e10,e11,e12,blks,recs,ints,hi,hi',hcut,hk,hk',hcutk,a1]
  refine hd.runk ?_
  simp [e6,e8,e9,e10,e11,e12,a2,hwk]
  exact GoOn.same (m2 - 1) (by omega) ⟨k + 1,by omega,rfl,by rw [hst]; simp [e6,e8,e9,e10,e11,e12]⟩
 have hke : k = b.next.length := by omega
 subst hke
 rw [List.take_length] at e10
 have hns := nextS_len hnx hnl
 have hdx := ok.dom _ (List.getElem_mem hdi)
 have hcutd := cut1 (f := pin) hdi
 have hid : (i : Int) < (ds.length : Int) := by omega
 have hbl := byS_len hdx
 have hbyd : byS ds[i] = if 0 ≤ ds[i] then [32,98,121,32] ++ decI ds[i] else [] := rfl
 generalize ds[i] = x at *
 generalize nextS b.next = s2 at *
 have hs3 : s1 ++ s2 ++ byS x ++ loopS (ls.take 0) i = s1 ++ s2 ++ byS x := by simp [loopS]
 generalize hs4 : s1 ++ s2 ++ byS x = s4 at *
 have hs4l : s4.length ≤ 3002000000 := by rw [← hs4]; simp; omega
 have hll := loopS_len (i := i) ok.nl
 have hwi : IntKind.wrap .i64 ((i : Int) + 1) = (i : Int) + 1 := wrap64 (by omega) (by omega)
 have a3 := str_lit (a := s4 ++ loopS ls i) (b := #[10]) (by simp; omega)
 have hsucc2 : txtS bs ds ls (i + 1) = s4 ++ loopS ls i ++ [10] := hsucc
 simp only [List.append_assoc,List.cons_append,List.nil_append] at a3 hsucc2
 by_cases hx : 0 ≤ x
 rotate_left
 ·rw [if_neg hx] at hbyd
  rw [hbyd,List.append_nil] at hs4
  rw [hs4] at e10
  simp [e6,e8,e9,e10,e11,e12,blks,recs,ints,hi,hi',hcut,hdi,hid,hcutd,hx]
  refine loop3_ok (bs := bs) (ds := ds) (ls := ls) (i := i) (s1 := s4) (by omega) ok.nl ?_ (by simp [e6]) (by simp [e8]) (by simp [e9]) (by simp [e10]) (by simp [e11]) (by simp)
  clear e6 e8 e9 e10 e11 e12
  rintro E L rfl ⟨e6,e8,e9,e10,e11, -⟩
  simp [e6,e8,e9,e10,e11,a3,hwi]
  exact GoOn.same (m - 1) (by omega) ⟨i + 1,by omega,rfl,by rw [hsucc2]; simp [e6,e8,e9,e10,e11]⟩
 ·rw [if_pos hx] at hbyd
  have hd := dec_ok (x := x) ⟨hx,hdx⟩
  have hlx := decI_len hdx
  have a1 := str_lit (a := s1 ++ s2) (b := #[32,98,121,32]) (by simp; omega)
  have a2 := str_add (a := s1 ++ s2 ++ [32,98,121,32]) (b := decI x) (by simp; omega)
  have hs5 : s1 ++ s2 ++ [32,98,121,32] ++ decI x = s4 := by rw [← hs4,hbyd]; simp
  rw [hs5] at a2
  simp only [List.append_assoc,List.cons_append,List.nil_append] at a1 a2
  simp [e6,e8,e9,e10,e11,e12,blks,recs,ints,hi,hi',hcut,hdi,hid,hcutd,hx,a1]
  refine hd.runk ?_
  simp [e6,e8,e9,e10,e11,e12,a2]
  refine loop3_ok (bs := bs) (ds := ds) (ls := ls) (i := i) (s1 := s4) (by omega) ok.nl ?_ (by simp [e6]) (by simp [e8]) (by simp [e9]) (by simp) (by simp [e11]) (by simp)
  clear e6 e8 e9 e10 e11 e12
  rintro E L rfl ⟨e6,e8,e9,e10,e11, -⟩
  simp [e6,e8,e9,e10,e11,a3,hwi]
  exact GoOn.same (m - 1) (by omega) ⟨i + 1,by omega,rfl,by rw [hsucc2]; simp [e6,e8,e9,e10,e11]⟩
theorem fewB_cons {most n : Int} {b : FBody} {l : List FBody} : fewB most n (b :: l) = (decide (n + (1 + b.code.length) ≤ most) && decide (b.regs ≤ 60) && decide (b.name.length ≤ 60) && fewI b.code && fewB most (n + (1 + b.code.length)) l) := rfl
def SmJ1 (c : FCode) (most : Int) (m : Nat) (E : PEnv) (L : List LObj) : Prop := ∃ (i : Nat) (n : Int),i + m = c.bodies.length ∧ L = [] ∧
 Has E [(1,pin most),(5,pin n),(20,recs 61 encBo c.bodies),(21,pin c.bodies.length),(22,pin i)] ∧ fewB most 0 c.bodies = fewB most n (c.bodies.drop i) ∧ 0 ≤ n ∧ n ≤ most
def SmJ2 (c : FCode) (most n : Int) (i : Nat) (code : List FIns) (m : Nat) (E : PEnv) (L : List LObj) : Prop := ∃ k : Nat,k + m = code.length ∧ L = [] ∧
 Has E [(1,pin most),(5,pin n),(20,recs 61 encBo c.bodies),(21,pin c.bodies.length),(22,pin i),(47,recs 65 encI code),(48,pin code.length),(49,pin k)] ∧ fewI code = fewI (code.drop k)
theorem small_ok {c : FCode} {most : Int} (hc : Holds c) (h0 : 0 ≤ most) (h1 : most ≤ 1000000) : PPd (.fn 13 [] []) [.agg (encC c),pin most] (pbool (smallB c most)) := by
 refine PPc rfl rfl rfl (by simp) (by simp [noId]) (by simp) (PW_ok _ ?_)
 by_cases hl : (20 : Int) < c.bodies.length
 ·have hs : smallB c most = false := by simp only [smallB,show ¬ c.bodies.length ≤ 20 by omega,decide_false,Bool.false_and]
  rw [hs]
  simp [ir13,encC,recs,hl]
  exact .same rfl
 by_cases hg : (50 : Int) < c.globals
 ·have hs : smallB c most = false := by simp only [smallB,show ¬ c.globals ≤ 50 by omega,decide_false,Bool.false_and,Bool.and_false]
  rw [hs]
  simp [ir13,encC,recs,hl,hg]
  exact .same rfl
 have hs : smallB c most = fewB most 0 c.bodies := by simp only [smallB,show c.bodies.length ≤ 20 by omega,show c.globals ≤ 50 by omega,decide_true,Bool.true_and]
 have hb : big c.bodies.length := by unfold big; omega
 rw [hs]
 simp [ir13,encC,recs,hl,hg]
 refine PC.abs (Abs.dropAll [(1,pin most),(5,pin 0),(20,recs 61 encBo c.bodies),(21,pin c.bodies.length),(22,pin (0 : Nat))] ?_) ?_
 ·simp [recs]
  exact ⟨.same rfl,.same rfl,.same (by simp [noId]),.same rfl,.same rfl⟩
 refine PCl (SmJ1 c most) ?_ (k := c.bodies.length) ⟨0,0,by simp,rfl,Has.env (by simp),by simp,by omega,h0⟩
 rintro m E L ⟨i,n,him,rfl,⟨e1,e5,e20,e21,e22, -⟩,hf,hn0,hn1⟩
 by_cases hi : i < c.bodies.length
 case neg =>
  have : i = c.bodies.length := by omega
  subst this
  rw [List.drop_length] at hf
  simp [e1,e5,e20,e21,e22,hf,fewB]
  exact .same rfl
 have hcut := cutBo hi
 have hdr : c.bodies.drop i = c.bodies[i] :: c.bodies.drop (i + 1) := List.drop_eq_getElem_cons hi
 rw [hdr,fewB_cons] at hf
 obtain ⟨q1,q2,q3⟩ := hc _ (List.getElem_mem hi)
 generalize hbd : c.bodies[i] = b at *
 have w1 : IntKind.wrap .i64 (1 + (b.code.length : Int)) = 1 + b.code.length := wrap64 (by unfold big at q1; omega) (by unfold big at q1; omega)
 have w2 : IntKind.wrap .i64 (n + (1 + (b.code.length : Int))) = n + (1 + b.code.length) := wrap64 (by unfold big at q1; omega) (by unfold big at q1; omega)
 have wi := wnc hi hb
 by_cases c1 : most < n + (1 + (b.code.length : Int))
 ·have hs : fewB most 0 c.bodies = false := by rw [hf]; simp only [show ¬ n + (1 + (b.code.length : Int)) ≤ most by omega,decide_false,Bool.false_and]
  rw [hs]
  simp [e1,e5,e20,e21,e22,hi,recs,hcut,hbd,encBo,w1,w2,c1]
  exact .same rfl
 by_cases c2 : (60 : Int) < b.regs
 ·have hs : fewB most 0 c.bodies = false := by rw [hf]; simp only [show ¬ b.regs ≤ 60 by omega,decide_false,Bool.false_and,Bool.and_false]
  rw [hs]
  simp [e1,e5,e20,e21,e22,hi,recs,hcut,hbd,encBo,w1,w2,c1,c2]
  exact .same rfl
 by_cases c3 : (60 : Int) < b.name.length
 ·have hs : fewB most 0 c.bodies = false := by rw [hf]; simp only [show ¬ b.name.length ≤ 60 by omega,decide_false,Bool.false_and,Bool.and_false]
  rw [hs]
  simp [e1,e5,e20,e21,e22,hi,recs,hcut,hbd,encBo,w1,w2,c1,c2,c3]
  exact .same rfl
 simp only [show n + (1 + (b.code.length : Int)) ≤ most by omega,show b.regs ≤ 60 by omega,show b.name.length ≤ 60 by omega,decide_true,Bool.true_and] at hf
 simp [e1,e5,e20,e21,e22,hi,recs,hcut,hbd,encBo,w1,w2,c1,c2,c3]
 refine PC.abs (Abs.dropAll [(1,pin most),(5,pin (n + (1 + (b.code.length : Int)))),(20,recs 61 encBo c.bodies),(21,pin c.bodies.length),(22,pin i),(47,recs 65 encI b.code),(48,pin b.code.length),(49,pin (0 : Nat))] ?_) ?_
 ·simp [e1,e20,e21,e22,recs]
  exact ⟨.same rfl,.same rfl,.same (by simp [noId]),.same rfl,.same rfl,.same (by simp [noId]),.same rfl,.same rfl⟩
 have hbc : big b.code.length := q1
 refine PCl (SmJ2 c most (n + (1 + (b.code.length : Int))) i b.code) ?_ (k := b.code.length) ⟨0,by simp,rfl,Has.env (by simp),by simp⟩
 clear e1 e5 e20 e21 e22
 rintro m2 E L ⟨k,hkm,rfl,⟨e1,e5,e20,e21,e22,e47,e48,e49, -⟩,hfi⟩
 by_cases hk : k < b.code.length
 case neg =>
  have : k = b.code.length := by omega
  subst this
  rw [List.drop_length] at hfi
  rw [hfi] at hf
  simp [e1,e5,e20,e21,e22,e47,e48,e49,wi]
  refine GoOn.drop [(1,pin most),(5,pin (n + (1 + (b.code.length : Int)))),(20,recs 61 encBo c.bodies),(21,pin c.bodies.length),(22,pin (i + 1 : Nat))] (m - 1) (by omega) ?_ ⟨i + 1,_,by omega,rfl,Has.env (by simp),by rw [hf]; simp [fewI],by omega,by omega⟩
  simp [e1,e5,e20,e21]
  exact ⟨.same rfl,.same rfl,.same (by simp [noId]),.same rfl,.same rfl⟩
 have hcutI := cutI hk
 have hdk : b.code.drop k = b.code[k] :: b.code.drop (k + 1) := List.drop_eq_getElem_cons hk
 rw [hdk] at hfi
 obtain ⟨q4,q5⟩ := q3 _ (List.getElem_mem hk)
 generalize hik : b.code[k] = x at *
 have hfx : fewI (x :: b.code.drop (k + 1)) = (decide (x.list.length ≤ 20) && decide (x.text.length ≤ 60) && fewI (b.code.drop (k + 1))) := rfl
 rw [hfx] at hfi
 have wk := wnc hk hbc
 by_cases d1 : (20 : Int) < x.list.length
 ·have hs : fewB most 0 c.bodies = false := by rw [hf,hfi]; simp only [show ¬ x.list.length ≤ 20 by omega,decide_false,Bool.false_and]
  rw [hs]
  simp [e1,e5,e20,e21,e22,e47,e48,e49,hk,recs,hcutI,hik,encI,ints,d1]
  exact .same rfl
 by_cases d2 : (60 : Int) < x.text.length
 ·have hs : fewB most 0 c.bodies = false := by rw [hf,hfi]; simp only [show ¬ x.text.length ≤ 60 by omega,decide_false,Bool.false_and,Bool.and_false]
  rw [hs]
  simp [e1,e5,e20,e21,e22,e47,e48,e49,hk,recs,hcutI,hik,encI,ints,d1,d2]
  exact .same rfl
 simp only [show x.list.length ≤ 20 by omega,show x.text.length ≤ 60 by omega,decide_true,Bool.true_and] at hfi
 simp [e1,e5,e20,e21,e22,e47,e48,e49,hk,recs,hcutI,hik,encI,ints,d1,d2,wk]
 refine GoOn.drop [(1,pin most),(5,pin (n + (1 + (b.code.length : Int)))),(20,recs 61 encBo c.bodies),(21,pin c.bodies.length),(22,pin i),(47,recs 65 encI b.code),(48,pin b.code.length),(49,pin (k + 1 : Nat))] (m2 - 1) (by omega) ?_ ⟨k + 1,by omega,rfl,Has.env (by simp),hfi⟩
 simp [e1,e5,e20,e21,e22,e47,e48,recs]
 exact ⟨.same rfl,.same rfl,.same (by simp [noId]),.same rfl,.same rfl,.same (by simp [noId]),.same rfl,.same rfl⟩
structure FRule where
 word : List UInt8
 a : Int
 b : Int
 c : Int
 d : Int
 texts : List UInt8
def encR (r : FRule) : List PV := [pstr r.word,pin r.a,pin r.b,pin r.c,pin r.d,pstr r.texts]
@[simp] theorem encR_len (r : FRule) : (encR r).length = 6 := rfl
@[simp] theorem encR_nl (r : FRule) : allNl (encR r) := by simp [encR]
@[simp] theorem encR_noId (r : FRule) : noIdL (encR r) = true := by simp [encR,noIdL,noId]
def rulesL : List FRule := [
 ⟨[],0,0,0,0,[]⟩,
 ⟨[115,101,116],3,5,0,0,[]⟩,
 ⟨[99,111,112,121],3,1,0,0,[]⟩,
 ⟨[117,110,97,114,121],3,1,0,0,[45,32,33]⟩,
 ⟨[98,105,110,97,114,121],3,1,1,0,[43,32,45,32,42,32,47,32,37,32,61,61,32,33,61,32,60,32,60,61,32,62,32,62,61,32,109,105,110,32,109,97,120,32,38,38,32,124,124]⟩,
 ⟨[103,101,116],3,6,0,0,[]⟩,
 ⟨[112,117,116],6,1,0,0,[]⟩,
 ⟨[114,97,110,103,101],3,1,1,0,[]⟩,
 ⟨[98,121],3,1,1,0,[]⟩,
 ⟨[99,111,117,110,116],3,1,1,0,[]⟩,
 ⟨[100,111,109,97,105,110],3,0,0,0,[]⟩,
 ⟨[109,97,112],3,1,10,2,[]⟩,
 ⟨[97,114,114,97,121],3,1,0,0,[]⟩,
 ⟨[99,101,108,108],3,0,0,0,[]⟩,
 ⟨[97,116,111,109,105,99],3,0,0,0,[]⟩,
 ⟨[102,105,101,108,100],3,1,0,0,[115,105,122,101,32,108,111,119,32,104,105,103,104,32,115,116,114,105,100,101,32,100,111,109,97,105,110]⟩,
 ⟨[110,116,104],3,1,9,1,[]⟩,
 ⟨[108,111,97,100],3,1,0,0,[]⟩,
 ⟨[115,116,111,114,101],1,1,0,0,[]⟩,
 ⟨[106,117,109,112],0,0,7,0,[]⟩,
 ⟨[105,102],1,0,7,0,[]⟩,
 ⟨[99,97,108,108],4,8,0,0,[]⟩,
 ⟨[114,101,116,117,114,110],2,0,0,0,[]⟩,
 ⟨[104,101,114,101],3,0,0,0,[]⟩,
 ⟨[108,111,99,97,108,101,115],3,0,0,0,[]⟩,
 ⟨[103,111],1,0,0,0,[]⟩,
 ⟨[99,111,117,110,116,101,114],3,0,0,0,[]⟩,
 ⟨[115,112,97,119,110],2,8,0,0,[]⟩,
 ⟨[119,97,105,116],1,0,0,0,[]⟩,
 ⟨[115,99,111,112,101],3,0,0,0,[]⟩,
 ⟨[117,110,115,99,111,112,101],0,0,0,0,[]⟩,
 ⟨[112,105,101,99,101,115],3,1,0,0,[]⟩,
 ⟨[112,105,101,99,101],3,1,9,1,[]⟩,
 ⟨[105,110,112,105,101,99,101],3,1,9,1,[]⟩,
 ⟨[111,110,99,101,108,108],4,1,2,0,[114,101,97,100,70,69,32,114,101,97,100,70,70,32,114,101,97,100,88,88,32,119,114,105,116,101,69,70,32,119,114,105,116,101,70,70,32,119,114,105,116,101,88,70,32,114,101,115,101,116,32,105,115,70,117,108,108]⟩,
 ⟨[111,110,97,116,111,109],4,1,0,0,[114,101,97,100,32,119,114,105,116,101,32,97,100,100,32,102,101,116,99,104,65,100,100,32,101,120,99,104,97,110,103,101,32,99,111,109,112,97,114,101,65,110,100,83,119,97,112]⟩,
 ⟨[119,114,105,116,101],0,0,0,0,[]⟩,
 ⟨[97,115,115,101,114,116],1,0,0,0,[]⟩]
theorem rules_ok : PPd (.fn 187 [] []) [] (.agg (rulesL.flatMap encR)) := PP_run (n := 100) FD_ext rfl (by kernel_rfl)
def ruleN (n : Nat) : FRule := rulesL.getD n ⟨[],0,0,0,0,[]⟩
def strs (t : TypeId) (l : List (List UInt8)) : PV := .fz t l.length (l.map pstr)
@[simp] theorem strs_noId {t : TypeId} {l : List (List UInt8)} : noId (strs t l) = true := by simp [strs,noId]
def fldT : List (List UInt8) := [[48,48,48,48],[114,110,48,48],[114,114,48,48],[114,114,48,48],[114,114,114,48],[114,103,48,48],[103,114,48,48],[114,114,114,48],[114,114,114,48],[114,114,114,48],[114,48,48,48],[114,114,107,82],[114,114,48,48],[114,48,48,48],[114,48,48,48],[114,114,48,48],[114,114,100,114],[114,114,48,48],[114,114,48,48],[48,48,112,48],[114,48,112,48],[82,98,48,48],[82,48,48,48],[114,48,48,48],[114,48,48,48],[114,48,48,48],[114,48,48,48],[82,98,48,48],[114,48,48,48],[114,48,48,48],[48,48,48,48],[114,114,48,48],[114,114,100,114],[114,114,100,114],[82,114,82,48],[82,114,48,48],[48,48,48,48],[114,48,48,48]]
def fldN (n : Nat) : List UInt8 := fldT.getD n []
def textT : List (List (List UInt8)) := [[],[],[],[[45],[33]],[[43],[45],[42],[47],[37],[61,61],[33,61],[60],[60,61],[62],[62,61],[109,105,110],[109,97,120],[38,38],[124,124]],[],[],[],[],[],[],[],[],[],[],[[115,105,122,101],[108,111,119],[104,105,103,104],[115,116,114,105,100,101],[100,111,109,97,105,110]],[],[],[],[],[],[],[],[],[],[],[],[],[],[],[],[],[],[],[[114,101,97,100,70,69],[114,101,97,100,70,70],[114,101,97,100,88,88],[119,114,105,116,101,69,70],[119,114,105,116,101,70,70],[119,114,105,116,101,88,70],[114,101,115,101,116],[105,115,70,117,108,108]],[[114,101,97,100],[119,114,105,116,101],[97,100,100],[102,101,116,99,104,65,100,100],[101,120,99,104,97,110,103,101],[99,111,109,112,97,114,101,65,110,100,83,119,97,112]],[],[]]
def textN (n : Nat) : List (List UInt8) := textT.getD n []
theorem flds_run : ∀ n : Nat,n < 38 → prunF FD 100 214 [pin n] = some (pstr (fldN n))
 | 0,_ | 1,_ | 2,_ | 3,_ | 4,_ | 5,_ | 6,_ | 7,_ | 8,_ | 9,_ | 10,_ | 11,_ | 12,_ | 13,_ | 14,_ | 15,_ | 16,_ | 17,_ | 18,_ | 19,_ | 20,_ | 21,_ | 22,_ | 23,_ | 24,_ | 25,_ | 26,_ | 27,_ | 28,_ | 29,_ | 30,_ | 31,_ | 32,_ | 33,_ | 34,_ | 35,_ | 36,_ | 37,_ => by kernel_rfl
 | n + 38,h => absurd h (by omega)
theorem flds_ok {n : Nat} (h : n < 38) : PPd (.fn 214 [] []) [pin n] (pstr (fldN n)) := PP_run FD_ext rfl (flds_run n h)
theorem texts_run : ∀ n : Nat,n < 38 → prunF FD 100 216 [pin n] = some (if (textN n).isEmpty then .v (.slice none 0 0) else strs 9 (textN n))
 | 0,_ | 1,_ | 2,_ | 3,_ | 4,_ | 5,_ | 6,_ | 7,_ | 8,_ | 9,_ | 10,_ | 11,_ | 12,_ | 13,_ | 14,_ | 15,_ | 16,_ | 17,_ | 18,_ | 19,_ | 20,_ | 21,_ | 22,_ | 23,_ | 24,_ | 25,_ | 26,_ | 27,_ | 28,_ | 29,_ | 30,_ | 31,_ | 32,_ | 33,_ | 34,_ | 35,_ | 36,_ | 37,_ => by kernel_rfl
 | n + 38,h => absurd h (by omega)
theorem texts_ok {n : Nat} (h : n < 38) : PPd (.fn 216 [] []) [pin n] (if (textN n).isEmpty then .v (.slice none 0 0) else strs 9 (textN n)) := PP_run FD_ext rfl (texts_run n h)
theorem split_run : ∀ n : Nat,n < 38 → (textN n).isEmpty = false → prunF FD 200 199 [pstr (ruleN n).texts] = some (strs 9 (textN n))
 | 0,_,h | 1,_,h | 2,_,h | 5,_,h | 6,_,h | 7,_,h | 8,_,h | 9,_,h | 10,_,h | 11,_,h | 12,_,h | 13,_,h | 14,_,h | 16,_,h | 17,_,h | 18,_,h | 19,_,h | 20,_,h | 21,_,h | 22,_,h | 23,_,h | 24,_,h | 25,_,h | 26,_,h | 27,_,h | 28,_,h | 29,_,h | 30,_,h | 31,_,h | 32,_,h | 33,_,h | 36,_,h | 37,_,h => by cases h
 | 3,_,h | 4,_,h | 15,_,h | 34,_,h | 35,_,h => by kernel_rfl
 | n + 38,h,_ => absurd h (by omega)
theorem split_ok {n : Nat} (h : n < 38) (he : (textN n).isEmpty = false) : PPd (.fn 199 [] []) [pstr (ruleN n).texts] (strs 9 (textN n)) := PP_run FD_ext (by simp [noIdL,noId]) (split_run n h he)
@[simp] theorem encR_one (r : FRule) : allOne (encR r) := by simp [encR]
@[simp] theorem encI_one (r : FIns) : allOne (encI r) := by simp [encI,ints]
@[simp] theorem encBo_one (r : FBody) : allOne (encBo r) := by simp [encBo,recs]
theorem findIdx_first {α : Type} {p : α → Bool} {l : List α} {i : Nat} (h : i < l.length) (h1 : ∀ x ∈ l.take i,p x = false) (h2 : p l[i] = true) : l.findIdx? p = some i := by
 rw [List.findIdx?_eq_some_iff_getElem]
 refine ⟨h,h2,fun j hj => ?_⟩
 have := h1 l[j] (by rw [List.mem_take_iff_getElem]; exact ⟨j,by omega,rfl⟩)
 simp [this]
def firstI {α : Type} (p : α → Bool) (l : List α) : Int := match l.findIdx? p with | some i => (i : Int) | none => -1
theorem firstI_at {α : Type} {p : α → Bool} {l : List α} {i : Nat} (h : i < l.length) (h1 : ∀ x ∈ l.take i,p x = false) (h2 : p l[i] = true) : firstI p l = i := by
 simp only [firstI,findIdx_first h h1 h2]
theorem firstI_none {α : Type} {p : α → Bool} {l : List α} (h : ∀ x ∈ l,p x = false) : firstI p l = -1 := by
 have : l.findIdx? p = none := by rw [List.findIdx?_eq_none_iff]; exact h
 simp only [firstI,this]
theorem firstI_any {α : Type} {p : α → Bool} {l : List α} : decide (0 ≤ firstI p l) = l.any p := by
 cases h : l.any p
 ·rw [List.any_eq_false] at h
  rw [firstI_none (fun x hx => by simpa using h x hx)]; rfl
 ·rw [List.any_eq_true] at h
  obtain ⟨x,hx,hp⟩ := h
  cases hf : l.findIdx? p with
  | none => rw [List.findIdx?_eq_none_iff] at hf; rw [hf x hx] at hp; cases hp
  | some i => simp [firstI,hf]
theorem take_next {α : Type} {p : α → Bool} {l : List α} {i : Nat} (hi : i < l.length) (h1 : ∀ x ∈ l.take i,p x = false) (h2 : p l[i] = false) : ∀ x ∈ l.take (i + 1),p x = false := by
 intro x hx
 rw [List.take_succ_eq_append_getElem hi] at hx
 rcases List.mem_append.1 hx with h | h
 ·exact h1 x h
 ·rw [List.mem_singleton.1 h]; exact h2
def kindB (c : FCode) (b : FBody) (k n : Int) : Bool :=
 if k = 0 then decide (n = 0) else if k = 1 ∨ k = 3 then decide (0 ≤ n) && decide (n < b.regs) else if k = 2 ∨ k = 4 then decide (-1 ≤ n) && decide (n < b.regs)
 else if k = 6 then decide (0 ≤ n) && decide (n < c.globals) else if k = 7 then decide (0 ≤ n) && decide (n < b.code.length) else if k = 8 then decide (0 ≤ n) && decide (n < c.bodies.length)
 else if k = 9 then decide (n = 0) || decide (n = 1) else if k = 10 then decide (1 ≤ n) && decide (n ≤ 4) else true
theorem field_ok {c : FCode} {b : FBody} {k n : Int} (h0 : 0 ≤ k) (h1 : k ≤ 10) : PPd (.fn 197 [] []) [.agg (encC c),.agg (encBo b),pin k,pin n] (pbool (kindB c b k n)) := by
 refine PPc rfl rfl rfl (by simp) (by simp [noId]) (by simp) (PW_ok _ ?_)
 have hk : k = 0 ∨ k = 1 ∨ k = 2 ∨ k = 3 ∨ k = 4 ∨ k = 5 ∨ k = 6 ∨ k = 7 ∨ k = 8 ∨ k = 9 ∨ k = 10 := by omega
 rcases hk with rfl | rfl | rfl | rfl | rfl | rfl | rfl | rfl | rfl | rfl | rfl
 ·simp [ir197,kindB]; exact .same rfl
 ·by_cases h : 0 ≤ n <;> simp [ir197,kindB,encC,encBo,recs,h] <;> exact .same rfl
 ·by_cases h : -1 ≤ n <;> simp [ir197,kindB,encC,encBo,recs,h] <;> exact .same rfl
 ·by_cases h : 0 ≤ n <;> simp [ir197,kindB,encC,encBo,recs,h] <;> exact .same rfl
 ·by_cases h : -1 ≤ n <;> simp [ir197,kindB,encC,encBo,recs,h] <;> exact .same rfl
 ·simp [ir197,kindB]; exact .same rfl
 ·by_cases h : 0 ≤ n <;> simp [ir197,kindB,encC,encBo,recs,h] <;> exact .same rfl
 ·by_cases h : 0 ≤ n <;> simp [ir197,kindB,encC,encBo,recs,h] <;> exact .same rfl
 ·by_cases h : 0 ≤ n <;> simp [ir197,kindB,encC,encBo,recs,h] <;> exact .same rfl
 ·by_cases h : n = 0 <;> simp [ir197,kindB,encC,encBo,recs,h] <;> exact .same rfl
 ·by_cases h : 1 ≤ n <;> simp [ir197,kindB,encC,encBo,recs,h] <;> exact .same rfl
theorem field1_ok {c : FCode} {b : FBody} {n : Int} : PPd (.fn 202 [] [.fp (encC c),.fp (encBo b)]) [pin n] (pbool (!kindB c b 1 n)) := by
 refine PPc rfl rfl rfl (by simp [noId]) (by simp [noId]) (by simp) (PW_ok _ ?_)
 simp [ir202]
 refine (field_ok (c := c) (b := b) (k := 1) (n := n) (by omega) (by omega)).runk ?_
 simp
 exact .same rfl
theorem ruleOf_ok {n : Nat} (h0 : 1 ≤ n) (h1 : n ≤ 37) : PPd (.fn 125 [] []) [pin n] (.tup [.agg (encR (ruleN n)),pbool true]) := by
 refine PPc rfl rfl rfl (by simp) (by simp [noId]) (by simp [noId,noIdL]) (PW_ok _ ?_)
 have g0 : ¬ (n : Int) < 1 := by omega
 have g1 : ¬ (37 : Int) < n := by omega
 have hl : n < rulesL.length := by show n < 38; omega
 have hcut : cut (rulesL.flatMap encR) (n * 6) 6 = encR (ruleN n) := by
  rw [cutk encR_len hl]; simp [ruleN,List.getD_eq_getElem?_getD,hl]
 have g2 : (n : Int) < 38 := by omega
 have hps : psl [PV.v (S []),PV.v (I 0),PV.v (I 0),PV.v (I 0),PV.v (I 0),PV.v (S [])] 0 (encR (ruleN n)) = encR (ruleN n) := psplice_full rfl
 simp [ir125,g0,g1]
 refine rules_ok.runk ?_
 have hcc : cut (encR (ruleN n)) 0 6 = encR (ruleN n) := cut_all rfl
 simp [g2,hcut,hps,hcc]
 exact .same (by simp [noId,noIdL])
theorem ruleOf_no {n : Int} (h : n < 1 ∨ 37 < n) : PPd (.fn 125 [] []) [pin n] (.tup [.agg (encR ⟨[],0,0,0,0,[]⟩),pbool false]) := by
 refine PPc rfl rfl rfl (by simp) (by simp [noId]) (by simp [noId,noIdL]) (PW_ok _ ?_)
 by_cases h0 : n < 1
 ·simp [ir125,h0,encR]
  exact .same rfl
 ·have h1 : 37 < n := by omega
  simp [ir125,h0,h1,encR]
  exact .same rfl
def rowOf (r : FRule) (i : FIns) : List PV := [pin r.a,pin i.a,pin r.b,pin i.b,pin r.c,pin i.c,pin r.d,pin i.d]
theorem ruleFields_ok {r : FRule} {i : FIns} : PPd (.fn 126 [] []) [.agg (encR r),.agg (encI i)] (.agg (rowOf r i)) := by
 refine PPc rfl rfl rfl (by simp) (by simp [noId]) (by simp [noId,noIdL,rowOf]) (PW_ok _ ?_)
 simp [ir126,encR,encI,ints,psl,rowOf]
 exact .same rfl
theorem hasS_ok {t : TypeId} {l : List (List UInt8)} {s : List UInt8} (hb : big l.length) : PPd (.fn 217 [] []) [strs t l,pstr s] (pbool (decide (s ∈ l))) := by
 refine PPc rfl rfl rfl (by simp) (by simp [noId]) (by simp) (PW_ok _ ?_)
 simp [ir217,strs]
 refine PCl (fun m E L => ∃ i : Nat,i + m = l.length ∧ L = [] ∧ Has E [(0,strs t l),(1,pstr s),(5,pin i)] ∧ s ∉ l.take i) ?_ (k := l.length) ⟨0,by simp,rfl,by simp [strs],by simp⟩
 rintro m E L ⟨i,him,rfl,⟨e0,e1,e5, -⟩,hn⟩
 by_cases hi : i < l.length
 ·by_cases hx : l[i] = s
  ·simp [e0,e1,e5,hi,strs,cut1 hi,arS,hx]
   exact .decT (hx ▸ List.getElem_mem hi)
  ·simp [e0,e1,e5,hi,strs,cut1 hi,arS,hx,wnc hi hb]
   refine GoOn.same (m - 1) (by omega) ⟨i + 1,by omega,rfl,by simp [e0,e1,strs], ?_⟩
   rw [List.take_succ_eq_append_getElem hi]
   simp only [List.mem_append,List.mem_singleton,not_or]
   exact ⟨hn,fun e => hx e.symm⟩
 ·have hie : i = l.length := by omega
  subst hie
  rw [List.take_length] at hn
  simp [e0,e1,e5,strs]
  exact .decF hn
def IxS (t : TypeId) (l : List (List UInt8)) (s : List UInt8) (m : Nat) (E : PEnv) (L : List LObj) : Prop := ∃ i : Nat,i + m = l.length ∧ L = [] ∧ Has E [(0,strs t l),(1,pstr s),(6,strs t l),(7,pin l.length),(8,pin i)] ∧ ∀ x ∈ l.take i,(fun x => decide (x = s)) x = false
theorem indexS_ok {t : TypeId} {l : List (List UInt8)} {s : List UInt8} (hb : big l.length) : PPd (.fn 293 [] []) [strs t l,pstr s] (pin (firstI (fun x => decide (x = s)) l)) := by
 refine PPc rfl rfl rfl (by simp) (by simp [noId]) (by simp) (PW_ok _ ?_)
 simp [ir293,strs]
 refine PCl (IxS t l s) ?_ (k := l.length) ⟨0,by simp,rfl,by simp [strs],fun x hx => by simp at hx⟩
 rintro m E L ⟨i,him,rfl,⟨e0,e1,e6,e7,e8, -⟩,hn⟩
 by_cases hi : i < l.length
 ·by_cases hx : l[i] = s
  ·rw [firstI_at hi hn (by simp [hx])]
   simp [e0,e1,e6,e7,e8,hi,strs,cut1 hi,arS,hx]
   exact .same rfl
  ·simp [e0,e1,e6,e7,e8,hi,strs,cut1 hi,arS,hx,Ne.symm hx,wnc hi hb]
   exact GoOn.same (m - 1) (by omega) ⟨i + 1,by omega,rfl,by simp [e0,e1,e6,e7,strs],take_next (p := fun x => decide (x = s)) hi hn (by simp [hx])⟩
 ·have hie : i = l.length := by omega
  subst hie
  rw [List.take_length] at hn
  rw [firstI_none hn]
  simp [e0,e1,e6,e7,e8,strs]
  exact .same rfl
theorem containsS_ok {t : TypeId} {l : List (List UInt8)} {s : List UInt8} (hb : big l.length) : PPd (.fn 198 [] []) [strs t l,pstr s] (pbool (decide (s ∈ l))) := by
 refine PPc rfl rfl rfl (by simp) (by simp [noId]) (by simp) (PW_ok _ ?_)
 simp [ir198]
 refine (indexS_ok hb).runk ?_
 have h : decide (0 ≤ firstI (fun x => decide (x = s)) l) = decide (s ∈ l) := by
  rw [firstI_any]
  by_cases hm : s ∈ l
  ·simp [hm]
  ·simp only [hm,decide_false,List.any_eq_false,decide_eq_true_eq]
   rintro x hx rfl; exact hm hx
 simp
 exact .eq (by rw [h]) rfl
theorem indexI_ok {t : TypeId} {l : List Int} {fv : PV} {p : Int → Bool} (hb : big l.length) (hfv : noId fv = true) (hp : ∀ x ∈ l,PPd fv [pin x] (pbool (p x))) : PPd (.fn 188 [] []) [ints t l,fv] (pin (firstI p l)) := by
 refine PPc rfl rfl rfl (by simp) (by simp [noId,hfv]) (by simp) (PW_ok _ ?_)
 simp [ir188,ints]
 refine PCl (fun m E L => ∃ i : Nat,i + m = l.length ∧ L = [] ∧ Has E [(0,ints t l),(1,fv),(7,pin l.length),(8,pin i)] ∧ ∀ x ∈ l.take i,p x = false) ?_ (k := l.length) ⟨0,by simp,rfl,by simp [ints],by simp⟩
 rintro m E L ⟨i,him,rfl,⟨e0,e1,e7,e8, -⟩,hn⟩
 by_cases hi : i < l.length
 ·simp [e0,e1,e7,e8,hi,ints,cut1 hi]
  refine (hp _ (List.getElem_mem hi)).runk ?_
  cases hx : p l[i] with
  | true =>
   rw [firstI_at hi hn hx]
   simp [e0,e1,e7,e8]
   exact .same rfl
  | false =>
   simp [e0,e1,e7,e8,wnc hi hb]
   exact GoOn.same (m - 1) (by omega) ⟨i + 1,by omega,rfl,by simp [e0,e1,e7,ints],take_next hi hn hx⟩
 ·have hie : i = l.length := by omega
  subst hie
  rw [List.take_length] at hn
  rw [firstI_none hn]
  simp [e0,e1,e7,e8,ints]
  exact .same rfl
theorem containsI_ok {t : TypeId} {l : List Int} {fv : PV} {p : Int → Bool} (hb : big l.length) (hfv : noId fv = true) (hp : ∀ x ∈ l,PPd fv [pin x] (pbool (p x))) : PPd (.fn 201 [] []) [ints t l,fv] (pbool (l.any p)) := by
 refine PPc rfl rfl rfl (by simp) (by simp [noId,hfv]) (by simp) (PW_ok _ ?_)
 simp [ir201]
 refine (indexI_ok hb hfv hp).runk ?_
 simp
 exact .eq (by rw [firstI_any]) rfl
theorem lit_toList {a : Array UInt8} : (ByteArray.mk a).toList = a.toList := by rw [ByteArray.toList_eq]
def zerosN (l : List UInt8) : Nat := l.count 0
theorem count_ok {s : List UInt8} : PPd (.fn 367 [] []) [pstr s,.v (.int .u8 0)] (pin (zerosN s)) := by
 intro q L A ρ ζ H dv dargs gz hr hv ha
 obtain ⟨a',c',rfl,h1,h2⟩ := hv.fn_inv
 have e1 := h1.nil_left
 have e2 := h2.nil_left
 cases ha with
 | cons ha1 ha2 =>
  cases ha2 with
  | cons ha2 ha3 =>
   cases ha3
   obtain ⟨rfl,_⟩ := ha1.v_inv
   obtain ⟨rfl,_⟩ := ha2.v_inv
   refine ⟨.int .i64 (zerosN s),H,⟨1,fun m hm => ?_⟩,ρ,ζ,pin (zerosN s),L,.refl _ _,.refl _,hr,.v rfl,Only.refl _ _,fun _ => Only.refl _ _,Nat.le_refl _,rfl,rfl⟩
   obtain ⟨k,rfl⟩ : ∃ k,m = k + 1 := ⟨m - 1,by omega⟩
   have hx : XA 367 = none := by unfold XA; rw [if_neg (by decide),if_neg (by decide),if_neg (by decide),if_neg (by decide),if_neg (by decide)]
   have hn : XN 367 = some xCount := by unfold XN; rw [if_pos rfl]
   simp only [den,hx,hn,e1,e2]
   rfl
theorem strCount_ok {s : List UInt8} : PPd (.fn 296 [] []) [pstr s,pstr [0]] (pin (zerosN s)) := by
 refine PPc rfl rfl rfl (by simp) (by simp [noId]) (by simp) (PW_ok _ ?_)
 simp [ir296]
 refine count_ok.runk ?_
 simp
 exact .same rfl
def ZrJ (s : List UInt8) (m : Nat) (E : PEnv) (L : List LObj) : Prop := ∃ i : Nat,i + m = s.length ∧ L = [] ∧ Has E [(0,pstr s),(3,pin (zerosN (s.take i))),(4,pin i)]
theorem zeroes_ok {s : List UInt8} (hb : big s.length) : PPd (.fn 303 [] []) [pstr s] (pin (zerosN s)) := by
 refine PPc rfl rfl rfl (by simp) (by simp [noId]) (by simp) (PW_ok _ ?_)
 simp [ir303]
 refine PCl (ZrJ s) ?_ (k := s.length) ⟨0,by simp,rfl,by simp [zerosN]⟩
 rintro m E L ⟨i,him,rfl,⟨e0,e3,e4, -⟩⟩
 by_cases hi : i < s.length
 ·have hg : s[i]? = some s[i] := List.getElem?_eq_getElem hi
  have hz : zerosN (s.take i) ≤ i := Nat.le_trans (List.count_le_length) (by simp; omega)
  have hw : IntKind.wrap .i64 ((zerosN (s.take i) : Int) + 1) = ((zerosN (s.take i) + 1 : Nat) : Int) := wnc (n := s.length) (by omega) hb
  have ht : zerosN (s.take (i + 1)) = zerosN (s.take i) + if s[i] = 0 then 1 else 0 := by
   unfold zerosN
   rw [List.take_succ_eq_append_getElem hi,List.count_append,List.count_singleton]
   by_cases h : s[i] = 0 <;> simp [h]
  by_cases h0 : s[i] = 0
  ·have h0' : s[i].toNat = 0 := by rw [h0]; rfl
   rw [if_pos h0] at ht
   simp [e0,e3,e4,hi,hg,h0,h0',hw,wnc hi hb]
   exact GoOn.same (m - 1) (by omega) ⟨i + 1,by omega,rfl,by simp [e0,ht]⟩
  ·have h0' : ¬ s[i].toNat = 0 := fun e => h0 (UInt8.toNat_inj.1 (by simpa using e))
   rw [if_neg h0] at ht
   simp [e0,e3,e4,hi,hg,h0,h0',hw,wnc hi hb]
   exact GoOn.same (m - 1) (by omega) ⟨i + 1,by omega,rfl,by simp [e0,e3,ht]⟩
 ·have hie : i = s.length := by omega
  subst hie
  simp [e0,e3,e4]
  exact .same rfl
def readT : List UInt8 := [114,101,97,100]
def casT : List UInt8 := [99,111,109,112,97,114,101,65,110,100,83,119,97,112]
def lenS (c : FCode) (i : FIns) : Int × Int :=
 if i.op = 10 ∨ i.op = 17 ∨ i.op = 18 then (1,2)
 else if i.op = 21 ∨ i.op = 27 then (match c.bodies[i.b.toNat]? with | some b => (b.args,b.args) | none => (0,0))
 else if i.op = 33 then (1,1)
 else if i.op = 35 then (if i.text = readT then (0,0) else if i.text = casT then (2,2) else (1,1))
 else if i.op = 36 then ((zerosN i.text : Int),(zerosN i.text : Int))
 else (0,0)
def pairI (p : Int × Int) : PV := .tup [pin p.1,pin p.2]
theorem lengths_ok {c : FCode} {i : FIns} (hb : (i.op = 21 ∨ i.op = 27) → 0 ≤ i.b ∧ i.b < c.bodies.length) : PPd (.fn 200 [] []) [.agg (encC c),.agg (encI i)] (pairI (lenS c i)) := by
 refine PPc rfl rfl rfl (by simp) (by simp [noId]) (by simp [pairI,noId,noIdL]) (PW_ok _ ?_)
 by_cases h10 : i.op = 10
 ·simp [ir200,encC,encI,recs,ints,h10,lenS,pairI]; exact .same rfl
 by_cases h17 : i.op = 17
 ·simp [ir200,encC,encI,recs,ints,h10,h17,lenS,pairI]; exact .same rfl
 by_cases h18 : i.op = 18
 ·simp [ir200,encC,encI,recs,ints,h10,h17,h18,lenS,pairI]; exact .same rfl
 by_cases h2 : i.op = 21 ∨ i.op = 27
 ·obtain ⟨b0,b1⟩ := hb h2
  have hlt : i.b.toNat < c.bodies.length := by omega
  have hg : c.bodies[i.b.toNat]? = some c.bodies[i.b.toNat] := List.getElem?_eq_getElem hlt
  have hcut := cutBo hlt
  rcases h2 with h2 | h2
  ·simp [ir200,encC,encI,recs,ints,h10,h17,h18,h2,b0,b1,hcut,encBo,lenS,hg,pairI]; exact .same rfl
  ·simp [ir200,encC,encI,recs,ints,h10,h17,h18,h2,b0,b1,hcut,encBo,lenS,hg,pairI]; exact .same rfl
 simp only [not_or] at h2
 by_cases h33 : i.op = 33
 ·simp [ir200,encC,encI,recs,ints,h10,h17,h18,h2,h33,lenS,pairI]; exact .same rfl
 by_cases h35 : i.op = 35
 ·by_cases t1 : i.text = readT
  ·simp [ir200,encC,encI,recs,ints,h10,h17,h18,h2,h33,h35,lenS,pairI,arS,lit_toList,t1,readT]; exact .same rfl
  by_cases t2 : i.text = casT
  ·simp only [readT] at t1
   simp [ir200,encC,encI,recs,ints,h10,h17,h18,h2,h33,h35,lenS,pairI,arS,lit_toList,t2,readT,casT]; exact .same rfl
  simp only [readT,casT] at t1 t2
  simp [ir200,encC,encI,recs,ints,h10,h17,h18,h2,h33,h35,lenS,pairI,arS,lit_toList,t1,t2,readT,casT]; exact .same rfl
 by_cases h36 : i.op = 36
 ·simp [ir200,encC,encI,recs,ints,h10,h17,h18,h2,h33,h35,h36,lenS]
  refine (strCount_ok (s := i.text)).runk ?_
  simp [pairI]
  exact .same rfl
 simp [ir200,encC,encI,recs,ints,h10,h17,h18,h2,h33,h35,h36,lenS,pairI]; exact .same rfl
theorem length_ok {c : FCode} {i : FIns} (hn : i.op = 21 ∨ i.op = 27 → 0 ≤ i.b) (hz : big i.text.length) : PPd (.fn 218 [] []) [.agg (encC c),.agg (encI i)] (pairI (lenS c i)) := by
 refine PPc rfl rfl rfl (by simp) (by simp [noId]) (by simp [pairI,noId,noIdL]) (PW_ok _ ?_)
 by_cases h10 : i.op = 10
 ·simp [ir218,encC,encI,recs,ints,h10,lenS,pairI]; exact .same rfl
 by_cases h17 : i.op = 17
 ·simp [ir218,encC,encI,recs,ints,h10,h17,lenS,pairI]; exact .same rfl
 by_cases h18 : i.op = 18
 ·simp [ir218,encC,encI,recs,ints,h10,h17,h18,lenS,pairI]; exact .same rfl
 by_cases h2 : i.op = 21 ∨ i.op = 27
 ·have b0 := hn h2
  by_cases b1 : i.b < c.bodies.length
  ·have hlt : i.b.toNat < c.bodies.length := by omega
   have hg : c.bodies[i.b.toNat]? = some c.bodies[i.b.toNat] := List.getElem?_eq_getElem hlt
   have hcut := cutBo hlt
   rcases h2 with h2 | h2
   ·simp [ir218,encC,encI,recs,ints,h10,h17,h18,h2,b0,b1,hcut,encBo,lenS,hg,pairI]; exact .same rfl
   ·simp [ir218,encC,encI,recs,ints,h10,h17,h18,h2,b0,b1,hcut,encBo,lenS,hg,pairI]; exact .same rfl
  ·have hg : c.bodies[i.b.toNat]? = none := List.getElem?_eq_none (by omega)
   rcases h2 with h2 | h2
   ·simp [ir218,encC,encI,recs,ints,h10,h17,h18,h2,b0,b1,lenS,hg,pairI]; exact .same rfl
   ·simp [ir218,encC,encI,recs,ints,h10,h17,h18,h2,b0,b1,lenS,hg,pairI]; exact .same rfl
 simp only [not_or] at h2
 by_cases h33 : i.op = 33
 ·simp [ir218,encC,encI,recs,ints,h10,h17,h18,h2,h33,lenS,pairI]; exact .same rfl
 by_cases h35 : i.op = 35
 ·by_cases t1 : i.text = readT
  ·simp [ir218,encC,encI,recs,ints,h10,h17,h18,h2,h33,h35,lenS,pairI,arS,lit_toList,t1,readT]; exact .same rfl
  by_cases t2 : i.text = casT
  ·simp only [readT] at t1
   simp [ir218,encC,encI,recs,ints,h10,h17,h18,h2,h33,h35,lenS,pairI,arS,lit_toList,t2,readT,casT]; exact .same rfl
  simp only [readT,casT] at t1 t2
  simp [ir218,encC,encI,recs,ints,h10,h17,h18,h2,h33,h35,lenS,pairI,arS,lit_toList,t1,t2,readT,casT]; exact .same rfl
 by_cases h36 : i.op = 36
 ·simp [ir218,encC,encI,recs,ints,h10,h17,h18,h2,h33,h35,h36,lenS]
  refine (zeroes_ok (s := i.text) hz).runj ?_
  simp
  refine (zeroes_ok (s := i.text) hz).runk ?_
  simp [pairI]
  exact .same rfl
 simp [ir218,encC,encI,recs,ints,h10,h17,h18,h2,h33,h35,h36,lenS,pairI]; exact .same rfl
def nameR (r : Int) : Bool := decide (r = 95) || (decide (48 ≤ r) && decide (r ≤ 57)) || (decide (97 ≤ r) && decide (r ≤ 122)) || (decide (65 ≤ r) && decide (r ≤ 90))
def nameC (x : UInt8) : Bool := nameR x.toNat
theorem nameR_t {r : Int} (h : r = 95 ∨ (48 ≤ r ∧ r ≤ 57) ∨ (97 ≤ r ∧ r ≤ 122) ∨ (65 ≤ r ∧ r ≤ 90)) : nameR r = true := by
 simp only [nameR,Bool.or_eq_true,Bool.and_eq_true,decide_eq_true_eq]; omega
theorem nameR_f {r : Int} (h : ¬ (r = 95 ∨ (48 ≤ r ∧ r ≤ 57) ∨ (97 ≤ r ∧ r ≤ 122) ∨ (65 ≤ r ∧ r ≤ 90))) : nameR r = false := by
 cases hh : nameR r with
 | false => rfl
 | true => exfalso; simp only [nameR,Bool.or_eq_true,Bool.and_eq_true,decide_eq_true_eq] at hh; omega
theorem rune_ok {r : Int} : PPd (.fn 196 [] []) [.v (.int .i32 r)] (pbool (!nameR r)) := by
 refine PPc rfl rfl rfl (by simp) (by simp [noId]) (by simp) (PW_ok _ ?_)
 by_cases h1 : r = 95
 ·rw [nameR_t (.inl h1)]
  simp [ir196,h1]; exact .same rfl
 by_cases h2 : r < 48
 ·rw [nameR_f (by omega)]
  have a1 : r < 97 := by omega
  have a2 : r < 65 := by omega
  simp [ir196,h1,h2,a1,a2]; exact .same rfl
 by_cases h3 : r ≤ 57
 ·rw [nameR_t (by omega)]
  have a1 : ¬ 57 < r := by omega
  simp [ir196,h1,h2,a1]; exact .same rfl
 have b3 : 57 < r := by omega
 by_cases h4 : r < 65
 ·rw [nameR_f (by omega)]
  have a1 : r < 97 := by omega
  simp [ir196,h1,h2,b3,h4,a1]; exact .same rfl
 by_cases h5 : r ≤ 90
 ·rw [nameR_t (by omega)]
  have a1 : r < 97 := by omega
  have a2 : ¬ 90 < r := by omega
  simp [ir196,h1,h2,b3,h4,a1,a2]; exact .same rfl
 have b5 : 90 < r := by omega
 by_cases h6 : r < 97
 ·rw [nameR_f (by omega)]
  simp [ir196,h1,h2,b3,h4,b5,h6]; exact .same rfl
 by_cases h7 : r ≤ 122
 ·rw [nameR_t (by omega)]
  have a1 : ¬ 122 < r := by omega
  simp [ir196,h1,h2,b3,h4,b5,h6,a1]; exact .same rfl
 have b7 : 122 < r := by omega
 rw [nameR_f (by omega)]
 simp [ir196,h1,h2,b3,h4,b5,h6,b7]; exact .same rfl
theorem decode_high {s : ByteArray} {i : Nat} (h : i < s.size) (h1 : ¬ (s[i]'h).toNat < 128) : 128 ≤ (Utf8.decode s i).1 := by
 have e : (s.get! i).toNat = (s[i]'h).toNat := by
  cases s with
  | mk d =>
   have hd : i < d.size := h
   simp [ByteArray.get!,hd]
   rfl
 unfold Utf8.decode
 simp only [Nat.add_zero,e,h1,if_false]
 repeat' split
 all_goals first | (simp only [Bool.and_eq_true,decide_eq_true_eq] at *; omega) | (simp only [Utf8.runeError]; omega)
def RuJ (s : List UInt8) (m : Nat) (E : PEnv) (L : List LObj) : Prop := ∃ i : Nat,i + m = s.length ∧ L = [.iter (bstr s) i] ∧ Has E [(1,.fn 196 [] []),(2,pbool true),(10,.ptr 0 0)] ∧ ∀ x ∈ s.take i,(!nameC x) = false
theorem indexRune_ok {s : List UInt8} : PPd (.fn 364 [] []) [pstr s,.fn 196 [] [],pbool true] (pin (firstI (fun x => !nameC x) s)) := by
 refine PPc rfl rfl rfl (by simp) (by simp [noId]) (by simp) (PW_ok _ ?_)
 simp [ir364]
 refine PCl (RuJ s) ?_ (k := s.length) ⟨0,by simp,rfl,by simp,fun x hx => by simp at hx⟩
 rintro m E L ⟨i,him,rfl,⟨e1,e2,e10, -⟩,hn⟩
 by_cases hi : i < s.length
 ·have hi' : i < (bstr s).size := by simpa using hi
  have hsi : (bstr s)[i]'hi' = s[i] := bstr_get' hi'
  simp [e1,e2,e10,hi]
  refine (rune_ok (r := ((Utf8.decode (bstr s) i).1 : Int))).runk ?_
  by_cases hx : nameC s[i] = true
  ·have hxf : (!nameC s[i]) = false := by simp only [hx,Bool.not_true]
   have ha : s[i].toNat < 128 := by
    simp only [nameC,nameR,Bool.or_eq_true,Bool.and_eq_true,decide_eq_true_eq] at hx; omega
   have hd : Utf8.decode (bstr s) i = (s[i].toNat,1) := by
    have := Go.decode_ascii (bstr s) i hi' (by rw [hsi]; exact ha)
    rw [hsi] at this; exact this
   have hx' : nameR (s[i].toNat : Int) = true := hx
   simp [e1,e2,e10,hd,hx']
   exact GoOn.same (m - 1) (by omega) ⟨i + 1,by omega,rfl,by simp [e1,e2,e10],take_next (p := fun x => !nameC x) hi hn hxf⟩
  ·have hx' : nameR ((Utf8.decode (bstr s) i).1 : Int) = false := by
    by_cases ha : s[i].toNat < 128
    ·have := Go.decode_ascii (bstr s) i hi' (by rw [hsi]; exact ha)
     rw [hsi] at this
     rw [this]
     simpa [nameC] using hx
    ·have := decode_high hi' (by rw [hsi]; exact ha)
     exact nameR_f (by omega)
   have hf : firstI (fun x => !nameC x) s = i := firstI_at hi hn (show (!nameC (s[i]'hi)) = true by cases hh : nameC (s[i]'hi) with | false => rfl | true => exact absurd hh hx)
   rw [hf]
   simp [e1,e2,e10,hx']
   exact .same rfl
 ·have hie : i = s.length := by omega
  subst hie
  rw [List.take_length] at hn
  rw [firstI_none hn]
  simp [e1,e2,e10]
  exact .same rfl
def badName (s : List UInt8) : Bool := s.any fun x => !nameC x
theorem containsRune_ok {s : List UInt8} : PPd (.fn 195 [] []) [pstr s,.fn 196 [] []] (pbool (badName s)) := by
 have h100 : PPd (.fn 292 [] []) [pstr s,.fn 196 [] []] (pin (firstI (fun x => !nameC x) s)) := by
  refine PPc rfl rfl rfl (by simp) (by simp [noId]) (by simp) (PW_ok _ ?_)
  simp [ir292]
  refine indexRune_ok.runk ?_
  simp
  exact .same rfl
 refine PPc rfl rfl rfl (by simp) (by simp [noId]) (by simp) (PW_ok _ ?_)
 simp [ir195]
 refine h100.runk ?_
 simp
 exact .eq (by rw [firstI_any]; rfl) rfl
def namedB : List UInt8 → Bool
 | [] => false
 | x :: l => decide (l.length + 1 ≤ 60) && !(decide (48 ≤ x.toNat) && decide (x.toNat ≤ 57)) && !badName (x :: l)
theorem named_ok {s : List UInt8} : PPd (.fn 147 [] []) [pstr s] (pbool (namedB s)) := by
 refine PPc rfl rfl rfl (by simp) (by simp [noId]) (by simp) (PW_ok _ ?_)
 cases s with
 | nil => simp [ir147,namedB]; exact .same rfl
 | cons x l =>
  by_cases h1 : 60 < l.length + 1
  ·have h1' : (60 : Int) < (l.length : Int) + 1 := by omega
   have hs : namedB (x :: l) = false := by simp only [namedB,show ¬ l.length + 1 ≤ 60 by omega,decide_false,Bool.false_and]
   rw [hs]
   have c0 : ¬ (l.length : Int) + 1 < 1 := by omega
   simp [ir147,h1,h1',c0]; exact .same rfl
  have h1' : ¬ (60 : Int) < (l.length : Int) + 1 := by omega
  have c0 : ¬ (l.length : Int) + 1 < 1 := by omega
  by_cases h2 : 48 ≤ x.toNat
  ·by_cases h3 : x.toNat ≤ 57
   ·have hs : namedB (x :: l) = false := by simp [namedB,h2,h3]
    rw [hs]
    have h2' : (48 : Int) ≤ (x.toNat : Int) := by omega
    have h3' : (x.toNat : Int) ≤ 57 := by omega
    simp [ir147,h1,h1',c0,h2,h3,h2',h3']; exact .same rfl
   ·have hs : namedB (x :: l) = !badName (x :: l) := by simp only [namedB,show l.length + 1 ≤ 60 by omega,h2,h3,decide_true,decide_false,Bool.true_and,Bool.and_false,Bool.not_false]
    have h2' : (48 : Int) ≤ (x.toNat : Int) := by omega
    have h3' : ¬ (x.toNat : Int) ≤ 57 := by omega
    rw [hs]
    simp [ir147,h1,h1',c0,h2,h3,h2',h3']
    refine containsRune_ok.runk ?_
    simp
    exact .same rfl
  ·have hs : namedB (x :: l) = !badName (x :: l) := by simp only [namedB,show l.length + 1 ≤ 60 by omega,h2,decide_true,decide_false,Bool.true_and,Bool.false_and,Bool.not_false]
   have h2' : ¬ (48 : Int) ≤ (x.toNat : Int) := by omega
   rw [hs]
   simp [ir147,h1,h1',c0,h2,h2']
   refine containsRune_ok.runk ?_
   simp
   exact .same rfl
theorem bstr_extract {l : List UInt8} {i j : Nat} : (bstr l).extract i j = bstr ((l.take j).drop i) := by
 apply ByteArray.ext
 simp [bstr,ByteArray.data_extract,List.extract_eq_drop_take,List.drop_take]
theorem lit_size {a : Array UInt8} : (ByteArray.mk a).size = a.size := rfl
theorem bstr_app {a : Array UInt8} {l : List UInt8} : ByteArray.mk a ++ bstr l = bstr (a.toList ++ l) := by
 apply ByteArray.ext
 simp [bstr]
def letterR (n : Nat) : Bool := (decide (97 ≤ n) && decide (n ≤ 122)) || (decide (65 ≤ n) && decide (n ≤ 90))
theorem letter_ok {n : Nat} : PPd (.fn 302 [] []) [.v (.int .u8 n)] (pbool (letterR n)) := by
 refine PPc rfl rfl rfl (by simp) (by simp [noId]) (by simp) (PW_ok _ ?_)
 by_cases h1 : (97 : Int) ≤ n
 ·have g1 : 97 ≤ n := by omega
  by_cases h2 : (n : Int) ≤ 122
  ·have g2 : n ≤ 122 := by omega
   simp [ir302,h1,h2,letterR,g1,g2]; exact .same rfl
  ·have g2 : ¬ n ≤ 122 := by omega
   have h3 : (65 : Int) ≤ n := by omega
   have g3 : ¬ n ≤ 90 := by omega
   have h4 : ¬ (n : Int) ≤ 90 := by omega
   simp [ir302,h1,h2,h3,h4,letterR,g1,g2,g3]; exact .same rfl
 ·have g1 : ¬ 97 ≤ n := by omega
  by_cases h3 : (65 : Int) ≤ n
  ·have g3 : 65 ≤ n := by omega
   by_cases h4 : (n : Int) ≤ 90
   ·have g4 : n ≤ 90 := by omega
    simp [ir302,h1,h3,h4,letterR,g1,g3,g4]; exact .same rfl
   ·have g4 : ¬ n ≤ 90 := by omega
    simp [ir302,h1,h3,h4,letterR,g1,g3,g4]; exact .same rfl
  ·have g3 : ¬ 65 ≤ n := by omega
   simp [ir302,h1,h3,letterR,g1,g3]; exact .same rfl
def isAt (i : Nat) (x : UInt8) : Bool := letterR x.toNat || decide (x.toNat = 95) || (decide (i ≠ 0) && decide (48 ≤ x.toNat) && decide (x.toNat ≤ 57))
def allAt (s : List UInt8) : Bool := (List.range s.length).all fun i => isAt i (s.getD i 0)
def isNameB (s : List UInt8) : Bool := decide (1 ≤ s.length) && decide (s.length ≤ 40) && allAt s
def NmJ (s : List UInt8) (m : Nat) (E : PEnv) (L : List LObj) : Prop := ∃ i : Nat,i + m = s.length ∧ L = [] ∧ Has E [(0,pstr s),(3,pin i)] ∧ ∀ j,j < i → isAt j (s.getD j 0) = true
theorem isName_ok {s : List UInt8} : PPd (.fn 213 [] []) [pstr s] (pbool (isNameB s)) := by
 refine PPc rfl rfl rfl (by simp) (by simp [noId]) (by simp) (PW_ok _ ?_)
 by_cases h1 : (s.length : Int) < 1
 ·have hs : isNameB s = false := by simp only [isNameB,show ¬ 1 ≤ s.length by omega,decide_false,Bool.false_and]
  rw [hs]
  simp [ir213,h1]; exact .same rfl
 by_cases h2 : (40 : Int) < s.length
 ·have hs : isNameB s = false := by simp only [isNameB,show ¬ s.length ≤ 40 by omega,decide_false,Bool.false_and,Bool.and_false]
  rw [hs]
  simp [ir213,h1,h2]; exact .same rfl
 have hs : isNameB s = allAt s := by simp only [isNameB,show 1 ≤ s.length by omega,show s.length ≤ 40 by omega,decide_true,Bool.true_and]
 have hb : big s.length := by unfold big; omega
 rw [hs]
 simp only [ir213]
 simp [h1,h2]
 refine PCl (NmJ s) ?_ (k := s.length) ⟨0,by simp,rfl,by simp,fun j hj => by omega⟩
 rintro m E L ⟨i,him,rfl,⟨e0,e3, -⟩,hn⟩
 by_cases hi : i < s.length
 case neg =>
  have hie : i = s.length := by omega
  subst hie
  have : allAt s = true := by
   unfold allAt
   rw [List.all_eq_true]; intro j hj; exact hn j (by simpa using hj)
  rw [this]
  simp [e0,e3]
  exact .same rfl
 have hx : s.getD i 0 = s[i] := by simp [List.getD_eq_getElem?_getD,hi]
 have go : isAt i s[i] = true → ∀ j,j < i + 1 → isAt j (s.getD j 0) = true := fun h j hj => by
  by_cases e : j = i
  ·subst e; rw [hx]; exact h
  ·exact hn j (by omega)
 have stop : isAt i s[i] = false → allAt s = false := fun h => by
  unfold allAt
  rw [List.all_eq_false]; exact ⟨i,by simpa using hi,by rw [hx,h]; simp⟩
 generalize hxi : s[i] = x at *
 simp [e0,e3,hi,hxi]
 refine (letter_ok (n := x.toNat)).runk ?_
 have fin : ∀ {E' : PEnv},E'.get 0 = some (pstr s) → E'.get 3 = some (pin (i + 1 : Nat)) → isAt i x = true → GoOn (NmJ s) m E' [] := fun a b c => GoOn.same (m - 1) (by omega) ⟨i + 1,by omega,rfl,by simp only [Has_cons,Has_nil,and_true]; exact ⟨a,b⟩,go c⟩
 cases hl : letterR x.toNat with
 | true =>
  simp [e0,e3,wnc hi hb]
  exact fin (by simp [e0]) (by simp) (by simp [isAt,hl])
 | false =>
  by_cases h95 : x.toNat = 95
  ·have h95' : (x.toNat : Int) = 95 := by omega
   simp [e0,e3,hi,hxi,h95,h95',wnc hi hb]
   exact fin (by simp [e0]) (by simp) (by simp [isAt,h95])
  have h95' : ¬ (x.toNat : Int) = 95 := by omega
  by_cases hi0 : i = 0
  ·have hf : isAt i x = false := by simp [isAt,hl,h95,hi0]
   rw [stop hf]
   subst hi0
   simp [e0,e3,hi,hxi,h95,h95']
   exact .same rfl
  have hi0' : ¬ (i : Int) = 0 := by omega
  by_cases h48 : x.toNat < 48
  ·have h48' : (x.toNat : Int) < 48 := by omega
   have hf : isAt i x = false := by simp [isAt,hl,h95,hi0]; omega
   rw [stop hf]
   simp [e0,e3,hi,hxi,h95,h95',hi0,hi0',h48,h48']
   exact .same rfl
  have h48' : ¬ (x.toNat : Int) < 48 := by omega
  by_cases h57 : 57 < x.toNat
  ·have h57' : 57 < (x.toNat : Int) := by omega
   have hf : isAt i x = false := by simp [isAt,hl,h95,hi0]; omega
   rw [stop hf]
   simp [e0,e3,hi,hxi,h95,h95',hi0,hi0',h48,h48',h57,h57']
   exact .same rfl
  have h57' : ¬ 57 < (x.toNat : Int) := by omega
  simp [e0,e3,hi,hxi,h95,h95',hi0,hi0',h48,h48',h57,h57',wnc hi hb]
  exact fin (by simp [e0]) (by simp) (by simp [isAt,hl,h95,hi0]; omega)
theorem isName2 {x : UInt8} : isNameB [97,x] = nameC x := by
 have : isNameB [97,x] = isAt 1 x := by simp [isNameB,allAt,List.range_succ,isAt,letterR]
 rw [this,isAt,nameC,nameR,letterR,Bool.eq_iff_iff]
 simp only [Bool.or_eq_true,Bool.and_eq_true,decide_eq_true_eq]
 omega
def NaJ (s : List UInt8) (m : Nat) (E : PEnv) (L : List LObj) : Prop := ∃ i : Nat,i + m = s.length ∧ L = [] ∧ Has E [(0,pstr s),(3,pin i)] ∧ ∀ x ∈ s.take i,(!nameC x) = false
theorem namedR_ok {s : List UInt8} : PPd (.fn 152 [] []) [pstr s] (pbool (namedB s)) := by
 refine PPc rfl rfl rfl (by simp) (by simp [noId]) (by simp) (PW_ok _ ?_)
 cases hsx : s with
 | nil => simp [ir152,namedB]; exact .same rfl
 | cons x l =>
  by_cases h1 : 60 < l.length + 1
  ·have h1' : (60 : Int) < (l.length : Int) + 1 := by omega
   have hs : namedB (x :: l) = false := by simp only [namedB,show ¬ l.length + 1 ≤ 60 by omega,decide_false,Bool.false_and]
   rw [hs]
   have c0 : ¬ (l.length : Int) + 1 < 1 := by omega
   simp [ir152,h1,h1',c0]; exact .same rfl
  have h1' : ¬ (60 : Int) < (l.length : Int) + 1 := by omega
  have c0 : ¬ (l.length : Int) + 1 < 1 := by omega
  by_cases hbad : 48 ≤ x.toNat ∧ x.toNat ≤ 57
  ·obtain ⟨h2,h3⟩ := hbad
   have hs : namedB (x :: l) = false := by simp [namedB,h2,h3]
   rw [hs]
   have h2' : (48 : Int) ≤ (x.toNat : Int) := by omega
   have h3' : (x.toNat : Int) ≤ 57 := by omega
   simp [ir152,h1,h1',c0,h2,h3,h2',h3']; exact .same rfl
  have hs : namedB (x :: l) = !badName s := by
   rw [hsx]
   have : (decide (48 ≤ x.toNat) && decide (x.toNat ≤ 57)) = false := by simpa using hbad
   simp only [namedB,show l.length + 1 ≤ 60 by omega,this,decide_true,Bool.true_and,Bool.not_false]
  rw [hs]
  have hlen : s.length = l.length + 1 := by rw [hsx]; rfl
  have hb : big s.length := by unfold big; omega
  have hcase : (¬ 48 ≤ x.toNat) ∨ (48 ≤ x.toNat ∧ ¬ x.toNat ≤ 57) := by omega
  rw [← hsx]
  have hg0 : (bstr s)[0]? = some x := by rw [bstr_get,hsx]; rfl
  have l1 : ¬ (s.length : Int) < 1 := by omega
  have l2 : ¬ (60 : Int) < (s.length : Int) := by omega
  have hx0 : s[0]? = some x := by rw [hsx]; rfl
  rcases hcase with h2 | ⟨h2,h3⟩
  ·have h2' : ¬ (48 : Int) ≤ (x.toNat : Int) := by omega
   simp [ir152,l1,l2,hx0,h2,h2']
   refine PCl (NaJ s) ?_ (k := s.length) ⟨0,by simp,rfl,by simp,fun x hx => by simp at hx⟩
   rintro m E L ⟨i,him,rfl,⟨e0,e3, -⟩,hn⟩
   by_cases hi : i < s.length
   case neg =>
    have hie : i = s.length := by omega
    subst hie
    rw [List.take_length] at hn
    have hbn : badName s = false := by unfold badName; rw [List.any_eq_false]; intro x hx; rw [hn x hx]; simp
    rw [hbn]
    simp [e0,e3]
    exact .same rfl
   have hex : (s.take (i + 1)).drop i = [s[i]] := by
    rw [List.drop_take,show i + 1 - i = 1 by omega,List.drop_eq_getElem_cons hi]
    rfl
   have hw := wnc hi hb
   have hc1 : (i : Int) ≤ ((i + 1 : Nat) : Int) := by omega
   have hc2 : ((i + 1 : Nat) : Int) ≤ s.length := by omega
   have hc3 : (0 : Int) ≤ ((i + 1 : Nat) : Int) := by omega
   have hc4 : ((i : Int) + 1).toNat = i + 1 := by omega
   have hc5 : (0 : Int) ≤ (i : Int) + 1 := by omega
   have hc6 : (i : Int) + 1 ≤ s.length := by omega
   have hc7 : (i : Int) ≤ (i : Int) + 1 := by omega
   have hmx : ¬ IntKind.max .i64 < 2 := by decide
   simp [e0,e3,hi,hw,hc1,hc2,hc3,hc4,hc5,hc6,hc7,bstr_extract,hex,arS,bstr_app,lit_size,hmx]
   refine (isName_ok (s := [97,s[i]])).runk ?_
   rw [isName2]
   cases hx : nameC s[i] with
   | false =>
    have hbn : badName s = true := by unfold badName; rw [List.any_eq_true]; exact ⟨s[i],List.getElem_mem hi,by simp [hx]⟩
    rw [hbn]
    simp [e0,e3]
    exact .same rfl
   | true =>
    simp [e0,e3,hw]
    exact GoOn.same (m - 1) (by omega) ⟨i + 1,by omega,rfl,by simp [e0],take_next (p := fun x => !nameC x) hi hn (by show (!nameC s[i]) = false; simp only [hx,Bool.not_true])⟩
  ·have h2' : (48 : Int) ≤ (x.toNat : Int) := by omega
   have h3' : ¬ (x.toNat : Int) ≤ 57 := by omega
   simp [ir152,l1,l2,hx0,h2,h2',h3,h3']
   refine PCl (NaJ s) ?_ (k := s.length) ⟨0,by simp,rfl,by simp,fun x hx => by simp at hx⟩
   rintro m E L ⟨i,him,rfl,⟨e0,e3, -⟩,hn⟩
   by_cases hi : i < s.length
   case neg =>
    have hie : i = s.length := by omega
    subst hie
    rw [List.take_length] at hn
    have hbn : badName s = false := by unfold badName; rw [List.any_eq_false]; intro x hx; rw [hn x hx]; simp
    rw [hbn]
    simp [e0,e3]
    exact .same rfl
   have hex : (s.take (i + 1)).drop i = [s[i]] := by
    rw [List.drop_take,show i + 1 - i = 1 by omega,List.drop_eq_getElem_cons hi]
    rfl
   have hw := wnc hi hb
   have hc1 : (i : Int) ≤ ((i + 1 : Nat) : Int) := by omega
   have hc2 : ((i + 1 : Nat) : Int) ≤ s.length := by omega
   have hc3 : (0 : Int) ≤ ((i + 1 : Nat) : Int) := by omega
   have hc4 : ((i : Int) + 1).toNat = i + 1 := by omega
   have hc5 : (0 : Int) ≤ (i : Int) + 1 := by omega
   have hc6 : (i : Int) + 1 ≤ s.length := by omega
   have hc7 : (i : Int) ≤ (i : Int) + 1 := by omega
   have hmx : ¬ IntKind.max .i64 < 2 := by decide
   simp [e0,e3,hi,hw,hc1,hc2,hc3,hc4,hc5,hc6,hc7,bstr_extract,hex,arS,bstr_app,lit_size,hmx]
   refine (isName_ok (s := [97,s[i]])).runk ?_
   rw [isName2]
   cases hx : nameC s[i] with
   | false =>
    have hbn : badName s = true := by unfold badName; rw [List.any_eq_true]; exact ⟨s[i],List.getElem_mem hi,by simp [hx]⟩
    rw [hbn]
    simp [e0,e3]
    exact .same rfl
   | true =>
    simp [e0,e3,hw]
    exact GoOn.same (m - 1) (by omega) ⟨i + 1,by omega,rfl,by simp [e0],take_next (p := fun x => !nameC x) hi hn (by show (!nameC s[i]) = false; simp only [hx,Bool.not_true])⟩
def okByte (x : UInt8) : Bool := decide (x.toNat = 0) || (decide (32 ≤ x.toNat) && decide (x.toNat ≤ 126))
def textS (i : FIns) : Bool := if i.op = 36 then i.text.all okByte else if (textN i.op.toNat).isEmpty then decide (i.text = []) else decide (i.text ∈ textN i.op.toNat)
def kindAt (r : FRule) : Nat → Int
 | 0 => r.a
 | 1 => r.b
 | 2 => r.c
 | _ => r.d
def numAt (i : FIns) : Nat → Int
 | 0 => i.a
 | 1 => i.b
 | 2 => i.c
 | _ => i.d
def kindsB (c : FCode) (b : FBody) (i : FIns) : Bool := kindB c b (ruleN i.op.toNat).a i.a && kindB c b (ruleN i.op.toNat).b i.b && kindB c b (ruleN i.op.toNat).c i.c && kindB c b (ruleN i.op.toNat).d i.d
def listS (c : FCode) (b : FBody) (i : FIns) : Bool := decide ((lenS c i).1 ≤ i.list.length) && decide ((i.list.length : Int) ≤ (lenS c i).2) && i.list.all fun n => kindB c b 1 n
def rightS (c : FCode) (b : FBody) (i : FIns) : Bool := decide (1 ≤ i.op) && decide (i.op ≤ 37) && kindsB c b i && textS i && listS c b i
theorem cutRow {r : FRule} {i : FIns} {k : Nat} (hk : k < 4) : cut (rowOf r i) (k * 2) 2 = [pin (kindAt r k),pin (numAt i k)] := by
 match k,hk with
 | 0,_ => rfl
 | 1,_ => rfl
 | 2,_ => rfl
 | 3,_ => rfl
theorem kindAt_le {n k : Nat} (hn : n < 38) (hk : k < 4) : 0 ≤ kindAt (ruleN n) k ∧ kindAt (ruleN n) k ≤ 10 := by
 have h : ∀ n,n < 38 → ∀ k,k < 4 → 0 ≤ kindAt (ruleN n) k ∧ kindAt (ruleN n) k ≤ 10 := by decide
 exact h n hn k hk
theorem texts_nil {n : Nat} (hn : n < 38) : (textN n).isEmpty = true → (ruleN n).texts = [] := by
 have h : ∀ n,n < 38 → (textN n).isEmpty = true → (ruleN n).texts = [] := by decide
 exact h n hn
theorem texts_cons {n : Nat} (hn : n < 38) : (textN n).isEmpty = false → (ruleN n).texts ≠ [] := by
 have h : ∀ n,n < 38 → (textN n).isEmpty = false → (ruleN n).texts ≠ [] := by decide
 exact h n hn
theorem texts_len {n : Nat} (hn : n < 38) : (textN n).length ≤ 100 := by
 have h : ∀ n,n < 38 → (textN n).length ≤ 100 := by decide
 exact h n hn
def RgBase (c : FCode) (b : FBody) (i : FIns) : List (Nat × PV) := [(3,.fp (encC c)),(4,.fp (encBo b)),(5,.fp (encI i)),(7,.fp (encR (ruleN i.op.toNat)))]
def RgJ1 (c : FCode) (b : FBody) (i : FIns) (m : Nat) (E : PEnv) (L : List LObj) : Prop := ∃ k : Nat,k + m = 4 ∧ L = [] ∧
 Has E [(3,.fp (encC c)),(4,.fp (encBo b)),(5,.fp (encI i)),(7,.fp (encR (ruleN i.op.toNat))),(25,.agg (rowOf (ruleN i.op.toNat) i)),(26,pin k)] ∧ ∀ j,j < k → kindB c b (kindAt (ruleN i.op.toNat) j) (numAt i j) = true
def RgJ2 (c : FCode) (b : FBody) (i : FIns) (m : Nat) (E : PEnv) (L : List LObj) : Prop := ∃ k : Nat,k + m = i.text.length ∧ L = [] ∧
 Has E [(3,.fp (encC c)),(4,.fp (encBo b)),(5,.fp (encI i)),(7,.fp (encR (ruleN i.op.toNat))),(44,pin i.text.length),(45,pin k)] ∧ ∀ x ∈ i.text.take k,(!okByte x) = false
def cRight : ICode := match ir149.body with | .seq _ (.seq _ (.seq _ (.seq _ (.seq _ c)))) => c | _ => .skip
def RgQ (p : Bool) : Ex → PEnv → List LObj → Prop := fun x E' L' => (x = .norm ∨ x = .ret) ∧ ∃ ps,press E' L' ir149.results = some ps ∧ Vw [] L' (pone1 ps) (pbool p)
theorem right_end {c : FCode} {b : FBody} {i : FIns} {E : PEnv} (hi : (i.op = 21 ∨ i.op = 27) → 0 ≤ i.b ∧ i.b < c.bodies.length) (hb : big i.list.length) (h : Has E [(3,.fp (encC c)),(4,.fp (encBo b)),(5,.fp (encI i))]) :
  PC FD XA XN 0 cRight (RgQ (listS c b i)) E [] := by
 refine PW_ok _ ?_
 obtain ⟨e3,e4,e5, -⟩ := h
 unfold RgQ
 simp [cRight,ir149,e3,e4,e5]
 have ht : List.take 2 (encC c) = encC c := rfl
 have ht7 : List.take 7 (encI i) = encI i := rfl
 rw [ht,ht7]
 refine (lengths_ok (c := c) (i := i) hi).runk ?_
 have hd6 : List.drop 6 (encI i) = [ints 3 i.list] := rfl
 by_cases h1 : (lenS c i).1 ≤ i.list.length
 ·by_cases h2 : (i.list.length : Int) ≤ (lenS c i).2
  ·simp [pairI,e3,e4,e5,hd6,ints,h1,h2]
   have hi2 : PV.fz 3 i.list.length (i.list.map pin) = ints 3 i.list := rfl
   rw [hi2]
   refine (containsI_ok (t := 3) (l := i.list) (p := fun n => !kindB c b 1 n) hb (by simp [noId]) (fun x _ => field1_ok)).runk ?_
   simp
   refine .eq ?_ rfl
   simp only [listS,h1,h2,decide_true,Bool.true_and,List.any_eq_not_all_not,Bool.not_not]
  ·simp [pairI,e3,e4,e5,hd6,ints,h1,h2]
   exact .eq (by simp only [listS,h2,decide_false,Bool.and_false,Bool.false_and]) rfl
 ·simp [pairI,e3,e4,e5,hd6,ints,h1]
  exact .eq (by simp only [listS,h1,decide_false,Bool.and_false,Bool.false_and]) rfl
def cText : ICode := match ir149.body with | .seq _ (.seq _ (.seq _ (.seq _ (.seq c _)))) => c | _ => .skip
theorem okByte_t {x : UInt8} (h : x.toNat = 0 ∨ (32 ≤ x.toNat ∧ x.toNat ≤ 126)) : okByte x = true := by
 simp only [okByte,Bool.or_eq_true,Bool.and_eq_true,decide_eq_true_eq]; omega
theorem okByte_f {x : UInt8} (h : ¬ (x.toNat = 0 ∨ (32 ≤ x.toNat ∧ x.toNat ≤ 126))) : okByte x = false := by
 cases hh : okByte x with
 | false => rfl
 | true => exfalso; simp only [okByte,Bool.or_eq_true,Bool.and_eq_true,decide_eq_true_eq] at hh; omega
theorem right_text {c : FCode} {b : FBody} {i : FIns} {E : PEnv} {n : Nat} (hop : i.op = n) (hn : n < 38) (hi : (i.op = 21 ∨ i.op = 27) → 0 ≤ i.b ∧ i.b < c.bodies.length) (hb : big i.list.length) (hbt : big i.text.length)
  (h : Has E (RgBase c b i)) : PC FD XA XN 0 (.seq cText cRight) (RgQ (textS i && listS c b i)) E [] := by
 refine PCq (PW_ok _ ?_)
 obtain ⟨e3,e4,e5,e7, -⟩ := h
 have hop' : i.op.toNat = n := by omega
 rw [hop'] at e7
 have hd5 : List.drop 5 (encI i) = [pstr i.text,ints 3 i.list] := rfl
 have hd0 : encI i = pin i.op :: (encI i).tail := rfl
 have hr5 : List.drop 5 (encR (ruleN n)) = [pstr (ruleN n).texts] := rfl
 have last : ∀ {E' : PEnv},E'.get 3 = some (.fp (encC c)) → E'.get 4 = some (.fp (encBo b)) → E'.get 5 = some (.fp (encI i)) → textS i = true → PC FD XA XN 0 cRight (RgQ (textS i && listS c b i)) E' [] := fun a1 a2 a3 a4 => by
  rw [a4,Bool.true_and]
  exact right_end hi hb ⟨a1,a2,a3,trivial⟩
 have stop : textS i = false → (textS i && listS c b i) = false := fun h => by rw [h]; rfl
 by_cases h36 : i.op = 36
 ·have hts : textS i = i.text.all okByte := by simp only [textS,h36,if_true]
  have hn36 : n = 36 := by omega
  subst hn36
  simp [cText,ir149,e3,e4,e5,e7,hd5,h36,encI]
  refine PCl (RgJ2 c b i) ?_ (k := i.text.length) ⟨0,by simp,rfl,by simp [e3,e4,e5,e7,hop',encI,h36],fun x hx => by simp at hx⟩
  clear e3 e4 e5 e7
  rintro m E L ⟨k,hkm,rfl,⟨e3,e4,e5,e7,e44,e45, -⟩,hk⟩
  by_cases hkl : k < i.text.length
  case neg =>
   have hke : k = i.text.length := by omega
   subst hke
   rw [List.take_length] at hk
   simp [e3,e4,e5,e7,e44,e45]
   refine last (by simp [e3]) (by simp [e4]) (by simp [e5]) ?_
   rw [hts,List.all_eq_true]
   intro x hx
   simpa using hk x hx
  have hw := wnc hkl hbt
  have hbad : okByte i.text[k] = false → (textS i && listS c b i) = false := fun h => stop (by rw [hts,List.all_eq_false]; exact ⟨_,List.getElem_mem hkl,by rw [h]; simp⟩)
  have hgo : ∀ {E' : PEnv},okByte i.text[k] = true → Has E' [(3,.fp (encC c)),(4,.fp (encBo b)),(5,.fp (encI i)),(7,.fp (encR (ruleN i.op.toNat))),(44,pin i.text.length),(45,pin (k + 1 : Nat))] → GoOn (RgJ2 c b i) m E' [] := fun h hh =>
   GoOn.same (m - 1) (by omega) ⟨k + 1,by omega,rfl,hh,take_next (p := fun x => !okByte x) hkl hk (by show (!okByte i.text[k]) = false; simp only [h,Bool.not_true])⟩
  generalize hx : i.text[k] = x at *
  by_cases x0 : x.toNat = 0
  ·have x0' : (x.toNat : Int) = 0 := by omega
   simp [e3,e4,e5,e7,e44,e45,hkl,hd5,hx,x0,x0',hw]
   exact hgo (okByte_t (.inl x0)) (by simp [e3,e4,e5,e7,e44])
  have x0' : ¬ (x.toNat : Int) = 0 := by omega
  by_cases x1 : x.toNat < 32
  ·have x1' : (x.toNat : Int) < 32 := by omega
   rw [hbad (okByte_f (by omega))]
   simp [e3,e4,e5,e7,e44,e45,hkl,hd5,hx,x0,x0',x1,x1',RgQ,ir149]
   exact .same rfl
  have x1' : ¬ (x.toNat : Int) < 32 := by omega
  by_cases x2 : 126 < x.toNat
  ·have x2' : 126 < (x.toNat : Int) := by omega
   rw [hbad (okByte_f (by omega))]
   simp [e3,e4,e5,e7,e44,e45,hkl,hd5,hx,x0,x0',x1,x1',x2,x2',RgQ,ir149]
   exact .same rfl
  have x2' : ¬ 126 < (x.toNat : Int) := by omega
  simp [e3,e4,e5,e7,e44,e45,hkl,hd5,hx,x0,x0',x1,x1',x2,x2',hw]
  exact hgo (okByte_t (by omega)) (by simp [e3,e4,e5,e7,e44])
 cases he : (textN n).isEmpty with
 | true =>
  have hts : textS i = decide (i.text = []) := by simp only [textS,h36,if_false,hop',he,if_true]
  have hrt := texts_nil hn he
  by_cases ht : i.text = []
  ·simp [cText,ir149,e3,e4,e5,e7,hd5,hr5,h36,hrt,ht,encI,arS,lit_toList]
   exact last (by simp [e3]) (by simp [e4]) (by simp [e5,encI,ht]) (by rw [hts,ht]; rfl)
  ·rw [stop (by rw [hts,decide_eq_false ht])]
   have hte : i.text.isEmpty = false := by simpa using ht
   simp [cText,ir149,e3,e4,e5,e7,hd5,hr5,h36,hrt,ht,hte,encI,arS,lit_toList,RgQ]
   exact .same rfl
 | false =>
  have hts : textS i = decide (i.text ∈ textN n) := by simp only [textS,h36,if_false,hop',he,if_true]; rfl
  have hrt : (ruleN n).texts.isEmpty = false := by simpa using texts_cons hn he
  simp [cText,ir149,e3,e4,e5,e7,hd5,hr5,h36,hrt,encI,arS,lit_toList]
  refine (split_ok hn he).runj ?_
  simp [hd5,e3,e4,e5,e7]
  refine (containsS_ok (t := 9) (l := textN n) (s := i.text) (by have := texts_len hn; unfold big; omega)).runk ?_
  by_cases ht : i.text ∈ textN n
  ·simp [ht,e3,e4,e5,e7]
   exact last (by simp [e3]) (by simp [e4]) (by simp [e5,encI]) (by rw [hts,decide_eq_true ht])
  ·rw [stop (by rw [hts,decide_eq_false ht])]
   simp [ht,RgQ,ir149,e3,e4,e5,e7]
   exact .same rfl
theorem right_ok {c : FCode} {b : FBody} {i : FIns} (hb : big i.list.length) (hbt : big i.text.length) : PPd (.fn 149 [] []) [.agg (encC c),.agg (encBo b),.agg (encI i)] (pbool (rightS c b i)) := by
 refine PPc rfl rfl rfl (by simp) (by simp [noId]) (by simp) ?_
 by_cases hop : 1 ≤ i.op ∧ i.op ≤ 37
 case neg =>
  refine PW_ok _ ?_
  have hs : rightS c b i = false := by
   simp only [rightS]
   by_cases h : 1 ≤ i.op
   ·have : ¬ i.op ≤ 37 := fun hh => hop ⟨h,hh⟩
    simp [this]
   ·simp [h]
  rw [hs]
  simp [ir149,encI,encC,encBo,recs,ints]
  refine (ruleOf_no (n := i.op) (by omega)).runk ?_
  simp [encR]
  exact .same rfl
 obtain ⟨n,hn⟩ : ∃ n : Nat,i.op = n := ⟨i.op.toNat,by omega⟩
 have hn1 : 1 ≤ n := by omega
 have hn2 : n ≤ 37 := by omega
 have hop' : i.op.toNat = n := by omega
 have hs : rightS c b i = (kindsB c b i && textS i && listS c b i) := by simp only [rightS,hop.1,hop.2,decide_true,Bool.true_and]
 rw [hs]
 have hi0 : (encI i)[0]? = some (pin n) := by rw [← hn]; rfl
 have hps : psl [PV.v (S []),PV.v (I 0),PV.v (I 0),PV.v (I 0),PV.v (I 0),PV.v (S [])] 0 (encR (ruleN n)) = encR (ruleN n) := psplice_full rfl
 refine PCq (PW_ok _ ?_)
 simp
 refine PCq (PW_ok _ ?_)
 simp [hi0]
 refine (ruleOf_ok hn1 hn2).runk ?_
 simp [hps]
 refine PCq (PW_ok _ ?_)
 simp
 refine PCq (PW_ok _ ?_)
 have hcc : cut (encR (ruleN n)) 0 6 = encR (ruleN n) := cut_all rfl
 have hci : cut (encI i) 0 7 = encI i := cut_all rfl
 simp [hcc,hci]
 refine (ruleFields_ok (r := ruleN n) (i := i)).runk ?_
 simp
 refine PC.abs (Abs.dropAll [(3,.fp (encC c)),(4,.fp (encBo b)),(5,.fp (encI i)),(7,.fp (encR (ruleN n))),(25,.agg (rowOf (ruleN n) i)),(26,pin (0 : Nat))] ?_) ?_
 ·simp
  refine ⟨?_, ?_, ?_, ?_,.same (by simp [noId,noIdL,rowOf]),.same rfl⟩
  all_goals exact .fzp (by simp) rfl (by simp) (by simp) rfl rfl (fun j a b => .same (nIg (by simp) j a))
 refine PCl (RgJ1 c b i) ?_ (k := 4) ⟨0,by simp,rfl,by rw [hop']; exact Has.env (by simp),fun j hj => by omega⟩
 rintro m E L ⟨k,hkm,rfl,⟨e3,e4,e5,e7,e25,e26, -⟩,hk⟩
 rw [hop'] at e7 e25 hk
 by_cases hk4 : k < 4
 case neg =>
  have hke : k = 4 := by omega
  subst hke
  have hkk : kindsB c b i = true := by
   simp only [kindsB,hop',Bool.and_eq_true]
   exact ⟨⟨⟨hk 0 (by omega),hk 1 (by omega)⟩,hk 2 (by omega)⟩,hk 3 (by omega)⟩
  simp [e3,e4,e5,e7,e25,e26]
  rw [hkk,Bool.true_and]
  refine right_text (n := n) hn (by omega) ?_ hb hbt ?_
  ·intro h
   have h1 := hk 1 (by omega)
   rcases h with h | h
   ·have hn21 : n = 21 := by omega
    subst hn21
    have h2 : kindB c b 8 i.b = true := h1
    simpa [kindB] using h2
   ·have hn27 : n = 27 := by omega
    subst hn27
    have h2 : kindB c b 8 i.b = true := h1
    simpa [kindB] using h2
  ·rw [RgBase,hop']
   simp [e3,e4,e5,e7]
 have hcut := cutRow (r := ruleN n) (i := i) hk4
 have hk4' : (k : Int) < 4 := by omega
 obtain ⟨ha0,ha1⟩ := kindAt_le (n := n) (by omega) hk4
 have hw : IntKind.wrap .i64 ((k : Int) + 1) = ((k + 1 : Nat) : Int) := by rw [wrap64 (by omega) (by omega)]; simp
 have ht : List.take 2 (encC c) = encC c := rfl
 have ht4 : List.take 4 (encBo b) = encBo b := rfl
 simp [e3,e4,e5,e7,e25,e26,hk4,hk4',hcut,ht,ht4]
 refine (field_ok (c := c) (b := b) (n := numAt i k) ha0 ha1).runk ?_
 cases hkd : kindB c b (kindAt (ruleN n) k) (numAt i k) with
 | false =>
  have hkk : kindsB c b i = false := by
   simp only [kindsB,hop']
   match k,hk4,hkd with
   | 0,_,h => simp only [show kindB c b (ruleN n).a i.a = false from h,Bool.false_and]
   | 1,_,h => simp only [show kindB c b (ruleN n).b i.b = false from h,Bool.and_false,Bool.false_and]
   | 2,_,h => simp only [show kindB c b (ruleN n).c i.c = false from h,Bool.and_false,Bool.false_and]
   | 3,_,h => simp only [show kindB c b (ruleN n).d i.d = false from h,Bool.and_false]
  rw [hkk]
  simp [e3,e4,e5,e7,e25,e26,ir149]
  exact .same rfl
 | true =>
  simp [e3,e4,e5,e7,e25,e26,hw]
  refine GoOn.drop [(3,.fp (encC c)),(4,.fp (encBo b)),(5,.fp (encI i)),(7,.fp (encR (ruleN n))),(25,.agg (rowOf (ruleN n) i)),(26,pin (k + 1 : Nat))] (m - 1) (by omega) ?_ ⟨k + 1,by omega,rfl,by rw [hop']; exact Has.env (by simp),fun j hj => ?_⟩
  ·simp [e3,e4,e5,e7,e25]
   refine ⟨.same (by simp [noId]),.same (by simp [noId]),.same (by simp [noId]),.same (by simp [noId]),.same (by simp [noId,noIdL,rowOf]),.same rfl⟩
  ·rw [hop']
   by_cases e : j = k
   ·subst e; exact hkd
   ·exact hk j (by omega)
structure OkC (c : FCode) : Prop where
 bodies : c.bodies.length ≤ 1000000
 code : ∀ b ∈ c.bodies,b.code.length ≤ 1000000
 list : ∀ b ∈ c.bodies,∀ i ∈ b.code,i.list.length ≤ 1000000
 text : ∀ b ∈ c.bodies,∀ i ∈ b.code,i.text.length ≤ 1000000
def lastOp (l : List FIns) : Int := match l.getLast? with | some i => i.op | none => 0
def headB (b : FBody) (k : Nat) : Bool := namedB b.name && decide (0 ≤ b.args) && decide (b.args ≤ b.regs) && (decide (k ≠ 0) || decide (b.args ≤ 0)) && !b.code.isEmpty
def bodyB (c : FCode) (b : FBody) (k : Nat) : Bool := headB b k && (decide (lastOp b.code = 22) || decide (lastOp b.code = 19)) && b.code.all (rightS c b)
def bFm (c : FCode) : Nat → List FBody → Bool
 | _,[] => true
 | k,b :: l => bodyB c b k && bFm c (k + 1) l
def totalI : List FBody → Nat
 | [] => 0
 | b :: l => b.code.length + totalI l
def countB (c : FCode) : Bool := decide (1 ≤ c.bodies.length) && decide (c.bodies.length ≤ 800) && decide (0 ≤ c.globals) && decide (c.globals ≤ 1000) && decide (totalI c.bodies ≤ 20000) && c.bodies.all fun b => decide (b.regs ≤ 5000)
def checkS (c : FCode) : Int := if countB c = true then (if bFm c 0 c.bodies = true then 0 else 190) else 5
def IbJ (t : TypeId) (l : List FBody) (fv : PV) (p : FBody → Bool) (m : Nat) (E : PEnv) (L : List LObj) : Prop := ∃ i : Nat,i + m = l.length ∧ L = [] ∧ Has E [(0,recs t encBo l),(1,fv),(7,pin l.length),(8,pin i)] ∧ ∀ x ∈ l.take i,p x = false
theorem indexBo_ok {t : TypeId} {l : List FBody} {fv : PV} {p : FBody → Bool} (hb : big l.length) (hfv : noId fv = true) (hp : ∀ x ∈ l,PPd fv [.agg (encBo x)] (pbool (p x))) : PPd (.fn 194 [] []) [recs t encBo l,fv] (pin (firstI p l)) := by
 refine PPc rfl rfl rfl (by simp) (by simp [noId,hfv]) (by simp) (PW_ok _ ?_)
 simp [ir194,recs]
 refine PCl (IbJ t l fv p) ?_ (k := l.length) ⟨0,by simp,rfl,by simp [recs],fun x hx => by simp at hx⟩
 rintro m E L ⟨i,him,rfl,⟨e0,e1,e7,e8, -⟩,hn⟩
 by_cases hi : i < l.length
 ·have hcut := cutBo hi
  have hlen : (encBo l[i]).length = 4 := rfl
  simp [e0,e1,e7,e8,hi,recs,hcut]
  have ht : List.take 4 (encBo l[i]) = encBo l[i] := rfl
  refine (hp _ (List.getElem_mem hi)).runk ?_
  cases hx : p l[i] with
  | true =>
   rw [firstI_at hi hn hx]
   simp [e0,e1,e7,e8]
   exact .same rfl
  | false =>
   simp [e0,e1,e7,e8,wnc hi hb]
   exact GoOn.same (m - 1) (by omega) ⟨i + 1,by omega,rfl,by simp [e0,e1,e7,recs],take_next hi hn hx⟩
 ·have hie : i = l.length := by omega
  subst hie
  rw [List.take_length] at hn
  rw [firstI_none hn]
  simp [e0,e1,e7,e8,recs]
  exact .same rfl
theorem containsBo_ok {t : TypeId} {l : List FBody} {fv : PV} {p : FBody → Bool} (hb : big l.length) (hfv : noId fv = true) (hp : ∀ x ∈ l,PPd fv [.agg (encBo x)] (pbool (p x))) : PPd (.fn 145 [] []) [recs t encBo l,fv] (pbool (l.any p)) := by
 refine PPc rfl rfl rfl (by simp) (by simp [noId,hfv]) (by simp) (PW_ok _ ?_)
 simp [ir145]
 refine (indexBo_ok hb hfv hp).runk ?_
 simp
 exact .eq (by rw [firstI_any]) rfl
def IiJ (t : TypeId) (l : List FIns) (fv : PV) (p : FIns → Bool) (m : Nat) (E : PEnv) (L : List LObj) : Prop := ∃ i : Nat,i + m = l.length ∧ L = [] ∧ Has E [(0,recs t encI l),(1,fv),(7,pin l.length),(8,pin i)] ∧ ∀ x ∈ l.take i,p x = false
theorem indexIn_ok {t : TypeId} {l : List FIns} {fv : PV} {p : FIns → Bool} (hb : big l.length) (hfv : noId fv = true) (hp : ∀ x ∈ l,PPd fv [.agg (encI x)] (pbool (p x))) : PPd (.fn 92 [] []) [recs t encI l,fv] (pin (firstI p l)) := by
 refine PPc rfl rfl rfl (by simp) (by simp [noId,hfv]) (by simp) (PW_ok _ ?_)
 simp [ir92,recs]
 refine PCl (IiJ t l fv p) ?_ (k := l.length) ⟨0,by simp,rfl,by simp [recs],fun x hx => by simp at hx⟩
 rintro m E L ⟨i,him,rfl,⟨e0,e1,e7,e8, -⟩,hn⟩
 by_cases hi : i < l.length
 ·have hcut := cutI hi
  simp [e0,e1,e7,e8,hi,recs,hcut]
  refine (hp _ (List.getElem_mem hi)).runk ?_
  cases hx : p l[i] with
  | true =>
   rw [firstI_at hi hn hx]
   simp [e0,e1,e7,e8]
   exact .same rfl
  | false =>
   simp [e0,e1,e7,e8,wnc hi hb]
   exact GoOn.same (m - 1) (by omega) ⟨i + 1,by omega,rfl,by simp [e0,e1,e7,recs],take_next hi hn hx⟩
 ·have hie : i = l.length := by omega
  subst hie
  rw [List.take_length] at hn
  rw [firstI_none hn]
  simp [e0,e1,e7,e8,recs]
  exact .same rfl
theorem containsIn_ok {t : TypeId} {l : List FIns} {fv : PV} {p : FIns → Bool} (hb : big l.length) (hfv : noId fv = true) (hp : ∀ x ∈ l,PPd fv [.agg (encI x)] (pbool (p x))) : PPd (.fn 27 [] []) [recs t encI l,fv] (pbool (l.any p)) := by
 refine PPc rfl rfl rfl (by simp) (by simp [noId,hfv]) (by simp) (PW_ok _ ?_)
 simp [ir27]
 refine (indexIn_ok hb hfv hp).runk ?_
 simp
 exact .eq (by rw [firstI_any]) rfl
theorem manyRegs_ok {b : FBody} : PPd (.fn 146 [] []) [.agg (encBo b)] (pbool (decide (5000 < b.regs))) := by
 refine PPc rfl rfl rfl (by simp) (by simp [noId]) (by simp) (PW_ok _ ?_)
 simp [ir146,encBo,recs]
 exact .same rfl
theorem wrongIns_ok {c : FCode} {b : FBody} {i : FIns} (hb : big i.list.length) (hbt : big i.text.length) : PPd (.fn 148 [] [.fp (encC c),.fp (encBo b)]) [.agg (encI i)] (pbool (!rightS c b i)) := by
 refine PPc rfl rfl rfl (by simp [noId]) (by simp [noId]) (by simp) (PW_ok _ ?_)
 have h2 : List.take 2 (encC c) = encC c := rfl
 have h4 : List.take 4 (encBo b) = encBo b := rfl
 have h7 : cut (encI i) 0 7 = encI i := rfl
 simp [ir148,h2,h4,h7]
 refine (right_ok (c := c) (b := b) hb hbt).runk ?_
 simp
 exact .same rfl
theorem PC_loopH {F : FuncId → Option IFunc} {X0 X : Ext} {Q : Ex → PEnv → List LObj → Prop} {E : PEnv} {L : List LObj} {c : ICode} (J : Nat → PEnv → List LObj → Prop) (round : ∀ k E L,J k E L → PC F X0 X 0 c (pnext (GoOn J k) Q) E L) {k : Nat} (h : J k E L) : PC F X0 X 0 (.loop c) Q E L :=
 PC_loop J round h
theorem totalI_le {l : List FBody} (h : ∀ b ∈ l,b.code.length ≤ 1000000) : totalI l ≤ 1000000 * l.length := by
 induction l with
 | nil => simp [totalI]
 | cons a l ih =>
  have := ih (fun b hb => h b (by simp [hb]))
  have := h a (by simp)
  simp only [totalI,List.length_cons]; omega
theorem totalI_take {l : List FBody} {i : Nat} (hi : i < l.length) : totalI (l.take (i + 1)) = totalI (l.take i) + l[i].code.length := by
 induction l generalizing i with
 | nil => simp at hi
 | cons a l ih =>
  cases i with
  | zero => simp [totalI]
  | succ i =>
   have := ih (i := i) (by simpa using hi)
   simp only [List.take_succ_cons,totalI,this,List.getElem_cons_succ]; omega
def ChJ1 (c : FCode) (m : Nat) (E : PEnv) (L : List LObj) : Prop := ∃ i : Nat,i + m = c.bodies.length ∧ L = [] ∧ Has E [(1,.fp (encC c)),(3,pin (totalI (c.bodies.take i))),(10,recs 61 encBo c.bodies),(11,pin c.bodies.length),(12,pin i)]
def ChJ3 (c : FCode) (m : Nat) (E : PEnv) (L : List LObj) : Prop := ∃ i : Nat,i + m = c.bodies.length ∧ L = [] ∧ Has E [(1,.fp (encC c)),(52,recs 61 encBo c.bodies),(53,pin c.bodies.length),(54,pin i)] ∧ bFm c 0 c.bodies = bFm c i (c.bodies.drop i)
theorem lastOp_at {l : List FIns} (h : 0 < l.length) : lastOp l = (l[l.length - 1]'(by omega)).op := by
 unfold lastOp
 rw [List.getLast?_eq_getElem?,List.getElem?_eq_getElem (by omega)]
theorem check_ok {c : FCode} (hc : OkC c) : PPd (.fn 81 [] []) [.agg (encC c)] (pin (checkS c)) := by
 have hbl := hc.bodies
 have hb : big c.bodies.length := by unfold big; omega
 have hd1 : List.drop 1 (encC c) = [recs 61 encBo c.bodies] := rfl
 have hres : ir81.results = [.tmp 2] := rfl
 have hE0 : encC c = [pin c.globals,recs 61 encBo c.bodies] := rfl
 refine PPc rfl rfl rfl (by simp) (by simp [noId]) (by simp) ?_
 refine PCq (PW_ok _ ?_)
 simp
 refine PCq (PW_ok _ ?_)
 simp
 refine PC.abs (Abs.dropAll [(1,.fp (encC c)),(3,pin 0)] ?_) ?_
 ·simp
  exact ⟨.fzp (by simp) rfl (by simp) (by simp) rfl rfl (fun j a b => .same (nIg (by simp) j a)),.same rfl⟩
 refine PCq (PW_ok _ ?_)
 simp [envC,envC_nil,hd1,recs]
 refine PCl (ChJ1 c) ?_ (k := c.bodies.length) ⟨0,by simp,rfl,by simp [envC,recs,totalI]⟩
 rintro m E L ⟨i,him,rfl,⟨e1,e3,e10,e11,e12, -⟩⟩
 by_cases hi : i < c.bodies.length
 ·have hcut := cutBo hi
  have h1 := hc.code _ (List.getElem_mem hi)
  have h2 := totalI_le (l := c.bodies.take i) (fun b hb => hc.code b (List.mem_of_mem_take hb))
  have h3 : (c.bodies.take i).length ≤ 1000000 := by simp; omega
  have hlen : (encBo c.bodies[i]).length = 4 := rfl
  have hw : IntKind.wrap .i64 ((totalI (c.bodies.take i) : Int) + (c.bodies[i].code.length : Int)) = ((totalI (c.bodies.take (i + 1)) : Nat) : Int) := by
   rw [totalI_take hi,wrap64 (by omega) (by omega)]; simp
  simp [e1,e3,e10,e11,e12,hi,recs,hcut,encBo,hw,wnc hi hb]
  refine GoOn.drop [(1,.fp (encC c)),(3,pin (totalI (c.bodies.take (i + 1)))),(10,recs 61 encBo c.bodies),(11,pin c.bodies.length),(12,pin (i + 1 : Nat))] (m - 1) (by omega) ?_ ⟨i + 1,by omega,rfl,Has.env (by simp)⟩
  simp [e1,e10,e11,recs]
  exact ⟨.same (by simp [noId]),.same rfl,.same (by simp [noId]),.same rfl,.same rfl⟩
 have hie : i = c.bodies.length := by omega
 subst hie
 rw [List.take_length] at e3
 simp [e1,e3,e10,e11,e12]
 clear him
 -- the counts
 have htl := totalI_le (l := c.bodies) (fun b hb => hc.code b hb)
 have bad : countB c = false → checkS c = 5 := fun h => by simp only [checkS,h]; rfl
 refine PCq (PW_ok _ ?_)
 by_cases h1 : c.bodies.length = 0
 ·rw [bad (by simp only [countB,show ¬ 1 ≤ c.bodies.length by omega,decide_false,Bool.false_and])]
  have h1' : (c.bodies.length : Int) = 0 := by omega
  have h1'' : c.bodies = [] := List.eq_nil_of_length_eq_zero h1
  simp [e1,e3,hd1,recs,h1,h1',h1'',hres]
  exact .same rfl
 have h1' : ¬ (c.bodies.length : Int) = 0 := by omega
 have h1'' : c.bodies ≠ [] := fun h => h1 (by rw [h]; rfl)
 by_cases h2 : (800 : Int) < c.bodies.length
 ·rw [bad (by simp only [countB,show ¬ c.bodies.length ≤ 800 by omega,decide_false,Bool.and_false,Bool.false_and])]
  simp [e1,e3,hd1,recs,h1,h1',h1'',h2,hres]
  exact .same rfl
 by_cases h3 : (20000 : Int) < totalI c.bodies
 ·rw [bad (by simp only [countB,show ¬ totalI c.bodies ≤ 20000 by omega,decide_false,Bool.and_false,Bool.false_and])]
  simp [e1,e3,hd1,recs,h1,h1',h1'',h2,h3,hres]
  exact .same rfl
 by_cases h4 : c.globals < 0
 ·rw [bad (by simp only [countB,show ¬ 0 ≤ c.globals by omega,decide_false,Bool.and_false,Bool.false_and])]
  simp [e1,e3,hd1,hE0,recs,h1,h1',h1'',h2,h3,h4,hres]
  exact .same rfl
 by_cases h5 : 1000 < c.globals
 ·rw [bad (by simp only [countB,show ¬ c.globals ≤ 1000 by omega,decide_false,Bool.and_false,Bool.false_and])]
  simp [e1,e3,hd1,hE0,recs,h1,h1',h1'',h2,h3,h4,h5,hres]
  exact .same rfl
 have hcnt : countB c = c.bodies.all fun b => decide (b.regs ≤ 5000) := by
  simp only [countB,show 1 ≤ c.bodies.length by omega,show c.bodies.length ≤ 800 by omega,show 0 ≤ c.globals by omega,show c.globals ≤ 1000 by omega,show totalI c.bodies ≤ 20000 by omega,decide_true,Bool.true_and]
 simp [e1,e3,hd1,hE0,recs,h1,h1',h1'',h2,h3,h4,h5]
 have hrec : PV.fz 61 c.bodies.length (c.bodies.flatMap encBo) = recs 61 encBo c.bodies := rfl
 rw [hrec]
 refine (containsBo_ok (t := 61) (l := c.bodies) (p := fun b => decide (5000 < b.regs)) hb (by simp [noId]) (fun _ _ => manyRegs_ok)).runk ?_
 have hany : countB c = !(c.bodies.any fun b => decide (5000 < b.regs)) := by
  rw [hcnt,List.all_eq_not_any_not]
  congr 1
  congr 1
  funext b
  by_cases h : b.regs ≤ 5000
  ·have : ¬ 5000 < b.regs := by omega
   simp [h,this]
  ·have : 5000 < b.regs := by omega
   simp [h,this]
 cases ha : c.bodies.any fun b => decide (5000 < b.regs) with
 | true =>
  rw [ha] at hany
  rw [bad hany]
  simp [hres]
  exact .same rfl
 | false =>
  rw [ha] at hany
  have hck : checkS c = if bFm c 0 c.bodies = true then 0 else 190 := by simp only [checkS,hany]; rfl
  simp [e1]
  refine PC.abs (Abs.dropAll [(1,.fp (encC c))] ?_) ?_
  ·simp [e1,hE0,recs]
   exact .same (by simp [noId])
  clear e1 e3 e10 e11 e12
  refine PCq (PCq (PW_ok _ ?_))
  simp [envC,envC_nil,hd1,recs]
  refine PC_block (PC_loopH (ChJ3 c) ?_ (k := c.bodies.length) ⟨0,by simp,rfl,by simp [envC,recs],by simp⟩)
  rintro m E L ⟨i,him,rfl,⟨e1,e52,e53,e54, -⟩,hf⟩
  by_cases hi : i < c.bodies.length
  case neg =>
   have hie : i = c.bodies.length := by omega
   subst hie
   rw [List.drop_length] at hf
   have : checkS c = 0 := by rw [hck,hf]; rfl
   rw [this]
   refine PW_ok _ ?_
   simp [e1,e52,e53,e54]
   refine PW_ok _ ?_
   simp [hres]
   exact .same rfl
  have hcut := cutBo hi
  have hdr : c.bodies.drop i = c.bodies[i] :: c.bodies.drop (i + 1) := List.drop_eq_getElem_cons hi
  have hfc : bFm c i (c.bodies[i] :: c.bodies.drop (i + 1)) = (bodyB c c.bodies[i] i && bFm c (i + 1) (c.bodies.drop (i + 1))) := rfl
  rw [hdr,hfc] at hf
  have k1 := hc.code _ (List.getElem_mem hi)
  have k2 := hc.list _ (List.getElem_mem hi)
  have k3 := hc.text _ (List.getElem_mem hi)
  have wi := wnc hi hb
  generalize hbd : c.bodies[i] = b at *
  have stop : bodyB c b i = false → checkS c = 190 := fun h => by rw [hck,hf,h]; rfl
  have hhead : headB b i = false → bodyB c b i = false := fun h => by simp only [bodyB,h,Bool.false_and]
  refine PCq (PW_ok _ ?_)
  simp [e1,e52,e53,e54,hi]
  refine PCq (PW_ok _ ?_)
  simp
  refine PCq (PC_block (PCq (PW_ok _ ?_)))
  have hbc : encBo b = [pstr b.name,pin b.regs,pin b.args,recs 65 encI b.code] := rfl
  have hps : psl [PV.v (S []),PV.v (I 0),PV.v (I 0),PV.v (.slice none 0 0)] 0 (encBo b) = encBo b := psplice_full rfl
  have ht4 : List.take 4 (encBo b) = encBo b := rfl
  simp [e1,e52,e53,e54,hi,recs,hcut,hbd,hps,ht4]
  refine PC.abs (Abs.dropAll [(1,.fp (encC c)),(52,recs 61 encBo c.bodies),(53,pin c.bodies.length),(54,pin i),(6,pin i),(7,.fp (encBo b))] ?_) ?_
  ·simp [e1,e52,e53,e54,recs]
   exact ⟨.same (by simp [noId]),.same (by simp [noId]),.same rfl,.same rfl,.fzp (by simp) rfl (by simp) (by simp) rfl rfl (fun j a b => .same (nIg (by simp) j a))⟩
  have hq1 : List.drop 1 (encBo b) = [pin b.regs,pin b.args,recs 65 encI b.code] := rfl
  have hq2 : List.drop 2 (encBo b) = [pin b.args,recs 65 encI b.code] := rfl
  have hq3 : List.drop 3 (encBo b) = [recs 65 encI b.code] := rfl
  clear e1 e52 e53 e54
  have envE : Has (envOf [(1,.fp (encC c)),(52,recs 61 encBo c.bodies),(53,pin c.bodies.length),(54,pin i),(6,pin i),(7,.fp (encBo b))]) [(1,.fp (encC c)),(52,recs 61 encBo c.bodies),(53,pin c.bodies.length),(54,pin i),(6,pin i),(7,.fp (encBo b))] := Has.env (by simp)
  generalize envOf [(1,.fp (encC c)),(52,recs 61 encBo c.bodies),(53,pin c.bodies.length),(54,pin i),(6,pin i),(7,.fp (encBo b))] = E at envE ⊢
  obtain ⟨e1,e52,e53,e54,e6,e7, -⟩ := envE
  have e7' := e7
  rw [hbc] at e7'
  refine PCq (PW_ok _ ?_)
  simp [e1,e6,e7']
  refine (named_ok (s := b.name)).runk ?_
  cases n1 : namedB b.name with
  | false =>
   rw [stop (hhead (by simp only [headB,n1,Bool.false_and]))]
   simp [e1,e6,e7',hres]
   exact .same rfl
  | true =>
   by_cases a0 : b.args < 0
   ·rw [stop (hhead (by simp only [headB,show ¬ 0 ≤ b.args by omega,decide_false,Bool.false_and,Bool.and_false]))]
    simp [e1,e6,e7',hres,a0]
    exact .same rfl
   by_cases a1 : b.regs < b.args
   ·rw [stop (hhead (by simp only [headB,show ¬ b.args ≤ b.regs by omega,decide_false,Bool.false_and,Bool.and_false]))]
    simp [e1,e6,e7',hres,a0,a1]
    exact .same rfl
   by_cases a2 : i = 0 ∧ 0 < b.args
   ·obtain ⟨a2,a3⟩ := a2
    have a2' : (i : Int) = 0 := by omega
    rw [stop (hhead (by simp only [headB,a2,show ¬ b.args ≤ 0 by omega,decide_false,ne_eq,not_true_eq_false,Bool.false_or,Bool.false_and,Bool.and_false]))]
    simp [e1,e6,e7',hres,a0,a1,a2,a2',a3]
    exact .same rfl
   have a3 : (i = 0 ∧ ¬ 0 < b.args) ∨ ¬ i = 0 := by omega
   by_cases a4 : b.code.length = 0
   ·have a4' : b.code = [] := List.eq_nil_of_length_eq_zero a4
    rw [stop (hhead (by simp only [headB,a4',List.isEmpty_nil,Bool.not_true,Bool.and_false]))]
    rcases a3 with ⟨a3,a5⟩ | a3
    ·have a3' : (i : Int) = 0 := by omega
     simp [e1,e6,e7',hres,a0,a1,a3,a3',a5,a4,a4',recs]
     exact .same rfl
    ·have a3' : ¬ (i : Int) = 0 := by omega
     simp [e1,e6,e7',hres,a0,a1,a3,a3',a4,a4',recs]
     exact .same rfl
   have a4' : ¬ (b.code.length : Int) = 0 := by omega
   have a4'' : b.code ≠ [] := fun h => a4 (by rw [h]; rfl)
   have hgood : headB b i = true := by
    have : (decide (i ≠ 0) || decide (b.args ≤ 0)) = true := by simp; omega
    simp only [headB,n1,show 0 ≤ b.args by omega,show b.args ≤ b.regs by omega,this,decide_true,Bool.true_and]
    simpa using a4''
   obtain ⟨j,hj⟩ : ∃ j,b.code.length = j + 1 := ⟨b.code.length - 1,by omega⟩
   have hjl : j < b.code.length := by omega
   have hwj : IntKind.wrap .i64 ((b.code.length : Int) - 1) = j := by rw [wrap64 (by omega) (by omega)]; omega
   have hjj : (j : Int) < b.code.length := by omega
   have hcj := cutI hjl
   have hlast : lastOp b.code = b.code[j].op := by
    rw [lastOp_at (by omega)]; congr 1; congr 1; omega
   obtain ⟨tl,hx,htl⟩ : ∃ tl,encI b.code[j] = pin (lastOp b.code) :: tl ∧ tl.length = 6 := ⟨_,by rw [hlast]; rfl,rfl⟩
   rw [hx] at hcj
   have hbig : big b.code.length := by unfold big; omega
   have a5 : ∀ {E' : PEnv},Has E' [(1,.fp (encC c)),(52,recs 61 encBo c.bodies),(53,pin c.bodies.length),(54,pin i),(6,pin i),(7,.fp (encBo b))] → True := fun _ => trivial
   rcases a3 with ⟨a3,a6⟩ | a3
   ·have a3' : (i : Int) = 0 := by omega
    simp [e1,e6,e7',hres,a0,a1,a3,a3',a6,a4,a4',a4'',recs]
    refine PCq (PCq (PW_ok _ ?_))
    simp [e1,e52,e53,e54,e6,e7',recs,hwj,hjj,hcj,htl]
    refine PW_ok _ ?_
    by_cases o1 : lastOp b.code = 22
    ·have hop : (decide (lastOp b.code = 22) || decide (lastOp b.code = 19)) = true := by simp [o1]
     simp [e1,e52,e53,e54,e6,e7',recs,o1]
     refine PW_ok _ ?_
     simp [e1,e52,e53,e54,e6,e7',recs]
     refine (containsIn_ok (t := 65) (l := b.code) (p := fun x => !rightS c b x) hbig (by simp [noId]) (fun x hx => wrongIns_ok (by have := k2 x hx; unfold big; omega) (by have := k3 x hx; unfold big; omega))).runk ?_
     cases hr : b.code.all (rightS c b) with
     | false =>
      have hr2 : (b.code.any fun x => !rightS c b x) = true := by rw [List.any_eq_not_all_not]; simpa using hr
      rw [hr2,stop (by simp only [bodyB,hr,Bool.and_false])]
      simp [e1,e52,e53,e54,e6,e7',hres]
      exact .same rfl
     | true =>
      have hr2 : (b.code.any fun x => !rightS c b x) = false := by rw [List.any_eq_not_all_not]; simpa using hr
      rw [hr2]
      have hgo : bodyB c b i = true := by simp only [bodyB,hgood,hop,hr,Bool.and_self]
      rw [hgo,Bool.true_and] at hf
      simp [e1,e52,e53,e54,e6,e7']
      refine PW_ok _ ?_
      simp [e1,e52,e53,e54,e6,e7',wi]
      refine GoOn.drop [(1,.fp (encC c)),(52,recs 61 encBo c.bodies),(53,pin c.bodies.length),(54,pin (i + 1 : Nat))] (m - 1) (by omega) ?_ ⟨i + 1,by omega,rfl,Has.env (by simp),hf⟩
      simp [e1,e52,e53,wi]
      exact ⟨.same (by simp [noId]),.same (by simp [noId]),.same rfl,.same rfl⟩
    by_cases o2 : lastOp b.code = 19
    ·have hop : (decide (lastOp b.code = 22) || decide (lastOp b.code = 19)) = true := by simp [o1,o2]
     simp [e1,e52,e53,e54,e6,e7',recs,o1,o2]
     refine PW_ok _ ?_
     simp [e1,e52,e53,e54,e6,e7',recs]
     refine (containsIn_ok (t := 65) (l := b.code) (p := fun x => !rightS c b x) hbig (by simp [noId]) (fun x hx => wrongIns_ok (by have := k2 x hx; unfold big; omega) (by have := k3 x hx; unfold big; omega))).runk ?_
     cases hr : b.code.all (rightS c b) with
     | false =>
      have hr2 : (b.code.any fun x => !rightS c b x) = true := by rw [List.any_eq_not_all_not]; simpa using hr
      rw [hr2,stop (by simp only [bodyB,hr,Bool.and_false])]
      simp [e1,e52,e53,e54,e6,e7',hres]
      exact .same rfl
     | true =>
      have hr2 : (b.code.any fun x => !rightS c b x) = false := by rw [List.any_eq_not_all_not]; simpa using hr
      rw [hr2]
      have hgo : bodyB c b i = true := by simp only [bodyB,hgood,hop,hr,Bool.and_self]
      rw [hgo,Bool.true_and] at hf
      simp [e1,e52,e53,e54,e6,e7']
      refine PW_ok _ ?_
      simp [e1,e52,e53,e54,e6,e7',wi]
      refine GoOn.drop [(1,.fp (encC c)),(52,recs 61 encBo c.bodies),(53,pin c.bodies.length),(54,pin (i + 1 : Nat))] (m - 1) (by omega) ?_ ⟨i + 1,by omega,rfl,Has.env (by simp),hf⟩
      simp [e1,e52,e53,wi]
      exact ⟨.same (by simp [noId]),.same (by simp [noId]),.same rfl,.same rfl⟩
    ·rw [stop (by simp only [bodyB,decide_eq_false o1,decide_eq_false o2,Bool.or_self,Bool.and_false,Bool.false_and])]
     simp [e1,e52,e53,e54,e6,e7',recs,o1,o2,hres]
     exact .same rfl
   ·have a3' : ¬ (i : Int) = 0 := by omega
    simp [e1,e6,e7',hres,a0,a1,a3,a3',a4,a4',a4'',recs]
    refine PCq (PCq (PW_ok _ ?_))
    simp [e1,e52,e53,e54,e6,e7',recs,hwj,hjj,hcj,htl]
    refine PW_ok _ ?_
    by_cases o1 : lastOp b.code = 22
    ·have hop : (decide (lastOp b.code = 22) || decide (lastOp b.code = 19)) = true := by simp [o1]
     simp [e1,e52,e53,e54,e6,e7',recs,o1]
     refine PW_ok _ ?_
     simp [e1,e52,e53,e54,e6,e7',recs]
     refine (containsIn_ok (t := 65) (l := b.code) (p := fun x => !rightS c b x) hbig (by simp [noId]) (fun x hx => wrongIns_ok (by have := k2 x hx; unfold big; omega) (by have := k3 x hx; unfold big; omega))).runk ?_
     cases hr : b.code.all (rightS c b) with
     | false =>
      have hr2 : (b.code.any fun x => !rightS c b x) = true := by rw [List.any_eq_not_all_not]; simpa using hr
      rw [hr2,stop (by simp only [bodyB,hr,Bool.and_false])]
      simp [e1,e52,e53,e54,e6,e7',hres]
      exact .same rfl
     | true =>
      have hr2 : (b.code.any fun x => !rightS c b x) = false := by rw [List.any_eq_not_all_not]; simpa using hr
      rw [hr2]
      have hgo : bodyB c b i = true := by simp only [bodyB,hgood,hop,hr,Bool.and_self]
      rw [hgo,Bool.true_and] at hf
      simp [e1,e52,e53,e54,e6,e7']
      refine PW_ok _ ?_
      simp [e1,e52,e53,e54,e6,e7',wi]
      refine GoOn.drop [(1,.fp (encC c)),(52,recs 61 encBo c.bodies),(53,pin c.bodies.length),(54,pin (i + 1 : Nat))] (m - 1) (by omega) ?_ ⟨i + 1,by omega,rfl,Has.env (by simp),hf⟩
      simp [e1,e52,e53,wi]
      exact ⟨.same (by simp [noId]),.same (by simp [noId]),.same rfl,.same rfl⟩
    by_cases o2 : lastOp b.code = 19
    ·have hop : (decide (lastOp b.code = 22) || decide (lastOp b.code = 19)) = true := by simp [o1,o2]
     simp [e1,e52,e53,e54,e6,e7',recs,o1,o2]
     refine PW_ok _ ?_
     simp [e1,e52,e53,e54,e6,e7',recs]
     refine (containsIn_ok (t := 65) (l := b.code) (p := fun x => !rightS c b x) hbig (by simp [noId]) (fun x hx => wrongIns_ok (by have := k2 x hx; unfold big; omega) (by have := k3 x hx; unfold big; omega))).runk ?_
     cases hr : b.code.all (rightS c b) with
     | false =>
      have hr2 : (b.code.any fun x => !rightS c b x) = true := by rw [List.any_eq_not_all_not]; simpa using hr
      rw [hr2,stop (by simp only [bodyB,hr,Bool.and_false])]
      simp [e1,e52,e53,e54,e6,e7',hres]
      exact .same rfl
     | true =>
      have hr2 : (b.code.any fun x => !rightS c b x) = false := by rw [List.any_eq_not_all_not]; simpa using hr
      rw [hr2]
      have hgo : bodyB c b i = true := by simp only [bodyB,hgood,hop,hr,Bool.and_self]
      rw [hgo,Bool.true_and] at hf
      simp [e1,e52,e53,e54,e6,e7']
      refine PW_ok _ ?_
      simp [e1,e52,e53,e54,e6,e7',wi]
      refine GoOn.drop [(1,.fp (encC c)),(52,recs 61 encBo c.bodies),(53,pin c.bodies.length),(54,pin (i + 1 : Nat))] (m - 1) (by omega) ?_ ⟨i + 1,by omega,rfl,Has.env (by simp),hf⟩
      simp [e1,e52,e53,wi]
      exact ⟨.same (by simp [noId]),.same (by simp [noId]),.same rfl,.same rfl⟩
    ·rw [stop (by simp only [bodyB,decide_eq_false o1,decide_eq_false o2,Bool.or_self,Bool.and_false,Bool.false_and])]
     simp [e1,e52,e53,e54,e6,e7',recs,o1,o2,hres]
     exact .same rfl
def kindCh (ch : UInt8) : Int :=
 if ch = 114 then 1 else if ch = 82 then 2 else if ch = 103 then 6 else if ch = 98 then 8 else if ch = 112 then 7 else if ch = 100 then 9 else if ch = 107 then 10 else if ch = 110 then 5 else 0
def okCh (ch : UInt8) : Bool := [114,82,103,98,112,100,107,110,48].contains ch
theorem fieldR_ok {c : FCode} {b : FBody} {ch : UInt8} {n : Int} (h : okCh ch = true) : PPd (.fn 215 [] []) [.agg (encC c),.agg (encBo b),.v (.int .u8 ch.toNat),pin n] (pbool (kindB c b (kindCh ch) n)) := by
 have hh : ch = 114 ∨ ch = 82 ∨ ch = 103 ∨ ch = 98 ∨ ch = 112 ∨ ch = 100 ∨ ch = 107 ∨ ch = 110 ∨ ch = 48 := by simpa [okCh] using h
 refine PPc rfl rfl rfl (by simp) (by simp [noId]) (by simp) (PW_ok _ ?_)
 rcases hh with rfl | rfl | rfl | rfl | rfl | rfl | rfl | rfl | rfl
 ·by_cases h : 0 ≤ n <;> simp [ir215,kindB,kindCh,encC,encBo,recs,h] <;> exact .same rfl
 ·by_cases h : -1 ≤ n <;> simp [ir215,kindB,kindCh,encC,encBo,recs,h] <;> exact .same rfl
 ·by_cases h : 0 ≤ n <;> simp [ir215,kindB,kindCh,encC,encBo,recs,h] <;> exact .same rfl
 ·by_cases h : 0 ≤ n <;> simp [ir215,kindB,kindCh,encC,encBo,recs,h] <;> exact .same rfl
 ·by_cases h : 0 ≤ n <;> simp [ir215,kindB,kindCh,encC,encBo,recs,h] <;> exact .same rfl
 ·by_cases h : n = 0 <;> simp [ir215,kindB,kindCh,encC,encBo,recs,h] <;> exact .same rfl
 ·by_cases h : 1 ≤ n <;> simp [ir215,kindB,kindCh,encC,encBo,recs,h] <;> exact .same rfl
 ·simp [ir215,kindB,kindCh]; exact .same rfl
 ·simp [ir215,kindB,kindCh]; exact .same rfl
def normK (k : Int) : Int := if k = 3 then 1 else if k = 4 then 2 else k
theorem kindB_norm {c : FCode} {b : FBody} {k n : Int} : kindB c b (normK k) n = kindB c b k n := by
 unfold normK
 by_cases h3 : k = 3
 ·subst h3; rfl
 by_cases h4 : k = 4
 ·subst h4; rfl
 rw [if_neg h3,if_neg h4]
theorem fld_len {n : Nat} (hn : n < 38) : ∃ a b c d,fldN n = [a,b,c,d] := by
 have h : ∀ n,n < 38 → (fldN n).length = 4 := by decide
 have := h n hn
 match hf : fldN n with
 | [a,b,c,d] => exact ⟨a,b,c,d,rfl⟩
 | [] | [_] | [_,_] | [_,_,_] | _ :: _ :: _ :: _ :: _ :: _ => rw [hf] at this; simp at this
theorem fld_kind {n k : Nat} (hn : n < 38) (h1 : 1 ≤ n) (hk : k < 4) : kindCh ((fldN n).getD k 0) = normK (kindAt (ruleN n) k) ∧ okCh ((fldN n).getD k 0) = true := by
 have h : ∀ n,n < 38 → 1 ≤ n → ∀ k,k < 4 → kindCh ((fldN n).getD k 0) = normK (kindAt (ruleN n) k) ∧ okCh ((fldN n).getD k 0) = true := by decide
 exact h n hn h1 k hk
theorem texts_okB {n : Nat} (hn : n < 38) : ∀ t ∈ textN n,t.all okByte = true := by
 have h : ∀ n,n < 38 → (textN n).all (fun t => t.all okByte) = true := by decide
 have := h n hn
 rw [List.all_eq_true] at this
 exact this
theorem textS_eq {i : FIns} {n : Nat} (hop : i.op = n) (hn : n < 38) : textS i = (i.text.all okByte && (decide (i.op = 36) || (if (textN n).isEmpty then decide (i.text = []) else decide (i.text ∈ textN n)))) := by
 have hop' : i.op.toNat = n := by omega
 unfold textS
 by_cases h36 : i.op = 36
 ·simp [h36]
 ·simp only [h36,if_false,hop',decide_false,Bool.false_or]
  by_cases he : (textN n).isEmpty = true
  ·simp only [he,if_true]
   by_cases ht : i.text = []
   ·simp [ht]
   ·simp [ht]
  ·simp only [he,if_false]
   by_cases ht : i.text ∈ textN n
   ·simp [ht,texts_okB hn _ ht]
   ·simp [ht]
def InJ1 (c : FCode) (b : FBody) (i : FIns) (m : Nat) (E : PEnv) (L : List LObj) : Prop := ∃ k : Nat,k + m = i.text.length ∧ L = [] ∧
 Has E [(3,.fp (encC c)),(4,.fp (encBo b)),(5,.fp (encI i)),(8,pin k)] ∧ ∀ x ∈ i.text.take k,(!okByte x) = false
def InJ2 (c : FCode) (b : FBody) (i : FIns) (m : Nat) (E : PEnv) (L : List LObj) : Prop := ∃ k : Nat,k + m = i.list.length ∧ L = [] ∧
 Has E [(3,.fp (encC c)),(4,.fp (encBo b)),(5,.fp (encI i)),(12,pin k)] ∧ ∀ x ∈ i.list.take k,(!kindB c b 1 x) = false
theorem encI_parts (i : FIns) : List.drop 1 (encI i) = [pin i.a,pin i.b,pin i.c,pin i.d,pstr i.text,ints 3 i.list] ∧ List.drop 2 (encI i) = [pin i.b,pin i.c,pin i.d,pstr i.text,ints 3 i.list] ∧
  List.drop 3 (encI i) = [pin i.c,pin i.d,pstr i.text,ints 3 i.list] ∧ List.drop 4 (encI i) = [pin i.d,pstr i.text,ints 3 i.list] ∧ List.drop 5 (encI i) = [pstr i.text,ints 3 i.list] ∧ List.drop 6 (encI i) = [ints 3 i.list] := ⟨rfl,rfl,rfl,rfl,rfl,rfl⟩
def cList : ICode := match ir153.body with | .seq _ (.seq _ (.seq _ (.seq _ (.seq _ (.seq _ c))))) => c | _ => .skip
def InQ (p : Bool) : Ex → PEnv → List LObj → Prop := fun x E' L' => (x = .norm ∨ x = .ret) ∧ ∃ ps,press E' L' ir153.results = some ps ∧ Vw [] L' (pone1 ps) (pbool p)
theorem instr_list {c : FCode} {b : FBody} {i : FIns} {E : PEnv} (hi : (i.op = 21 ∨ i.op = 27) → 0 ≤ i.b) (hb : big i.list.length) (hbt : big i.text.length) (h : Has E [(3,.fp (encC c)),(4,.fp (encBo b)),(5,.fp (encI i))]) :
  PC FD XA XN 0 cList (InQ (listS c b i)) E [] := by
 obtain ⟨e3,e4,e5, -⟩ := h
 have hres : ir153.results = [.tmp 6] := rfl
 have ht : List.take 2 (encC c) = encC c := rfl
 have ht4 : List.take 4 (encBo b) = encBo b := rfl
 have ht7 : List.take 7 (encI i) = encI i := rfl
 obtain ⟨d1,d2,d3,d4,d5,d6⟩ := encI_parts i
 unfold cList
 refine PCq (PW_ok _ ?_)
 simp [e3,e4,e5,ht,ht7]
 refine (length_ok (c := c) (i := i) hi hbt).runk ?_
 simp [pairI]
 refine PCq (PW_ok _ ?_)
 by_cases h1 : (i.list.length : Int) < (lenS c i).1
 ·have hs : listS c b i = false := by simp only [listS,show ¬ (lenS c i).1 ≤ i.list.length by omega,decide_false,Bool.false_and]
  rw [hs]
  simp [e3,e4,e5,d6,ints,h1,InQ,hres]
  exact .same rfl
 by_cases h2 : (lenS c i).2 < i.list.length
 ·have hs : listS c b i = false := by simp only [listS,show ¬ (i.list.length : Int) ≤ (lenS c i).2 by omega,decide_false,Bool.and_false,Bool.false_and]
  rw [hs]
  simp [e3,e4,e5,d6,ints,h1,h2,InQ,hres]
  exact .same rfl
 have hs : listS c b i = i.list.all fun n => kindB c b 1 n := by simp only [listS,show (lenS c i).1 ≤ i.list.length by omega,show (i.list.length : Int) ≤ (lenS c i).2 by omega,decide_true,Bool.true_and]
 rw [hs]
 simp [e3,e4,e5,d6,ints,h1,h2]
 refine PW_ok _ ?_
 simp
 refine PCl (InJ2 c b i) ?_ (k := i.list.length) ⟨0,by simp,rfl,by simp [e3,e4,e5],fun x hx => by simp at hx⟩
 clear e3 e4 e5
 rintro m E L ⟨k,hkm,rfl,⟨e3,e4,e5,e12, -⟩,hk⟩
 by_cases hkl : k < i.list.length
 case neg =>
  have hke : k = i.list.length := by omega
  subst hke
  rw [List.take_length] at hk
  have : (i.list.all fun n => kindB c b 1 n) = true := by
   rw [List.all_eq_true]; intro x hx; simpa using hk x hx
  rw [this]
  simp [e3,e4,e5,e12,d6,ints,InQ,hres]
  exact .same rfl
 have hch : kindCh 114 = 1 := rfl
 have hf := (fieldR_ok (c := c) (b := b) (ch := 114) (n := i.list[k]) rfl)
 rw [hch] at hf
 simp [e3,e4,e5,e12,hkl,d6,ints,ht,ht4,cut1 hkl]
 refine hf.runk ?_
 cases hx : kindB c b 1 i.list[k] with
 | false =>
  have : (i.list.all fun n => kindB c b 1 n) = false := by rw [List.all_eq_false]; exact ⟨_,List.getElem_mem hkl,by simp [hx]⟩
  rw [this]
  simp [e3,e4,e5,e12,InQ,hres]
  exact .same rfl
 | true =>
  simp [e3,e4,e5,e12,wnc hkl hb]
  exact GoOn.same (m - 1) (by omega) ⟨k + 1,by omega,rfl,by simp [e3,e4,e5],take_next (p := fun x => !kindB c b 1 x) hkl hk (by show (!kindB c b 1 i.list[k]) = false; simp only [hx,Bool.not_true])⟩
def cIText : ICode := match ir153.body with | .seq _ (.seq _ (.seq _ (.seq _ (.seq c _)))) => c | _ => .skip
def cITexts : ICode := match ir153.body with | .seq _ (.seq _ (.seq _ (.seq _ (.seq _ (.seq c _))))) => c | _ => .skip
theorem instr_texts {c : FCode} {b : FBody} {i : FIns} {E : PEnv} {n : Nat} {p : Bool} (hop : i.op = n) (hn : n < 38) (hi : (i.op = 21 ∨ i.op = 27) → 0 ≤ i.b) (hb : big i.list.length) (hbt : big i.text.length) (h : Has E [(3,.fp (encC c)),(4,.fp (encBo b)),(5,.fp (encI i))])
  (hp : p = (decide (i.op = 36) || (if (textN n).isEmpty then decide (i.text = []) else decide (i.text ∈ textN n)))) :
  PC FD XA XN 0 (.seq cITexts cList) (InQ (p && listS c b i)) E [] := by
 obtain ⟨e3,e4,e5, -⟩ := h
 have hres : ir153.results = [.tmp 6] := rfl
 obtain ⟨d1,d2,d3,d4,d5,d6⟩ := encI_parts i
 obtain ⟨tl,hd0⟩ : ∃ tl,encI i = pin n :: tl := ⟨_,by rw [← hop]; rfl⟩
 have last : ∀ {E' : PEnv},E'.get 3 = some (.fp (encC c)) → E'.get 4 = some (.fp (encBo b)) → E'.get 5 = some (.fp (encI i)) → p = true → PC FD XA XN 0 cList (InQ (p && listS c b i)) E' [] := fun a1 a2 a3 a4 => by
  rw [a4,Bool.true_and]
  exact instr_list hi hb hbt ⟨a1,a2,a3,trivial⟩
 have e5' := e5
 rw [hd0] at e5'
 have hd5' : List.drop 5 (pin n :: tl) = [pstr i.text,ints 3 i.list] := by rw [← hd0]; exact d5
 have hd5'' : List.drop 4 tl = [pstr i.text,ints 3 i.list] := hd5'
 have htl : tl.length = 6 := by have := congrArg List.length hd0; simpa using this.symm
 refine PCq ?_
 unfold cITexts
 refine PCq (PW_ok _ ?_)
 simp [e3,e4,e5']
 cases he : (textN n).isEmpty with
 | true =>
  have htx := texts_ok hn
  rw [he,if_pos rfl] at htx
  rw [he,if_pos rfl] at hp
  refine htx.runk ?_
  simp
  refine PW_ok _ ?_
  by_cases h36 : n = 36
  ·subst h36
   simp [e3,e4,e5']
   exact last (by simp [e3]) (by simp [e4]) (by simp [e5',hd0]) (by simp [hp,hop])
  have h36' : ¬ (n : Int) = 36 := by omega
  have h36'' : ¬ i.op = 36 := by omega
  by_cases ht : i.text = []
  ·have hte : i.text.isEmpty = true := by simp [ht]
   simp [e3,e4,e5',h36',hd5',hd5'',hte,ht,htl,arS,lit_toList]
   exact last (by simp [e3]) (by simp [e4]) (by simp [e5',hd0]) (by simp [hp,ht])
  ·have hte : i.text.isEmpty = false := by simpa using ht
   have hpf : p = false := by simp [hp,h36'',ht]
   rw [hpf]
   simp [e3,e4,e5',h36',hd5',hd5'',hte,ht,htl,arS,lit_toList,InQ,hres]
   exact .same rfl
 | false =>
  have h36 : ¬ n = 36 := by rintro rfl; cases he
  have h36' : ¬ (n : Int) = 36 := by omega
  have h36'' : ¬ i.op = 36 := by omega
  have htx := texts_ok hn
  rw [he,if_neg (by simp)] at htx
  rw [he,if_neg (by simp)] at hp
  refine htx.runk ?_
  simp
  refine PW_ok _ ?_
  have hpos : 0 < (textN n).length := List.length_pos_iff.2 (by simpa using he)
  have hpos' : (0 : Int) < (textN n).length := by omega
  have hne : ¬ ((textN n).length : Int) = 0 := by omega
  have hne' : textN n ≠ [] := by simpa using he
  simp [e3,e4,e5',h36',hd5',hd5'',htl,hpos,hpos',hne,hne',arS,lit_toList,strs]
  have hs : PV.fz 9 (textN n).length ((textN n).map pstr) = strs 9 (textN n) := rfl
  rw [hs]
  refine (hasS_ok (t := 9) (l := textN n) (s := i.text) (by have := texts_len hn; unfold big; omega)).runk ?_
  by_cases ht : i.text ∈ textN n
  ·simp [ht,e3,e4,e5']
   exact last (by simp [e3]) (by simp [e4]) (by simp [e5',hd0]) (by simp [hp,ht])
  ·have hpf : p = false := by simp [hp,h36'',ht]
   rw [hpf]
   simp [ht,e3,e4,e5',InQ,hres]
   exact .same rfl
theorem instr_rest {c : FCode} {b : FBody} {i : FIns} {E : PEnv} {n : Nat} (hop : i.op = n) (hn : n < 38) (hi : (i.op = 21 ∨ i.op = 27) → 0 ≤ i.b) (hb : big i.list.length) (hbt : big i.text.length) (h : Has E [(3,.fp (encC c)),(4,.fp (encBo b)),(5,.fp (encI i))]) :
  PC FD XA XN 0 (.seq cIText (.seq cITexts cList)) (InQ (textS i && listS c b i)) E [] := by
 obtain ⟨e3,e4,e5, -⟩ := h
 have hres : ir153.results = [.tmp 6] := rfl
 have hts := textS_eq hop hn
 generalize hp : (decide (i.op = 36) || (if (textN n).isEmpty then decide (i.text = []) else decide (i.text ∈ textN n))) = p at hts
 obtain ⟨d1,d2,d3,d4,d5,d6⟩ := encI_parts i
 generalize hq : textS i = q at *
 refine PCq ?_
 unfold cIText
 refine PCq (PW_ok _ ?_)
 simp
 refine PC_block (PCl (InJ1 c b i) ?_ (k := i.text.length) ⟨0,by simp,rfl,by simp [e3,e4,e5],fun x hx => by simp at hx⟩)
 clear e3 e4 e5
 rintro m E L ⟨k,hkm,rfl,⟨e3,e4,e5,e8, -⟩,hk⟩
 by_cases hkl : k < i.text.length
 case neg =>
  have hke : k = i.text.length := by omega
  subst hke
  rw [List.take_length] at hk
  have hall : i.text.all okByte = true := by rw [List.all_eq_true]; intro x hx; simpa using hk x hx
  rw [hall,Bool.true_and] at hts
  simp [e3,e4,e5,e8,d5]
  rw [hts]
  exact instr_texts hop hn hi hb hbt ⟨by simp [e3],by simp [e4],by simp [e5],trivial⟩ hp.symm
 have hw := wnc hkl hbt
 have hbad : okByte i.text[k] = false → q = false := fun h => by
  rw [hts]
  have : i.text.all okByte = false := by rw [List.all_eq_false]; exact ⟨_,List.getElem_mem hkl,by rw [h]; simp⟩
  rw [this]; rfl
 have hgo : ∀ {E' : PEnv},okByte i.text[k] = true → Has E' [(3,.fp (encC c)),(4,.fp (encBo b)),(5,.fp (encI i)),(8,pin (k + 1 : Nat))] → GoOn (InJ1 c b i) m E' [] := fun h hh =>
  GoOn.same (m - 1) (by omega) ⟨k + 1,by omega,rfl,hh,take_next (p := fun x => !okByte x) hkl hk (by show (!okByte i.text[k]) = false; simp only [h,Bool.not_true])⟩
 generalize hx : i.text[k] = x at *
 by_cases x0 : x.toNat = 0
 ·have x0' : (x.toNat : Int) = 0 := by omega
  simp [e3,e4,e5,e8,hkl,d5,hx,x0,x0',hw]
  exact hgo (okByte_t (.inl x0)) (by simp [e3,e4,e5])
 have x0' : ¬ (x.toNat : Int) = 0 := by omega
 by_cases x1 : x.toNat < 32
 ·have x1' : (x.toNat : Int) < 32 := by omega
  rw [hbad (okByte_f (by omega))]
  simp [e3,e4,e5,e8,hkl,d5,hx,x0,x0',x1,x1',InQ,hres]
  exact .same rfl
 have x1' : ¬ (x.toNat : Int) < 32 := by omega
 by_cases x2 : 126 < x.toNat
 ·have x2' : 126 < (x.toNat : Int) := by omega
  rw [hbad (okByte_f (by omega))]
  simp [e3,e4,e5,e8,hkl,d5,hx,x0,x0',x1,x1',x2,x2',InQ,hres]
  exact .same rfl
 have x2' : ¬ 126 < (x.toNat : Int) := by omega
 simp [e3,e4,e5,e8,hkl,d5,hx,x0,x0',x1,x1',x2,x2',hw]
 exact hgo (okByte_t (by omega)) (by simp [e3,e4,e5])
theorem instruction_ok {c : FCode} {b : FBody} {i : FIns} (hb : big i.list.length) (hbt : big i.text.length) : PPd (.fn 153 [] []) [.agg (encC c),.agg (encBo b),.agg (encI i)] (pbool (rightS c b i)) := by
 refine PPc rfl rfl rfl (by simp) (by simp [noId]) (by simp) ?_
 have hres : ir153.results = [.tmp 6] := rfl
 obtain ⟨d1,d2,d3,d4,d5,d6⟩ := encI_parts i
 have ht : List.take 2 (encC c) = encC c := rfl
 have ht4 : List.take 4 (encBo b) = encBo b := rfl
 obtain ⟨tl,hd0⟩ : ∃ tl,encI i = pin i.op :: tl := ⟨_,rfl⟩
 refine PCq (PW_ok _ ?_)
 simp
 refine PC.abs (Abs.dropAll [(3,.fp (encC c)),(4,.fp (encBo b)),(5,.fp (encI i))] ?_) ?_
 ·simp
  refine ⟨?_, ?_, ?_⟩
  all_goals exact .fzp (by simp) rfl (by simp) (by simp) rfl rfl (fun j a b => .same (nIg (by simp) j a))
 have envE : Has (envOf [(3,.fp (encC c)),(4,.fp (encBo b)),(5,.fp (encI i))]) [(3,.fp (encC c)),(4,.fp (encBo b)),(5,.fp (encI i))] := Has.env (by simp)
 generalize envOf [(3,.fp (encC c)),(4,.fp (encBo b)),(5,.fp (encI i))] = E at envE ⊢
 obtain ⟨e3,e4,e5, -⟩ := envE
 have e5' := e5
 rw [hd0] at e5'
 refine PCq (PW_ok _ ?_)
 by_cases o1 : i.op < 1
 ·have hs : rightS c b i = false := by simp only [rightS,show ¬ 1 ≤ i.op by omega,decide_false,Bool.false_and]
  rw [hs]
  simp [e5',o1,hres]
  exact .same rfl
 by_cases o2 : 37 < i.op
 ·have hs : rightS c b i = false := by simp only [rightS,show ¬ i.op ≤ 37 by omega,decide_false,Bool.false_and,Bool.and_false]
  rw [hs]
  simp [e5',o1,o2,hres]
  exact .same rfl
 have hs : rightS c b i = (kindsB c b i && (textS i && listS c b i)) := by simp only [rightS,show 1 ≤ i.op by omega,show i.op ≤ 37 by omega,decide_true,Bool.true_and,Bool.and_assoc]
 rw [hs]
 simp [e5',o1,o2]
 obtain ⟨n,hn⟩ : ∃ n : Nat,i.op = n := ⟨i.op.toNat,by omega⟩
 have hn1 : 1 ≤ n := by omega
 have hn2 : n < 38 := by omega
 have hop' : i.op.toNat = n := by omega
 refine PCq (PW_ok _ ?_)
 simp [e5']
 rw [hn]
 refine (flds_ok hn2).runk ?_
 simp
 obtain ⟨f0,f1,f2,f3,hf⟩ := fld_len hn2
 have q0 := fld_kind hn2 hn1 (k := 0) (by omega)
 have q1 := fld_kind hn2 hn1 (k := 1) (by omega)
 have q2 := fld_kind hn2 hn1 (k := 2) (by omega)
 have q3 := fld_kind hn2 hn1 (k := 3) (by omega)
 rw [hf] at q0 q1 q2 q3
 have p0 := fieldR_ok (c := c) (b := b) (n := i.a) q0.2
 have p1 := fieldR_ok (c := c) (b := b) (n := i.b) q1.2
 have p2 := fieldR_ok (c := c) (b := b) (n := i.c) q2.2
 have p3 := fieldR_ok (c := c) (b := b) (n := i.d) q3.2
 rw [q0.1,kindB_norm] at p0
 rw [q1.1,kindB_norm] at p1
 rw [q2.1,kindB_norm] at p2
 rw [q3.1,kindB_norm] at p3
 have hk : kindsB c b i = (kindB c b (kindAt (ruleN n) 0) i.a && kindB c b (kindAt (ruleN n) 1) i.b && kindB c b (kindAt (ruleN n) 2) i.c && kindB c b (kindAt (ruleN n) 3) i.d) := by
  simp only [kindsB,hop',kindAt]
 rw [hf]
 refine PCq (PW_ok _ ?_)
 have hg0 : [f0,f1,f2,f3].getD 0 0 = f0 := rfl
 have hg1 : [f0,f1,f2,f3].getD 1 0 = f1 := rfl
 have hg2 : [f0,f1,f2,f3].getD 2 0 = f2 := rfl
 have hg3 : [f0,f1,f2,f3].getD 3 0 = f3 := rfl
 rw [hg0] at p0
 rw [hg1] at p1
 rw [hg2] at p2
 rw [hg3] at p3
 simp [e3,e4,e5,ht,ht4,d1]
 refine p0.runj ?_
 cases k0 : kindB c b (kindAt (ruleN n) 0) i.a with
 | false =>
  have : kindsB c b i = false := by rw [hk,k0]; rfl
  rw [this]
  simp [hres]
  exact .same rfl
 | true =>
  simp [e3,e4,e5,ht,ht4,d2]
  refine p1.runj ?_
  cases k1 : kindB c b (kindAt (ruleN n) 1) i.b with
  | false =>
   have : kindsB c b i = false := by rw [hk,k0,k1]; rfl
   rw [this]
   simp [hres]
   exact .same rfl
  | true =>
   simp [e3,e4,e5,ht,ht4,d3]
   refine p2.runj ?_
   cases k2 : kindB c b (kindAt (ruleN n) 2) i.c with
   | false =>
    have : kindsB c b i = false := by rw [hk,k0,k1,k2]; rfl
    rw [this]
    simp [hres]
    exact .same rfl
   | true =>
    simp [e3,e4,e5,ht,ht4,d4]
    refine p3.runk ?_
    cases k3 : kindB c b (kindAt (ruleN n) 3) i.d with
    | false =>
     have : kindsB c b i = false := by rw [hk,k0,k1,k2,k3]; rfl
     rw [this]
     simp [hres]
     exact .same rfl
    | true =>
     have : kindsB c b i = true := by rw [hk,k0,k1,k2,k3]; rfl
     rw [this,Bool.true_and]
     simp
     refine instr_rest hn hn2 ?_ hb hbt ⟨by simp [e3],by simp [e4],by simp [e5],trivial⟩
     rintro (h | h)
     ·have hn21 : n = 21 := by omega
      subst hn21
      have h2 : kindB c b 8 i.b = true := k1
      have : 0 ≤ i.b ∧ i.b < c.bodies.length := by simpa [kindB] using h2
      exact this.1
     ·have hn27 : n = 27 := by omega
      subst hn27
      have h2 : kindB c b 8 i.b = true := k1
      have : 0 ≤ i.b ∧ i.b < c.bodies.length := by simpa [kindB] using h2
      exact this.1
def CrJ1 (c : FCode) (m : Nat) (E : PEnv) (L : List LObj) : Prop := ∃ i : Nat,i + m = c.bodies.length ∧ L = [] ∧ Has E [(1,.fp (encC c)),(3,pin (totalI (c.bodies.take i))),(4,pin i)] ∧ ∀ b ∈ c.bodies.take i,decide (5000 < b.regs) = false
def CrJ2 (c : FCode) (m : Nat) (E : PEnv) (L : List LObj) : Prop := ∃ i : Nat,i + m = c.bodies.length ∧ L = [] ∧ Has E [(1,.fp (encC c)),(5,pin i)] ∧ bFm c 0 c.bodies = bFm c i (c.bodies.drop i)
def CrJ3 (c : FCode) (b : FBody) (i m : Nat) (E : PEnv) (L : List LObj) : Prop := ∃ k : Nat,k + m = b.code.length ∧ L = [] ∧ Has E [(1,.fp (encC c)),(5,pin i),(6,.fp (encBo b)),(8,pin k)] ∧ ∀ x ∈ b.code.take k,(!rightS c b x) = false
theorem checkR_ok {c : FCode} (hc : OkC c) : PPd (.fn 84 [] []) [.agg (encC c)] (pin (checkS c)) := by
 have hbl := hc.bodies
 have hb : big c.bodies.length := by unfold big; omega
 have hd1 : List.drop 1 (encC c) = [recs 61 encBo c.bodies] := rfl
 have hres : ir84.results = [.tmp 2] := rfl
 obtain ⟨cl,hE0,hcl⟩ : ∃ cl,encC c = pin c.globals :: cl ∧ cl.length = 1 := ⟨_,rfl,rfl⟩
 have bad : countB c = false → checkS c = 5 := fun h => by simp only [checkS,h]; rfl
 have htl := totalI_le (l := c.bodies) (fun b hb => hc.code b hb)
 refine PPc rfl rfl rfl (by simp) (by simp [noId]) (by simp) ?_
 refine PCq (PW_ok _ ?_)
 simp
 refine PC.abs (Abs.dropAll [(1,.fp (encC c))] ?_) ?_
 ·simp
  exact .fzp (by simp) rfl (by simp) (by simp) rfl rfl (fun j a b => .same (nIg (by simp) j a))
 have envE : Has (envOf [(1,.fp (encC c))]) [(1,.fp (encC c))] := Has.env (by simp)
 generalize envOf [(1,.fp (encC c))] = E at envE ⊢
 obtain ⟨e1, -⟩ := envE
 have e1' := e1
 rw [hE0] at e1'
 have hd1' : List.drop 1 (pin c.globals :: cl) = [recs 61 encBo c.bodies] := by rw [← hE0]; rfl
 have hd1'' : cl = [recs 61 encBo c.bodies] := hd1'
 refine PCq (PW_ok _ ?_)
 by_cases h1 : c.bodies.length = 0
 ·rw [bad (by simp only [countB,show ¬ 1 ≤ c.bodies.length by omega,decide_false,Bool.false_and])]
  have h1' : (c.bodies.length : Int) = 0 := by omega
  have h1'' : c.bodies = [] := List.eq_nil_of_length_eq_zero h1
  simp [e1,hd1,recs,h1,h1',h1'',hres]
  exact .same rfl
 have h1' : ¬ (c.bodies.length : Int) = 0 := by omega
 have h1'' : c.bodies ≠ [] := fun h => h1 (by rw [h]; rfl)
 by_cases h2 : (800 : Int) < c.bodies.length
 ·rw [bad (by simp only [countB,show ¬ c.bodies.length ≤ 800 by omega,decide_false,Bool.and_false,Bool.false_and])]
  simp [e1,hd1,recs,h1,h1',h1'',h2,hres]
  exact .same rfl
 by_cases h4 : c.globals < 0
 ·rw [bad (by simp only [countB,show ¬ 0 ≤ c.globals by omega,decide_false,Bool.and_false,Bool.false_and])]
  simp [e1',hd1'',recs,h1,h1',h1'',h2,h4,hres]
  exact .same rfl
 by_cases h5 : 1000 < c.globals
 ·rw [bad (by simp only [countB,show ¬ c.globals ≤ 1000 by omega,decide_false,Bool.and_false,Bool.false_and])]
  simp [e1',hd1'',recs,h1,h1',h1'',h2,h4,h5,hres]
  exact .same rfl
 simp [e1',hd1'',recs,h1,h1',h1'',h2,h4,h5]
 refine PCq (PW_ok _ ?_)
 simp
 refine PCq (PCq (PW_ok _ ?_))
 simp
 have eqC : ∀ l,List.flatMap encBo l = List.flatMap encBo l := fun _ => rfl
 refine PC_block (PCl (CrJ1 c) ?_ (k := c.bodies.length) ⟨0,by simp,rfl,by simp [e1,totalI],fun b hb => by simp at hb⟩)
 clear e1 e1'
 rintro m E L ⟨i,him,rfl,⟨e1,e3,e4, -⟩,hn⟩
 by_cases hi : i < c.bodies.length
 ·have hcut := cutBo hi
  have k1 := hc.code _ (List.getElem_mem hi)
  have k2 := totalI_le (l := c.bodies.take i) (fun b hb => hc.code b (List.mem_of_mem_take hb))
  have k3 : (c.bodies.take i).length ≤ 1000000 := by simp; omega
  have hw : IntKind.wrap .i64 ((totalI (c.bodies.take i) : Int) + (c.bodies[i].code.length : Int)) = ((totalI (c.bodies.take (i + 1)) : Nat) : Int) := by
   rw [totalI_take hi,wrap64 (by omega) (by omega)]; simp
  by_cases hr : 5000 < c.bodies[i].regs
  ·have hcnt : countB c = false := by
    have : (c.bodies.all fun b => decide (b.regs ≤ 5000)) = false := by
     rw [List.all_eq_false]; exact ⟨_,List.getElem_mem hi,by simp; omega⟩
    simp only [countB,this,Bool.and_false]
   rw [bad hcnt]
   simp [e1,e3,e4,hi,hd1,recs,hcut,encBo,hw,hr,hres]
   exact .same rfl
  ·simp [e1,e3,e4,hi,hd1,recs,hcut,encBo,hw,hr,wnc hi hb]
   exact GoOn.same (m - 1) (by omega) ⟨i + 1,by omega,rfl,by simp [e1],take_next (p := fun b => decide (5000 < b.regs)) hi hn (by simpa using hr)⟩
 have hie : i = c.bodies.length := by omega
 subst hie
 rw [List.take_length] at e3 hn
 simp [e1,e3,e4,hd1,recs]
 clear him
 refine PCq (PW_ok _ ?_)
 by_cases h3 : (20000 : Int) < totalI c.bodies
 ·rw [bad (by simp only [countB,show ¬ totalI c.bodies ≤ 20000 by omega,decide_false,Bool.and_false,Bool.false_and])]
  simp [e3,h3,hres]
  exact .same rfl
 have hcnt : countB c = true := by
  have : (c.bodies.all fun b => decide (b.regs ≤ 5000)) = true := by
   rw [List.all_eq_true]; intro b hb; have := hn b hb; simp at this ⊢; omega
  simp only [countB,this,show 1 ≤ c.bodies.length by omega,show c.bodies.length ≤ 800 by omega,show 0 ≤ c.globals by omega,show c.globals ≤ 1000 by omega,show totalI c.bodies ≤ 20000 by omega,decide_true,Bool.true_and]
 have hck : checkS c = if bFm c 0 c.bodies = true then 0 else 190 := by simp only [checkS,hcnt]; rfl
 simp [e3,h3]
 refine PCq (PCq (PW_ok _ ?_))
 simp
 refine PC_block (PC_loopH (CrJ2 c) ?_ (k := c.bodies.length) ⟨0,by simp,rfl,by simp [e1],by simp⟩)
 clear e1 e3 e4
 rintro m E L ⟨i,him,rfl,⟨e1,e5, -⟩,hf⟩
 by_cases hi : i < c.bodies.length
 case neg =>
  have hie : i = c.bodies.length := by omega
  subst hie
  rw [List.drop_length] at hf
  have : checkS c = 0 := by rw [hck,hf]; rfl
  rw [this]
  refine PW_ok _ ?_
  simp [e1,e5,hd1,recs]
  refine PW_ok _ ?_
  simp [hres]
  exact .same rfl
 have hcut := cutBo hi
 have hdr : c.bodies.drop i = c.bodies[i] :: c.bodies.drop (i + 1) := List.drop_eq_getElem_cons hi
 have hfc : bFm c i (c.bodies[i] :: c.bodies.drop (i + 1)) = (bodyB c c.bodies[i] i && bFm c (i + 1) (c.bodies.drop (i + 1))) := rfl
 rw [hdr,hfc] at hf
 have k1 := hc.code _ (List.getElem_mem hi)
 have k2 := hc.list _ (List.getElem_mem hi)
 have k3 := hc.text _ (List.getElem_mem hi)
 have wi := wnc hi hb
 generalize hbd : c.bodies[i] = b at *
 have stop : bodyB c b i = false → checkS c = 190 := fun h => by rw [hck,hf,h]; rfl
 have hhead : headB b i = false → bodyB c b i = false := fun h => by simp only [bodyB,h,Bool.false_and]
 have hbc : encBo b = [pstr b.name,pin b.regs,pin b.args,recs 65 encI b.code] := rfl
 have hps : psl [PV.v (S []),PV.v (I 0),PV.v (I 0),PV.v (.slice none 0 0)] 0 (encBo b) = encBo b := psplice_full rfl
 have ht4 : List.take 4 (encBo b) = encBo b := rfl
 refine PCq (PW_ok _ ?_)
 simp [e1,e5,hi,hd1,recs]
 refine PCq ?_
 refine PC_block (PCq (PW_ok _ ?_))
 simp [e1,e5,hi,hd1,recs,hcut,hbd,hps,ht4]
 refine PC.abs (Abs.dropAll [(1,.fp (encC c)),(5,pin i),(6,.fp (encBo b))] ?_) ?_
 ·simp [e1,e5]
  exact ⟨.same (by simp [noId]),.same rfl,.fzp (by simp) rfl (by simp) (by simp) rfl rfl (fun j a b => .same (nIg (by simp) j a))⟩
 clear e1 e5
 have envE : Has (envOf [(1,.fp (encC c)),(5,pin i),(6,.fp (encBo b))]) [(1,.fp (encC c)),(5,pin i),(6,.fp (encBo b))] := Has.env (by simp)
 generalize envOf [(1,.fp (encC c)),(5,pin i),(6,.fp (encBo b))] = E at envE ⊢
 obtain ⟨e1,e5,e6, -⟩ := envE
 have e6' := e6
 rw [hbc] at e6'
 refine PCq (PW_ok _ ?_)
 simp [e1,e5,e6']
 refine (namedR_ok (s := b.name)).runk ?_
 cases n1 : namedB b.name with
 | false =>
  rw [stop (hhead (by simp only [headB,n1,Bool.false_and]))]
  simp [e1,e5,e6',hres]
  exact .same rfl
 | true =>
  by_cases a0 : b.args < 0
  ·rw [stop (hhead (by simp only [headB,show ¬ 0 ≤ b.args by omega,decide_false,Bool.false_and,Bool.and_false]))]
   simp [e1,e5,e6',hres,a0]
   exact .same rfl
  by_cases a1 : b.regs < b.args
  ·rw [stop (hhead (by simp only [headB,show ¬ b.args ≤ b.regs by omega,decide_false,Bool.false_and,Bool.and_false]))]
   simp [e1,e5,e6',hres,a0,a1]
   exact .same rfl
  by_cases a2 : i = 0 ∧ 0 < b.args
  ·obtain ⟨a2,a3⟩ := a2
   have a2' : (i : Int) = 0 := by omega
   rw [stop (hhead (by simp only [headB,a2,show ¬ b.args ≤ 0 by omega,decide_false,ne_eq,not_true_eq_false,Bool.false_or,Bool.false_and,Bool.and_false]))]
   simp [e1,e5,e6',hres,a0,a1,a2,a2',a3]
   exact .same rfl
  have a3 : (i = 0 ∧ ¬ 0 < b.args) ∨ ¬ i = 0 := by omega
  by_cases a4 : b.code.length = 0
  ·have a4' : b.code = [] := List.eq_nil_of_length_eq_zero a4
   rw [stop (hhead (by simp only [headB,a4',List.isEmpty_nil,Bool.not_true,Bool.and_false]))]
   rcases a3 with ⟨a3,a5⟩ | a3
   ·have a3' : (i : Int) = 0 := by omega
    simp [e1,e5,e6',hres,a0,a1,a3,a3',a5,a4,a4',recs]
    exact .same rfl
   ·have a3' : ¬ (i : Int) = 0 := by omega
    simp [e1,e5,e6',hres,a0,a1,a3,a3',a4,a4',recs]
    exact .same rfl
  have a4' : ¬ (b.code.length : Int) = 0 := by omega
  have a4'' : b.code ≠ [] := fun h => a4 (by rw [h]; rfl)
  have hgood : headB b i = true := by
   have : (decide (i ≠ 0) || decide (b.args ≤ 0)) = true := by simp; omega
   simp only [headB,n1,show 0 ≤ b.args by omega,show b.args ≤ b.regs by omega,this,decide_true,Bool.true_and]
   simpa using a4''
  obtain ⟨j,hj⟩ : ∃ j,b.code.length = j + 1 := ⟨b.code.length - 1,by omega⟩
  have hjl : j < b.code.length := by omega
  have hwj : IntKind.wrap .i64 ((b.code.length : Int) - 1) = j := by rw [wrap64 (by omega) (by omega)]; omega
  have hjj : (j : Int) < b.code.length := by omega
  have hcj := cutI hjl
  have hlast : lastOp b.code = b.code[j].op := by
   rw [lastOp_at (by omega)]; congr 1; congr 1; omega
  obtain ⟨tl,hx,htl'⟩ : ∃ tl,encI b.code[j] = pin (lastOp b.code) :: tl ∧ tl.length = 6 := ⟨_,by rw [hlast]; rfl,rfl⟩
  rw [hx] at hcj
  have hbig : big b.code.length := by unfold big; omega
  have hq3 : List.drop 3 (encBo b) = [recs 65 encI b.code] := rfl
  rcases a3 with ⟨a3,a6⟩ | a3
  ·have a3' : (i : Int) = 0 := by omega
   simp [e1,e5,e6',hres,a0,a1,a3,a3',a6,a4,a4',a4'',recs]
   refine PCq (PCq (PW_ok _ ?_))
   simp [e1,e5,e6',recs,hwj,hjj,hcj,htl']
   refine PW_ok _ ?_
   by_cases o1 : lastOp b.code = 22
   ·have hop : (decide (lastOp b.code = 22) || decide (lastOp b.code = 19)) = true := by simp [o1]
    simp [e1,e5,e6',recs,o1]
    refine PCq (PW_ok _ ?_)
    simp
    refine PC_block (PCl (CrJ3 c b i) ?_ (k := b.code.length) ⟨0,by simp,rfl,by simp [e1,e5,e6,hbc,recs],fun x hx => by simp at hx⟩)
    rintro m2 E2 L2 ⟨k,hkm,rfl,⟨q1,q5,q6,q8, -⟩,hk⟩
    by_cases hkl : k < b.code.length
    case neg =>
     have hke : k = b.code.length := by omega
     subst hke
     rw [List.take_length] at hk
     have hall : b.code.all (rightS c b) = true := by rw [List.all_eq_true]; intro x hx; simpa using hk x hx
     have hgo : bodyB c b i = true := by simp only [bodyB,hgood,hop,hall,Bool.and_self]
     rw [hgo,Bool.true_and] at hf
     simp [q1,q5,q6,q8,hq3,recs]
     refine PW_ok _ ?_
     simp [q1,q5,q6,q8,wi]
     exact GoOn.same (m - 1) (by omega) ⟨i + 1,by omega,rfl,by simp [q1],hf⟩
    have hcutI := cutI hkl
    have ht2 : List.take 2 (encC c) = encC c := rfl
    have hwk := wnc hkl hbig
    have z2 := k2 _ (List.getElem_mem hkl)
    have z3 := k3 _ (List.getElem_mem hkl)
    have ht7 : List.take 7 (encI b.code[k]) = encI b.code[k] := rfl
    simp [q1,q5,q6,q8,hkl,hq3,recs,hcutI,ht2,ht4,ht7]
    refine (instruction_ok (c := c) (b := b) (i := b.code[k]) (by unfold big; omega) (by unfold big; omega)).runk ?_
    cases hr : rightS c b b.code[k] with
    | false =>
     have hall : b.code.all (rightS c b) = false := by rw [List.all_eq_false]; exact ⟨_,List.getElem_mem hkl,by simp [hr]⟩
     rw [stop (by simp only [bodyB,hall,Bool.and_false])]
     simp [q1,q5,q6,q8,hres]
     exact .same rfl
    | true =>
     simp [q1,q5,q6,q8,hwk]
     exact GoOn.same (m2 - 1) (by omega) ⟨k + 1,by omega,rfl,by simp [q1,q5,q6],take_next (p := fun x => !rightS c b x) hkl hk (by show (!rightS c b b.code[k]) = false; simp only [hr,Bool.not_true])⟩
   by_cases o2 : lastOp b.code = 19
   ·have hop : (decide (lastOp b.code = 22) || decide (lastOp b.code = 19)) = true := by simp [o2]
    simp [e1,e5,e6',recs,o1,o2]
    refine PCq (PW_ok _ ?_)
    simp
    refine PC_block (PCl (CrJ3 c b i) ?_ (k := b.code.length) ⟨0,by simp,rfl,by simp [e1,e5,e6,hbc,recs],fun x hx => by simp at hx⟩)
    rintro m2 E2 L2 ⟨k,hkm,rfl,⟨q1,q5,q6,q8, -⟩,hk⟩
    by_cases hkl : k < b.code.length
    case neg =>
     have hke : k = b.code.length := by omega
     subst hke
     rw [List.take_length] at hk
     have hall : b.code.all (rightS c b) = true := by rw [List.all_eq_true]; intro x hx; simpa using hk x hx
     have hgo : bodyB c b i = true := by simp only [bodyB,hgood,hop,hall,Bool.and_self]
     rw [hgo,Bool.true_and] at hf
     simp [q1,q5,q6,q8,hq3,recs]
     refine PW_ok _ ?_
     simp [q1,q5,q6,q8,wi]
     exact GoOn.same (m - 1) (by omega) ⟨i + 1,by omega,rfl,by simp [q1],hf⟩
    have hcutI := cutI hkl
    have ht2 : List.take 2 (encC c) = encC c := rfl
    have hwk := wnc hkl hbig
    have z2 := k2 _ (List.getElem_mem hkl)
    have z3 := k3 _ (List.getElem_mem hkl)
    have ht7 : List.take 7 (encI b.code[k]) = encI b.code[k] := rfl
    simp [q1,q5,q6,q8,hkl,hq3,recs,hcutI,ht2,ht4,ht7]
    refine (instruction_ok (c := c) (b := b) (i := b.code[k]) (by unfold big; omega) (by unfold big; omega)).runk ?_
    cases hr : rightS c b b.code[k] with
    | false =>
     have hall : b.code.all (rightS c b) = false := by rw [List.all_eq_false]; exact ⟨_,List.getElem_mem hkl,by simp [hr]⟩
     rw [stop (by simp only [bodyB,hall,Bool.and_false])]
     simp [q1,q5,q6,q8,hres]
     exact .same rfl
    | true =>
     simp [q1,q5,q6,q8,hwk]
     exact GoOn.same (m2 - 1) (by omega) ⟨k + 1,by omega,rfl,by simp [q1,q5,q6],take_next (p := fun x => !rightS c b x) hkl hk (by show (!rightS c b b.code[k]) = false; simp only [hr,Bool.not_true])⟩
   ·rw [stop (by simp only [bodyB,decide_eq_false o1,decide_eq_false o2,Bool.or_self,Bool.and_false,Bool.false_and])]
    simp [e1,e5,e6',recs,o1,o2,hres]
    exact .same rfl
  ·have a3' : ¬ (i : Int) = 0 := by omega
   simp [e1,e5,e6',hres,a0,a1,a3,a3',a4,a4',a4'',recs]
   refine PCq (PCq (PW_ok _ ?_))
   simp [e1,e5,e6',recs,hwj,hjj,hcj,htl']
   refine PW_ok _ ?_
   by_cases o1 : lastOp b.code = 22
   ·have hop : (decide (lastOp b.code = 22) || decide (lastOp b.code = 19)) = true := by simp [o1]
    simp [e1,e5,e6',recs,o1]
    refine PCq (PW_ok _ ?_)
    simp
    refine PC_block (PCl (CrJ3 c b i) ?_ (k := b.code.length) ⟨0,by simp,rfl,by simp [e1,e5,e6,hbc,recs],fun x hx => by simp at hx⟩)
    rintro m2 E2 L2 ⟨k,hkm,rfl,⟨q1,q5,q6,q8, -⟩,hk⟩
    by_cases hkl : k < b.code.length
    case neg =>
     have hke : k = b.code.length := by omega
     subst hke
     rw [List.take_length] at hk
     have hall : b.code.all (rightS c b) = true := by rw [List.all_eq_true]; intro x hx; simpa using hk x hx
     have hgo : bodyB c b i = true := by simp only [bodyB,hgood,hop,hall,Bool.and_self]
     rw [hgo,Bool.true_and] at hf
     simp [q1,q5,q6,q8,hq3,recs]
     refine PW_ok _ ?_
     simp [q1,q5,q6,q8,wi]
     exact GoOn.same (m - 1) (by omega) ⟨i + 1,by omega,rfl,by simp [q1],hf⟩
    have hcutI := cutI hkl
    have ht2 : List.take 2 (encC c) = encC c := rfl
    have hwk := wnc hkl hbig
    have z2 := k2 _ (List.getElem_mem hkl)
    have z3 := k3 _ (List.getElem_mem hkl)
    have ht7 : List.take 7 (encI b.code[k]) = encI b.code[k] := rfl
    simp [q1,q5,q6,q8,hkl,hq3,recs,hcutI,ht2,ht4,ht7]
    refine (instruction_ok (c := c) (b := b) (i := b.code[k]) (by unfold big; omega) (by unfold big; omega)).runk ?_
    cases hr : rightS c b b.code[k] with
    | false =>
     have hall : b.code.all (rightS c b) = false := by rw [List.all_eq_false]; exact ⟨_,List.getElem_mem hkl,by simp [hr]⟩
     rw [stop (by simp only [bodyB,hall,Bool.and_false])]
     simp [q1,q5,q6,q8,hres]
     exact .same rfl
    | true =>
     simp [q1,q5,q6,q8,hwk]
     exact GoOn.same (m2 - 1) (by omega) ⟨k + 1,by omega,rfl,by simp [q1,q5,q6],take_next (p := fun x => !rightS c b x) hkl hk (by show (!rightS c b b.code[k]) = false; simp only [hr,Bool.not_true])⟩
   by_cases o2 : lastOp b.code = 19
   ·have hop : (decide (lastOp b.code = 22) || decide (lastOp b.code = 19)) = true := by simp [o2]
    simp [e1,e5,e6',recs,o1,o2]
    refine PCq (PW_ok _ ?_)
    simp
    refine PC_block (PCl (CrJ3 c b i) ?_ (k := b.code.length) ⟨0,by simp,rfl,by simp [e1,e5,e6,hbc,recs],fun x hx => by simp at hx⟩)
    rintro m2 E2 L2 ⟨k,hkm,rfl,⟨q1,q5,q6,q8, -⟩,hk⟩
    by_cases hkl : k < b.code.length
    case neg =>
     have hke : k = b.code.length := by omega
     subst hke
     rw [List.take_length] at hk
     have hall : b.code.all (rightS c b) = true := by rw [List.all_eq_true]; intro x hx; simpa using hk x hx
     have hgo : bodyB c b i = true := by simp only [bodyB,hgood,hop,hall,Bool.and_self]
     rw [hgo,Bool.true_and] at hf
     simp [q1,q5,q6,q8,hq3,recs]
     refine PW_ok _ ?_
     simp [q1,q5,q6,q8,wi]
     exact GoOn.same (m - 1) (by omega) ⟨i + 1,by omega,rfl,by simp [q1],hf⟩
    have hcutI := cutI hkl
    have ht2 : List.take 2 (encC c) = encC c := rfl
    have hwk := wnc hkl hbig
    have z2 := k2 _ (List.getElem_mem hkl)
    have z3 := k3 _ (List.getElem_mem hkl)
    have ht7 : List.take 7 (encI b.code[k]) = encI b.code[k] := rfl
    simp [q1,q5,q6,q8,hkl,hq3,recs,hcutI,ht2,ht4,ht7]
    refine (instruction_ok (c := c) (b := b) (i := b.code[k]) (by unfold big; omega) (by unfold big; omega)).runk ?_
    cases hr : rightS c b b.code[k] with
    | false =>
     have hall : b.code.all (rightS c b) = false := by rw [List.all_eq_false]; exact ⟨_,List.getElem_mem hkl,by simp [hr]⟩
     rw [stop (by simp only [bodyB,hall,Bool.and_false])]
     simp [q1,q5,q6,q8,hres]
     exact .same rfl
    | true =>
     simp [q1,q5,q6,q8,hwk]
     exact GoOn.same (m2 - 1) (by omega) ⟨k + 1,by omega,rfl,by simp [q1,q5,q6],take_next (p := fun x => !rightS c b x) hkl hk (by show (!rightS c b b.code[k]) = false; simp only [hr,Bool.not_true])⟩
   ·rw [stop (by simp only [bodyB,decide_eq_false o1,decide_eq_false o2,Bool.or_self,Bool.and_false,Bool.false_and])]
    simp [e1,e5,e6',recs,o1,o2,hres]
    exact .same rfl
def errS (c : FCode) (body : Int) : Int := if checkS c ≠ 0 then checkS c else if body < 0 ∨ (c.bodies.length : Int) ≤ body then 250 else 0
theorem checkBody_ok {c : FCode} {body : Int} (hc : OkC c) : PPd (.fn 71 [] []) [.agg (encC c),pin body] (pin (errS c body)) := by
 have hd1 : List.drop 1 (encC c) = [recs 61 encBo c.bodies] := rfl
 have hE0 : encC c = [pin c.globals,recs 61 encBo c.bodies] := rfl
 refine PPc rfl rfl rfl (by simp) (by simp [noId]) (by simp) (PW_ok _ ?_)
 have hcc : cut (encC c) 0 2 = encC c := rfl
 simp [ir71,hcc]
 refine (checkR_ok hc).runk ?_
 by_cases h0 : checkS c = 0
 ·by_cases h1 : body < 0
  ·have he : errS c body = 250 := by simp [errS,h0,h1]
   rw [he]
   simp [h0,h1]
   exact .same rfl
  ·by_cases h2 : (c.bodies.length : Int) ≤ body
   ·have he : errS c body = 250 := by simp [errS,h0,h2]
    rw [he]
    simp [h0,h1,h2,hE0,recs]
    exact .same rfl
   ·have he : errS c body = 0 := by simp [errS,h0,h1,h2]
    rw [he]
    simp [h0,h1,h2,hE0,recs]
    exact .same rfl
 ·have he : errS c body = checkS c := by simp [errS,h0]
  rw [he]
  simp [h0]
  exact .same rfl
def zeroBo : List PV := [PV.v (S []),PV.v (I 0),PV.v (I 0),PV.v (.slice none 0 0)]
theorem given_err {c : FCode} {body : Int} (hc : OkC c) (h : errS c body ≠ 0) : PPd (.fn 69 [] []) [.agg (encC c),pin body] (.tup [.agg zeroBo,pin (errS c body)]) := by
 have hE0 : encC c = [pin c.globals,recs 61 encBo c.bodies] := rfl
 refine PPc rfl rfl rfl (by simp) (by simp [noId]) (by simp [zeroBo,noId,noIdL]) (PW_ok _ ?_)
 have hcc : cut (encC c) 0 2 = encC c := rfl
 simp [ir69,hcc]
 refine (check_ok hc).runk ?_
 by_cases h0 : checkS c = 0
 ·by_cases h1 : body < 0
  ·have he : errS c body = 250 := by simp [errS,h0,h1]
   rw [he]
   simp [h0,h1,zeroBo]
   exact .same rfl
  ·by_cases h2 : (c.bodies.length : Int) ≤ body
   ·have he : errS c body = 250 := by simp [errS,h0,h2]
    rw [he]
    simp [h0,h1,h2,hE0,recs,zeroBo]
    exact .same rfl
   ·exact absurd (by simp [errS,h0,h1,h2]) h
 ·have he : errS c body = checkS c := by simp [errS,h0]
  rw [he]
  simp [h0,zeroBo]
  exact .same rfl
theorem given_ok {c : FCode} {k : Nat} (hc : OkC c) (h0 : checkS c = 0) (hk : k < c.bodies.length) : PPd (.fn 69 [] []) [.agg (encC c),pin k] (.tup [.agg (encBo c.bodies[k]),pin 0]) := by
 have hE0 : encC c = [pin c.globals,recs 61 encBo c.bodies] := rfl
 refine PPc rfl rfl rfl (by simp) (by simp [noId]) (by simp [noId,noIdL]) (PW_ok _ ?_)
 have hcc : cut (encC c) 0 2 = encC c := rfl
 simp [ir69,hcc]
 refine (check_ok hc).runk ?_
 have h1 : ¬ (k : Int) < 0 := by omega
 have h2 : ¬ (c.bodies.length : Int) ≤ k := by omega
 have h2' : ¬ c.bodies.length ≤ k := by omega
 have hcut := cutBo hk
 have hps : psl zeroBo 0 (encBo c.bodies[k]) = encBo c.bodies[k] := psplice_full rfl
 have ht4 : List.take 4 (encBo c.bodies[k]) = encBo c.bodies[k] := rfl
 have hc4 : cut (encBo c.bodies[k]) 0 4 = encBo c.bodies[k] := rfl
 unfold zeroBo at hps
 simp [h0,h1,h2,h2',hE0,recs,hk,hcut,hps,ht4,hc4]
 exact .same (by simp [noId,noIdL])
def succI (x : FIns) (i : Nat) : List Int := if x.op = 22 then [] else if x.op = 19 then [x.c] else if x.op = 20 then [((i + 1 : Nat) : Int),x.c] else [((i + 1 : Nat) : Int)]
theorem bodies_at {c : FCode} : ∀ {l : List FBody} {k j : Nat},bFm c k l = true → (h : j < l.length) → bodyB c l[j] (k + j) = true := by
 intro l
 induction l with
 | nil => intro k j _ h; simp at h
 | cons b l ih =>
  intro k j hb h
  simp only [bFm,Bool.and_eq_true] at hb
  cases j with
  | zero => exact hb.1
  | succ j => have := ih (k := k + 1) (j := j) hb.2 (by simpa using h); rw [show k + (j + 1) = k + 1 + j by omega]; exact this
structure OkB (c : FCode) (b : FBody) : Prop where
 regs0 : 0 ≤ b.regs
 regs : b.regs ≤ 5000
 code0 : 0 < b.code.length
 code : b.code.length ≤ 20000
 last : lastOp b.code = 22 ∨ lastOp b.code = 19
 right : ∀ i ∈ b.code,rightS c b i = true
 args : b.args ≤ b.regs
theorem totalI_get {l : List FBody} {k : Nat} (h : k < l.length) : l[k].code.length ≤ totalI l := by
 induction l generalizing k with
 | nil => simp at h
 | cons b l ih =>
  cases k with
  | zero => simp [totalI]
  | succ k => have := ih (k := k) (by simpa using h); simp [totalI]; omega
theorem okB_of {c : FCode} (h : checkS c = 0) {k : Nat} (hk : k < c.bodies.length) : OkB c c.bodies[k] := by
 unfold checkS at h
 by_cases h1 : countB c = true
 ·rw [if_pos h1] at h
  by_cases h2 : bFm c 0 c.bodies = true
  ·have h3 := bodies_at h2 hk
   unfold countB at h1
   simp only [Bool.and_eq_true,decide_eq_true_eq,List.all_eq_true] at h1
   unfold bodyB headB at h3
   simp only [Bool.and_eq_true,Bool.or_eq_true,decide_eq_true_eq,Bool.not_eq_true',List.all_eq_true] at h3
   obtain ⟨⟨⟨⟨⟨⟨a1,a2⟩,a3⟩,a4⟩,a5⟩,a6⟩,a7⟩ := h3
   have hr := h1.2 _ (List.getElem_mem hk)
   have ht := totalI_get hk
   have := h1.1.2
   refine ⟨by omega,hr, ?_,by omega,a6,a7,a3⟩
   cases hc : c.bodies[k].code with
   | nil => rw [hc] at a5; simp at a5
   | cons x l => simp
  ·rw [if_neg h2] at h; omega
 ·rw [if_neg h1] at h; omega
theorem right_parts {c : FCode} {b : FBody} {i : FIns} (h : rightS c b i = true) : 1 ≤ i.op ∧ i.op ≤ 37 ∧ (∀ k,k < 4 → kindB c b (kindAt (ruleN i.op.toNat) k) (numAt i k) = true) ∧ ∀ n ∈ i.list,kindB c b 1 n = true := by
 unfold rightS at h
 simp only [Bool.and_eq_true,decide_eq_true_eq] at h
 obtain ⟨⟨⟨⟨h1,h2⟩,h3⟩,h4⟩,h5⟩ := h
 unfold kindsB at h3
 simp only [Bool.and_eq_true] at h3
 unfold listS at h5
 simp only [Bool.and_eq_true,decide_eq_true_eq,List.all_eq_true] at h5
 refine ⟨h1,h2,fun k hk => ?_,h5.2⟩
 match k,hk with
 | 0,_ => exact h3.1.1.1
 | 1,_ => exact h3.1.1.2
 | 2,_ => exact h3.1.2
 | 3,_ => exact h3.2
theorem succ_ok {c : FCode} {b : FBody} (hb : OkB c b) {k : Nat} (hk : k < b.code.length) : ∀ x ∈ succI b.code[k] k,0 ≤ x ∧ x < b.code.length := by
 have hr := hb.right _ (List.getElem_mem hk)
 obtain ⟨h1,h2,h3,h4⟩ := right_parts hr
 have hlast : b.code[k].op ≠ 22 → b.code[k].op ≠ 19 → k + 1 < b.code.length := by
  intro a1 a2
  refine Nat.lt_of_not_le fun hh => ?_
  have he : k = b.code.length - 1 := by omega
  have h5 := hb.last
  rw [lastOp_at hb.code0] at h5
  subst he
  rcases h5 with h5 | h5
  ·exact a1 h5
  ·exact a2 h5
 have hc : b.code[k].op = 19 ∨ b.code[k].op = 20 → 0 ≤ b.code[k].c ∧ b.code[k].c < b.code.length := by
  intro ho
  have h5 := h3 2 (by omega)
  have h6 : kindAt (ruleN b.code[k].op.toNat) 2 = 7 := by
   rcases ho with ho | ho <;> (rw [ho]; rfl)
  rw [h6] at h5
  have h7 : numAt b.code[k] 2 = b.code[k].c := rfl
  rw [h7] at h5
  unfold kindB at h5
  simpa using h5
 intro x hx
 unfold succI at hx
 by_cases o22 : b.code[k].op = 22
 ·simp [o22] at hx
 by_cases o19 : b.code[k].op = 19
 ·simp [o19] at hx; subst hx; exact hc (.inl o19)
 have hl := hlast o22 o19
 by_cases o20 : b.code[k].op = 20
 ·simp [o20] at hx
  rcases hx with rfl | rfl
  ·omega
  ·exact hc (.inr o20)
 ·simp [o22,o19,o20] at hx; subst hx; omega
theorem GoOn.keep {J : Nat → PEnv → List LObj → Prop} {k : Nat} {E : PEnv} {L L' : List LObj} (τ : List Nat) (l : List (Nat × PV)) (k' : Nat) (hk : k' < k) (hnd : τ.Nodup) (hlt : ∀ i ∈ τ,i < L.length) (hL : F2 (fun i o' => ∃ o,L[i]? = some o ∧ VwO τ L o o') τ L')
  (hv : HasV τ E L l) (hj : J k' (envOf l) L') : GoOn J k E L := ⟨k',_,_,hk,Abs.keep τ l hnd hlt hL hv,hj⟩
theorem VwL.snoc {τ : List Nat} {L : List LObj} {cs : List PV} {p p' : PV} (h : noIdL cs = true) (hp : Vw τ L p p') : VwL τ L (cs ++ [p]) (cs ++ [p']) := (VwL.same h).append (.cons hp .nil)
theorem ends_ok {x : FIns} : PPd (.fn 135 [] []) [.agg (encI x)] (.tup [pbool (opE x),pbool (opT x)]) := by
 have hx : encI x = [pin x.op,pin x.a,pin x.b,pin x.c,pin x.d,pstr x.text,ints 3 x.list] := rfl
 refine PPc rfl rfl rfl (by simp) (by simp [noId]) (by simp) (PW_ok _ ?_)
 rw [hx]
 by_cases h19 : x.op = 19
 ·simp [ir135,ints,h19,opE,opT]
  exact .same rfl
 by_cases h20 : x.op = 20
 ·simp [ir135,ints,h19,h20,opE,opT]
  exact .same rfl
 by_cases h22 : x.op = 22
 ·simp [ir135,ints,h19,h20,h22,opE,opT]
  exact .same rfl
 simp [ir135,ints,h19,h20,h22,opE,opT]
 exact .same rfl
def lds (l : List FIns) (i : Nat) : List Bool := (List.range (l.length + 1)).map (leadL (l.take i))
@[simp] theorem lds_len {l : List FIns} {i : Nat} : (lds l i).length = l.length + 1 := by simp [lds]
theorem lds_zero {l : List FIns} : lds l 0 = (List.replicate (l.length + 1) false).set 0 true := by
 apply List.ext_getElem (by simp)
 intro j h1 h2
 simp only [lds,List.getElem_map,List.getElem_range,List.getElem_set,List.getElem_replicate,List.take_zero,leadL]
 cases j with
 | zero => simp
 | succ j => simp
theorem leadL_step {l : List FIns} {i j : Nat} (hi : i < l.length) : leadL (l.take (i + 1)) j = (leadL (l.take i) j || (opT l[i] && decide (l[i].c = (j : Int))) || (decide (j = i + 1) && opE l[i])) := by
 rw [List.take_succ_eq_append_getElem hi]
 unfold leadL
 rw [List.any_append]
 have hlen : (l.take i).length = i := by simp; omega
 cases j with
 | zero => simp
 | succ k =>
  simp only [List.any_cons,List.any_nil,Bool.or_false]
  by_cases hk : k = i
  ·subst hk
   have h1 : (l.take k)[k]? = none := List.getElem?_eq_none (by omega)
   have h2 : (l.take k ++ [l[k]])[k]? = some l[k] := by rw [List.getElem?_append_right (by omega)]; simp [hlen]
   rw [h1,h2]
   simp only [Option.map_some,Option.getD_some,Option.map_none,Option.getD_none,Bool.false_or,decide_true,Bool.true_and]
   cases opE l[k] <;> cases ((l.take k).any fun x => opT x && decide (x.c = ((k + 1 : Nat) : Int))) <;> cases (opT l[k] && decide (l[k].c = ((k + 1 : Nat) : Int))) <;> rfl
  ·have h2 : (l.take i ++ [l[i]])[k]? = (l.take i)[k]? := by
    rcases Nat.lt_or_ge k i with h | h
    ·rw [List.getElem?_append_left (by omega)]
    ·rw [List.getElem?_eq_none (by simp; omega),List.getElem?_eq_none (by omega)]
   rw [h2]
   have : decide (k + 1 = i + 1) = false := by simp [hk]
   rw [this,Bool.false_and,Bool.or_false,Bool.or_assoc]
def ldT (l : List FIns) (i : Nat) (x : FIns) : List Bool := if opT x then (lds l i).set x.c.toNat true else lds l i
@[simp] theorem ldT_len {l : List FIns} {i : Nat} {x : FIns} : (ldT l i x).length = l.length + 1 := by unfold ldT; split <;> simp
theorem ldT_step {l : List FIns} {i : Nat} (hi : i < l.length) (hc : opT l[i] = true → 0 ≤ l[i].c) {b : Bool} (hb : (ldT l i l[i])[i + 1]? = some b) : (ldT l i l[i]).set (i + 1) (b || opE l[i]) = lds l (i + 1) := by
 have hg : ∀ j,j < l.length + 1 → (ldT l i l[i])[j]? = some (leadL (l.take i) j || (opT l[i] && decide (l[i].c = (j : Int)))) := by
  intro j hj
  unfold ldT
  cases ht : opT l[i] with
  | false => simp [lds,hj]
  | true =>
   have h0 := hc ht
   rw [if_pos rfl,List.getElem?_set]
   by_cases e : l[i].c.toNat = j
   ·rw [if_pos e,if_pos (by rw [lds_len]; omega)]
    have : l[i].c = (j : Int) := by omega
    simp [this]
   ·rw [if_neg e]
    have : ¬ l[i].c = (j : Int) := by omega
    simp [lds,hj,this]
 rw [hg (i + 1) (by omega)] at hb
 cases hb
 apply List.ext_getElem? 
 intro j
 by_cases hj : j < l.length + 1
 ·have h1 : (lds l (i + 1))[j]? = some (leadL (l.take (i + 1)) j) := by simp [lds,hj]
  rw [h1,leadL_step hi,List.getElem?_set]
  by_cases e : i + 1 = j
  ·subst e
   rw [if_pos rfl,if_pos (by simpa using hj)]
   simp
  ·rw [if_neg e,hg j hj]
   have : ¬ j = i + 1 := fun x => e x.symm
   simp [this]
 ·rw [List.getElem?_eq_none (by simp; omega),List.getElem?_eq_none (by simp; omega)]
def LdJ (l : List FIns) (m : Nat) (E : PEnv) (L : List LObj) : Prop := ∃ i : Nat,i + m = l.length ∧ L = [.row 4 ((lds l i).map pbool)] ∧
 Has E [(0,recs 65 encI l),(3,.slc 0 0 (l.length + 1) (l.length + 1)),(21,recs 65 encI l),(22,pin l.length),(23,pin i)]
theorem lead_loop {l : List FIns} {Q : Ex → PEnv → List LObj → Prop} (hl : l.length ≤ 1000) (hc : ∀ x ∈ l,opT x = true → 0 ≤ x.c ∧ x.c < l.length)
  (hQ : ∀ E L,L = [.row 4 ((lds l l.length).map pbool)] → Has E [(0,recs 65 encI l),(3,.slc 0 0 (l.length + 1) (l.length + 1))] → Q .norm E L)
  {E : PEnv} {L : List LObj} (h : LdJ l l.length E L) : PC FD XA XN 0 (dSq 1 (hSq (dSq 3 ir70.body))) Q E L := by
 have hb : big l.length := by unfold big; omega
 simp [ir70,hSq,dSq]
 refine PW_ok _ ?_
 simp
 refine PCl (LdJ l) ?_ (k := l.length) h
 clear h
 rintro m E L ⟨i,him,rfl,⟨e0,e3,e21,e22,e23, -⟩⟩
 by_cases hi : i < l.length
 case neg =>
  have hie : i = l.length := by omega
  subst hie
  simp [e0,e3,e21,e22,e23]
  exact hQ _ _ rfl (by simp [e0,e3])
 have hcut := cutI hi
 have hw := wnc hi hb
 have hw' : IntKind.wrap .i64 ((i : Int) + 1) = (i : Int) + 1 := by rw [hw]; simp
 have hcx := hc _ (List.getElem_mem hi)
 have hstep := @ldT_step l i hi
 have hlen := @ldT_len l i l[i]
 have hx : encI l[i] = [pin l[i].op,pin l[i].a,pin l[i].b,pin l[i].c,pin l[i].d,pstr l[i].text,ints 3 l[i].list] := rfl
 have hld : ldT l i l[i] = if opT l[i] then (lds l i).set l[i].c.toNat true else lds l i := rfl
 have hsl := @lds_len l i
 have hsx := ends_ok (x := l[i])
 generalize l[i] = x at *
 generalize hls : lds l (i + 1) = ls' at *
 generalize ldT l i x = lt at *
 generalize lds l i = ls at *
 have hb2 : i + 1 < lt.length := by omega
 obtain ⟨b,hb3⟩ : ∃ b,lt[i + 1]? = some b := ⟨_,List.getElem?_eq_getElem hb2⟩
 have hfin := hstep (fun h => (hcx h).1) hb3
 have go : ∀ {E' : PEnv} {L' : List LObj} {cs : List PV},cs = ls'.map pbool → E'.get 0 = some (recs 65 encI l) → E'.get 3 = some (.slc 0 0 (l.length + 1) (l.length + 1)) → E'.get 21 = some (recs 65 encI l) → E'.get 22 = some (pin l.length) → E'.get 23 = some (pin (i + 1 : Nat)) → L'[0]? = some (.row 4 cs) → GoOn (LdJ l) m E' L' := by
  intro E' L' cs hcs a0 a3 a21 a22 a23 hL
  refine GoOn.keep [0] [(0,recs 65 encI l),(3,.slc 0 0 (l.length + 1) (l.length + 1)),(21,recs 65 encI l),(22,pin l.length),(23,pin (i + 1 : Nat))] (L' := [.row 4 (ls'.map pbool)]) (m - 1) (by omega) (by simp) (by simpa using (List.getElem?_eq_some_iff.1 hL).1) (.cons ⟨_,hL,.row (by rw [hcs]; exact VwL.same (by simp))⟩ .nil) ?_ ⟨i + 1,by omega,by rw [hls],Has.env (by simp)⟩
  simp only [HasV_cons,HasV_nil,and_true]
  exact ⟨⟨_,a0,.same (by simp)⟩,⟨_,a3,.slc rfl⟩,⟨_,a21,.same (by simp)⟩,⟨_,a22,.same rfl⟩,⟨_,a23,.same rfl⟩⟩
 simp [e0,e3,e21,e22,e23,hi,recs,hcut]
 refine hsx.runk ?_
 have hb4 : lt[i + 1]'hb2 = b := by rw [List.getElem?_eq_getElem hb2] at hb3; simpa using hb3
 have hi2 : (i : Int) + 1 < (l.length : Int) + 1 := by omega
 have hi3 : (i : Int) + 1 < ((l.length + 1 : Nat) : Int) := by omega
 have hi4 : i + 1 < l.length + 1 := by omega
 have hi0 : (0 : Int) ≤ (i : Int) + 1 := by omega
 have hnn : ((i : Int) + 1).toNat = i + 1 := by omega
 have hmap : (List.map pbool lt).set (i + 1) (pbool (b || opE x)) = List.map pbool ls' := by rw [← hfin,List.map_set]
 by_cases ht : opT x = true
 ·have hcx' := hcx ht
  have hE : opE x = true := by simp [opE,ht]
  rw [hE,Bool.or_true] at hmap
  obtain ⟨c,hcn⟩ : ∃ c : Nat,x.c = c := ⟨x.c.toNat,by omega⟩
  have hcl : c < l.length + 1 := by omega
  have hcl' : (c : Int) < (l.length : Int) + 1 := by omega
  rw [if_pos ht,hcn,Int.toNat_natCast] at hld
  have hset : (List.map pbool ls).set c (.v (.bool true)) = List.map pbool lt := by rw [hld,List.map_set]
  simp only [ht,if_true]
  rw [hx,hcn]
  cases b with
  | true =>
   simp [e0,e3,e21,e22,e23,hcl,hcl',hsl,hset,hi,hi2,hi0,hw,hw',hi4,hb4,hlen,hE,hmap,recs]
   exact go rfl (by simp [e0,recs]) (by simp [e3]) (by simp [e21,recs]) (by simp [e22]) (by simp) (by simp)
  | false =>
   simp [e0,e3,e21,e22,e23,hcl,hcl',hsl,hset,hi,hi2,hi0,hw,hw',hi4,hb4,hlen,hE,hmap,recs]
   exact go rfl (by simp [e0,recs]) (by simp [e3]) (by simp [e21,recs]) (by simp [e22]) (by simp) (by simp)
 ·rw [if_neg ht] at hld
  subst hld
  simp only [ht,if_false,Bool.false_eq_true]
  cases b with
  | true =>
   rw [Bool.true_or] at hmap
   simp [e0,e3,e21,e22,e23,hsl,hi,hi2,hi0,hw,hw',hi4,hb4,hmap,recs]
   exact go rfl (by simp [e0,recs]) (by simp [e3]) (by simp [e21,recs]) (by simp [e22]) (by simp) (by simp)
  | false =>
   rw [Bool.false_or] at hmap
   simp [e0,e3,e21,e22,e23,hsl,hi,hi2,hi0,hw,hw',hi4,hb4,hmap,recs]
   exact go rfl (by simp [e0,recs]) (by simp [e3]) (by simp [e21,recs]) (by simp [e22]) (by simp) (by simp)
end Go.Den
