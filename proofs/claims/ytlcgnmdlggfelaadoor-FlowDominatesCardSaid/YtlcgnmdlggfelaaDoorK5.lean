/- Part 5 of the proof: an executor over a compiled form of the functions of this program, that it is right, and what it computes (see the last part). -/
import Derived.Test.YtlcgnmdlggfelaaDoorK4
import Derived.KernelRfl
import Derived.ChangeArms
import Derived.DataReads
set_option linter.all false
/- The seat's functions, part N: Loops of the reference. -/
namespace Go.Den
open IrD
attribute [local irreducible] T.get T.set
structure NEnv (tb : TypeId) (bs : List Blk) (h : Nat) (E : PEnv) : Prop where
  e0 : E.get 0 = some (blks tb bs)
  e3 : E.get 3 = some (.slc 0 0 (loopsTo bs h).length (loopsTo bs h).length)
  e4 : E.get 4 = some (blist 4 (reachL bs (-1)))
  e5 : E.get 5 = some (pn h)
noncomputable def NL (bs : List Blk) (h : Nat) : List LObj := [.row 38 ((loopsTo bs h).flatMap encL)]
def NJ1 (tb : TypeId) (bs : List Blk) (m : Nat) (E : PEnv) (L : List LObj) : Prop := ∃ h, h + m = bs.length ∧ L = NL bs h ∧ NEnv tb bs h E
def NJ2 (tb : TypeId) (bs : List Blk) (h : Nat) (m : Nat) (E : PEnv) (L : List LObj) : Prop := ∃ b l, b + m = bs.length ∧ L = NL bs h ∧ NEnv tb bs h E ∧ Srcs bs h b l ∧ E.get 6 = some (ints 3 l) ∧ E.get 7 = some (pn b)
def NJ3 (tb : TypeId) (bs : List Blk) (h : Nat) (m : Nat) (E : PEnv) (L : List LObj) : Prop := ∃ l ag, m = 2 * miss bs.length l + (if ag = true then 1 else 0) ∧ L = NL bs h ∧ NEnv tb bs h E ∧ LIn bs h l ∧ (ag = false → l = loopL bs h) ∧ E.get 6 = some (ints 3 l) ∧ E.get 8 = some (pbool ag)
def NJ4 (tb : TypeId) (bs : List Blk) (h : Nat) (lp : List Int) (m : Nat) (E : PEnv) (L : List LObj) : Prop := ∃ b l ag, b + m = bs.length ∧ L = NL bs h ∧ NEnv tb bs h E ∧ MPass bs h lp l ag b ∧ E.get 6 = some (ints 3 l) ∧ E.get 8 = some (pbool ag) ∧ E.get 9 = some (pn b)
def NJ5 (tb : TypeId) (bs : List Blk) (h : Nat) (lp : List Int) (b : Nat) (hb : b < bs.length) (m : Nat) (E : PEnv) (L : List LObj) : Prop := ∃ k l ag, k + m = bs[b].next.length ∧ L = NL bs h ∧ NEnv tb bs h E ∧ MPass2 bs h lp l ag b k ∧ E.get 6 = some (ints 3 l) ∧ E.get 8 = some (pbool ag) ∧ E.get 9 = some (pn b) ∧ E.get 10 = some (pn k)
theorem hasLoop_of {bs : List Blk} {h : Nat} {l : List Int} (hs : Srcs bs h bs.length l) : hasLoop bs h ↔ l ≠ [] := by
  constructor
  · rintro ⟨b, hb, hk⟩ e
    have := (hs.mem b).2 ⟨b, rfl, hb, hk⟩
    rw [e] at this; simp at this
  · intro hn
    obtain ⟨x, hx⟩ := List.exists_mem_of_ne_nil _ hn
    obtain ⟨k, _, hk, hb⟩ := (hs.mem x).1 hx
    exact ⟨k, hk, hb⟩
theorem loopsTo_len {bs : List Blk} {n : Nat} : (loopsTo bs n).length ≤ n := by
  simp only [loopsTo, List.length_map]
  exact Nat.le_trans (List.length_filter_le _ _) (Nat.le_of_eq List.length_range)
theorem pcells_ints {t : TypeId} {l : List Int} : pcells (ints t l) = [ints t l] := rfl
theorem nl_ints {t : TypeId} {l : List Int} : nl (ints t l) = true := rfl
theorem pone_ints {t : TypeId} {l : List Int} : pone (ints t l) = true := rfl
theorem sumC {α : Type} {l : List α} {k : Nat} : (l.map fun _ => k).sum = l.length * k := by
  induction l with
  | nil => simp
  | cons a l ih => simp [ih, Nat.succ_mul, Nat.add_comm]
set_option linter.unusedSimpArgs false in
set_option maxRecDepth 8000 in
set_option maxHeartbeats 4000000 in
theorem loopsR_ok {tb : TypeId} {bs : List Blk} (hok : OkG bs) : PPd (.fn 10 [] []) [blks tb bs] (recs 38 encL (loopsTo bs bs.length)) := by
  have hl := hok.len
  have hb : big bs.length := by unfold big; omega
  refine PP_code rfl rfl rfl (by simp) (by simp) (by simp [recs]) (PW_ok _ ?_)
  simp [ir10]
  refine (reachedR_ok hok).runk ?_
  simp
  refine PC_loop (NJ1 tb bs) ?_ (k := bs.length) ⟨0, by simp, by simp [NL, loopsTo], ⟨by simp, by simp [loopsTo], by simp, by simp⟩⟩
  rintro m E L ⟨h, hhm, rfl, e0, e3, e4, e5⟩
  refine PW_ok _ ?_
  by_cases hh : h < bs.length
  case neg =>
    have : h = bs.length := by omega
    subst this
    simp [e0, e3, e4, e5, blks, recs]
    exact Vw.frz rfl (by simp) (by simp) rfl
  simp [e0, e3, e4, e5, hh, blks, recs]
  refine PC.abs (Abs.viewL [0] [(0, blks tb bs), (3, .slc 0 0 (loopsTo bs h).length (loopsTo bs h).length), (4, blist 4 (reachL bs (-1))), (5, pn h), (6, .fz 3 0 []), (7, pn 0)] (L' := NL bs h) (by simp) (by simp [NL]) (fun i h => by omega) (by simp) (.cons ⟨_, rfl, .row (.same (by simp))⟩ .nil) ?_) ?_
  · simp [e0, e3, e4, e5]
    exact ⟨.same (by simp), .slc rfl, .same (by simp), .same rfl, .fzs (cs'' := []) (by simp [NL]) rfl (by simp [allNl]) (Nat.zero_le _) rfl rfl (by simp), .same rfl⟩
  refine PC_loop0 (NJ2 tb bs h) ?_ (k := bs.length) ⟨0, [], by simp, rfl, ⟨by simp [envOf], by simp [envOf], by simp [envOf], by simp [envOf]⟩, .zero, by simp [ints, envOf], by simp [envOf]⟩
  clear e0 e3 e4 e5
  rintro m2 E L ⟨b, l, hbm, rfl, ⟨e0, e3, e4, e5⟩, hs, e6, e7⟩
  by_cases hbb : b < bs.length
  case pos =>
    have hlb := hs.len
    simp [e0, e3, e4, e5, e6, e7, hbb, blks, recs]
    refine (back_ok (tb := tb) hok hbb).runk ?_
    cases hk : backB bs b h with
    | false =>
      simp [e0, e3, e4, e5, e6, e7, wrap_inc hbb hb]
      exact ⟨m2 - 1, by omega, b + 1, l, by omega, rfl, ⟨by simp [e0], by simp [e3], by simp [e4], by simp [e5]⟩, hs.skip hk, by simp [e6], by simp⟩
    | true =>
      simp [e0, e3, e4, e5, e6, e7]
      refine (put_ok (by omega)).runk ?_
      simp [e0, e3, e4, e5, e6, e7, wrap_inc hbb hb]
      exact ⟨m2 - 1, by omega, b + 1, putL l b, by omega, rfl, ⟨by simp [e0], by simp [e3], by simp [e4], by simp [e5]⟩, hs.put hk, by simp, by simp⟩
  have : b = bs.length := by omega
  subst this
  have next : ∀ {E' : PEnv} {L' : List LObj}, Abs 0 E' L' (envOf [(0, blks tb bs), (3, .slc 0 0 (loopsTo bs (h + 1)).length (loopsTo bs (h + 1)).length), (4, blist 4 (reachL bs (-1))), (5, pn (h + 1))]) (NL bs (h + 1)) →
      ∃ k', k' < m ∧ ∃ E'' L'', Abs 0 E' L' E'' L'' ∧ NJ1 tb bs k' E'' L'' := fun ha =>
    ⟨m - 1, by omega, _, _, ha, h + 1, by omega, rfl, ⟨by simp [envOf], by simp [envOf], by simp [envOf], by simp [envOf]⟩⟩
  by_cases hl0 : l = []
  · have hnl : ¬ hasLoop bs h := fun hx => (hasLoop_of hs).1 hx hl0
    subst hl0
    simp [e0, e3, e4, e5, e6, e7, blks, recs, ints, wrap_inc hh hb]
    refine next (Abs.viewL [0] _ (by simp) (by simp [NL]) (fun i h => by omega) (by simp) (.cons ⟨_, rfl, .row ?_⟩ .nil) ?_)
    · rw [loopsTo_skip hnl]; exact .same (by simp)
    · simp [e0, e3, e4, e5]
      rw [loopsTo_skip hnl]
      exact ⟨.same (by simp), .slc rfl, .same (by simp), .same rfl⟩
  have hlp : hasLoop bs h := (hasLoop_of hs).2 hl0
  have hll := hs.len
  simp [e0, e3, e4, e5, e6, e7, blks, recs, ints, hl0]
  refine (put_ok (l := l) (n := (h : Int)) (by omega)).runk ?_
  simp [e0, e3, e4, e5, e6, e7]
  refine PC_loop0 (NJ3 tb bs h) ?_ ⟨putL l h, true, rfl, rfl, ⟨by simp [e0], by simp [e3], by simp [e4], by simp [e5]⟩, hs.lin, (fun h => by cases h), by simp, by simp⟩
  clear e0 e3 e4 e5 e6 e7 hs hl0 hll
  rintro m2 E L ⟨l, ag, rfl, rfl, ⟨e0, e3, e4, e5⟩, hli, hag, e6, e8⟩
  have hll := hli.len hh
  cases ag with
  | false =>
    have := hag rfl
    subst this
    have hle : (loopsTo bs h).length ≤ h := loopsTo_len
    have rr : roomy ((loopsTo bs h).length + 1) 32 := roomy_of (by omega) (by omega)
    simp [e0, e3, e4, e5, e6, e8, wrap_inc hh hb, NL, rr, pcells_ints, nl_ints, pone_ints, sumC, allOne]
    refine next (Abs.viewL [2] _ (by simp) (by simp) (fun i h => by omega) (by simp) (.cons ⟨_, rfl, .row ?_⟩ .nil) ?_)
    · rw [loopsTo_succ hlp, List.flatMap_append]
      exact VwL.same (by simp)
    · simp [e0, e3, e4, e5, loopsTo_succ hlp]
      exact ⟨.same (by simp), .slc rfl, .same (by simp), .same rfl⟩
  | true =>
  simp [e8]
  refine PC_loop0 (NJ4 tb bs h l) ?_ (k := bs.length) ⟨0, l, false, by simp, rfl, ⟨by simp [e0], by simp [e3], by simp [e4], by simp [e5]⟩, ⟨hli, fun _ => ⟨rfl, fun j hj => by omega⟩, (fun h => by cases h)⟩, by simp [e6], by simp, by simp⟩
  clear e0 e3 e4 e5 e6 e8 
  rintro m2 E L ⟨b, l', ag, hbm, rfl, ⟨e0, e3, e4, e5⟩, hp, e6, e8, e9⟩
  by_cases hbb : b < bs.length
  case neg =>
    have : b = bs.length := by omega
    subst this
    simp [e0, e9, blks, recs]
    cases ag with
    | true =>
      have := hp.less rfl
      exact ⟨2 * miss bs.length l' + 1, by omega, l', true, rfl, rfl, ⟨by simp [e0], by simp [e3], by simp [e4], by simp [e5]⟩, hp.lin, (fun h => by cases h), by simp [e6], by simp [e8]⟩
    | false =>
      have := (hp.same rfl).1
      subst this
      exact ⟨2 * miss bs.length l', by omega, l', false, rfl, rfl, ⟨by simp [e0], by simp [e3], by simp [e4], by simp [e5]⟩, hp.lin, fun _ => hp.lin.closed hh fun b => fun hb => (hp.same rfl).2 b hb, by simp [e6], by simp [e8]⟩
  simp [e0, e9, blks, recs, hbb]
  refine PC_loop0 (NJ5 tb bs h l b hbb) ?_ (k := bs[b].next.length) ⟨0, l', ag, by simp, rfl, ⟨by simp [e0], by simp [e3], by simp [e4], by simp [e5]⟩, hp.begin, by simp [e6], by simp [e8], by simp [e9], by simp⟩
  have hbi : big bs[b].next.length := by have := hok.next _ (List.getElem_mem hbb); unfold big; omega
  clear e0 e3 e4 e5 e6 e8 e9 hp
  rintro m E L ⟨k, l', ag, hkm, rfl, ⟨e0, e3, e4, e5⟩, hp, e6, e8, e9, e10⟩
  by_cases hk : k < bs[b].next.length
  case neg =>
    simp [e0, e9, e10, blks, recs, hbb, cutB hbb, ints, hk, wrap_inc hbb hb]
    exact ⟨m2 - 1, by omega, b + 1, l', ag, by omega, rfl, ⟨by simp [e0], by simp [e3], by simp [e4], by simp [e5]⟩, hp.done hbb (by omega), by simp [e6], by simp [e8], by simp⟩
  have hrl := reachL_len (bs := bs) (no := -1)
  have hbr : b < (reachL bs (-1)).length := by omega
  have hll' := hp.lin.len hh
  have next : ∀ {E' : PEnv}, E'.get 0 = some (blks tb bs) → E'.get 3 = some (.slc 0 0 (loopsTo bs h).length (loopsTo bs h).length) → E'.get 4 = some (blist 4 (reachL bs (-1))) → E'.get 5 = some (pn h) → E'.get 6 = some (ints 3 l') → E'.get 8 = some (pbool ag) → E'.get 9 = some (pn b) → E'.get 10 = some (pn (k + 1)) →
      ((reachL bs (-1))[b]? = some true → bs[b].next[k] ≠ (h : Int) → bs[b].next[k] ∈ l' → (b : Int) ∈ l') → ∃ k', k' < m ∧ NJ5 tb bs h l b hbb k' E' (NL bs h) := fun a0 a3 a4 a5 a6 a8 a9 a10 hs =>
    ⟨m - 1, by omega, k + 1, l', ag, by omega, rfl, ⟨a0, a3, a4, a5⟩, hp.skip hbb hk hs, a6, a8, a9, a10⟩
  have hbl : blist 4 (reachL bs (-1)) = .fz 4 bs.length ((reachL bs (-1)).map pbool) := by rw [blist, hrl]
  have hcb : cut ((reachL bs (-1)).map pbool) b 1 = [pbool (reachL bs (-1))[b]] := cut1 hbr
  have hli' : ∀ x : Int, PPd (.fn 35 [] []) [ints 3 l', pin x] (pbool (decide (x ∈ l'))) := fun x => has_ok (by unfold big; omega)
  cases hr : (reachL bs (-1))[b] with
  | false =>
    simp [e0, e3, e4, e5, e6, e8, e9, e10, blks, recs, hbb, cutB hbb, ints, hk, cut1 hk, hbl, hcb, hr, wrap_inc hk hbi]
    exact next (by simp [e0]) (by simp [e3]) (by simp [e4]) (by simp [e5]) (by simp [e6]) (by simp [e8]) (by simp [e9]) (by simp) (fun h => by simp [hbr, hr] at h)
  | true =>
  have hrt : (reachL bs (-1))[b]? = some true := by simp [hbr, hr]
  by_cases hxh : bs[b].next[k] = (h : Int)
  case pos =>
    simp [e0, e3, e4, e5, e6, e8, e9, e10, blks, recs, hbb, cutB hbb, ints, hk, cut1 hk, hbl, hcb, hr, hxh, wrap_inc hk hbi]
    exact next (by simp [e0]) (by simp [e3]) (by simp [e4]) (by simp [e5]) (by simp [e6]) (by simp [e8]) (by simp [e9]) (by simp) (fun _ h => absurd hxh h)
  simp [e0, e3, e4, e5, e6, e8, e9, e10, blks, recs, hbb, cutB hbb, ints, hk, cut1 hk, hbl, hcb, hr, hxh]
  refine (hli' _).runk ?_
  by_cases hxl : bs[b].next[k] ∈ l'
  case neg =>
    simp [e0, e3, e4, e5, e6, e8, e9, e10, hxl, wrap_inc hk hbi]
    exact next (by simp [e0]) (by simp [e3]) (by simp [e4]) (by simp [e5]) (by simp [e6]) (by simp [e8]) (by simp [e9]) (by simp) (fun _ _ h => absurd h hxl)
  simp [e0, e3, e4, e5, e6, e8, e9, e10, hxl]
  refine (hli' _).runk ?_
  by_cases hbl' : (b : Int) ∈ l'
  case pos =>
    simp [e0, e3, e4, e5, e6, e8, e9, e10, hbl', wrap_inc hk hbi]
    exact next (by simp [e0]) (by simp [e3]) (by simp [e4]) (by simp [e5]) (by simp [e6]) (by simp [e8]) (by simp [e9]) (by simp) (fun _ _ _ => hbl')
  simp [e0, e3, e4, e5, e6, e8, e9, e10, hbl']
  refine (put_ok (l := l') (n := (b : Int)) (by omega)).runk ?_
  simp [e0, e3, e4, e5, e6, e8, e9, e10, wrap_inc hk hbi]
  exact ⟨m - 1, by omega, k + 1, putL l' b, true, by omega, rfl, ⟨by simp [e0], by simp [e3], by simp [e4], by simp [e5]⟩, hp.add hbb hk hrt hxh hxl hbl', by simp, by simp, by simp [e9], by simp⟩
end Go.Den
/- The law: dominators of the program and of the reference agree. -/
namespace Go.Den
open Classical in
theorem reachL_getD {bs : List Blk} {no : Int} {i : Nat} : (reachL bs no).getD i false = decide (Reach bs no i) := by
  by_cases h : i < bs.length
  · simp [reachL, List.getD_eq_getElem?_getD, h]
  · have : ¬ Reach bs no i := fun hr => h hr.lt
    rw [List.getD_eq_getElem?_getD, List.getElem?_eq_none (by rw [reachL_len]; omega)]
    simp [this]
theorem Reach.ne {bs : List Blk} {no : Int} {i : Nat} (h : Reach bs no i) : (i : Int) ≠ no := by
  cases h with
  | zero _ h => exact fun e => h (by simpa using e.symm)
  | step _ h hn => have := succs_mem h; omega
theorem Reach.avoid {bs : List Blk} {d i : Nat} (hd : ¬ Reach bs (-1) d) (h : Reach bs (-1) i) : Reach bs d i := by
  induction h with
  | zero h1 h2 => exact .zero h1 (fun e => hd (by
      have : d = 0 := by omega
      subst this; exact .zero h1 h2))
  | @step i x r hx hn ih => exact .step ih hx fun e => hd (by
      have := Reach.step r hx hn
      rwa [e, Int.toNat_natCast] at this)
theorem domP_eq {bs : List Blk} {d b : Nat} : domP bs d b = domB bs d b := by
  unfold domP domB
  rw [reachL_getD, reachL_getD, reachL_getD]
  by_cases hb : Reach bs (-1) b
  case neg => simp [hb]
  by_cases hdb : d = b
  · subst hdb
    have : ¬ Reach bs d d := fun h => h.ne rfl
    simp [hb, this]
  by_cases hd : Reach bs (-1) d
  · simp [hb, hd, hdb]
  · have := hb.avoid hd
    simp [hb, hd, hdb, this]
theorem domP_fun (bs : List Blk) : domP bs = domB bs := funext fun _ => funext fun _ => domP_eq
theorem foldl_skip {D : Nat → Nat → Bool} {b : Nat} : ∀ {l : List Nat} {x : Int}, (∀ d ∈ l, d ≠ b → D d b = false) → l.foldl (idomStep D b) x = x := by
  intro l
  induction l with
  | nil => intro x _; rfl
  | cons a l ih =>
    intro x h
    rw [List.foldl_cons]
    have : idomStep D b x a = x := by
      unfold idomStep
      rw [if_neg]
      rintro ⟨h1, h2, _⟩
      rw [h a (by simp) h1] at h2; cases h2
    rw [this]
    exact ih fun d hd => h d (List.mem_cons_of_mem _ hd)
theorem doms_eq {bs : List Blk} : doms bs = domsR bs := by
  unfold doms domsR
  refine List.map_congr_left fun b hb => ?_
  unfold idomR
  rw [domP_fun]
  split
  · rename_i h0
    subst h0
    unfold idomTo
    refine foldl_skip fun d _ hd => ?_
    unfold domB
    rw [reachL_getD, reachL_getD]
    by_cases hr : Reach bs (-1) 0
    · have hne : bs ≠ [] := List.length_pos_iff.1 (Nat.lt_of_le_of_lt (Nat.zero_le _) hr.lt)
      have : Reach bs d 0 := .zero hne (by omega)
      simp [hd, this]
    · simp [hr]
  · rfl
end Go.Den
/- The seat's functions, part P: the predecessors' lists of the program's Loops. -/
namespace Go.Den
open IrD
attribute [local irreducible] T.get T.set
inductive CellIs (L : List LObj) (av : List Nat) : PV → List Nat → Prop
  | nil : CellIs L av nilS []
  | slc {k : Nat} {l : List Nat} : L[k]? = some (.row 3 (l.map pn)) → k ∉ av → CellIs L av (.slc k 0 l.length l.length) l
def Dist (cells : List PV) : Prop := ∀ (i j k a b c a' b' c' : Nat), cells[i]? = some (.slc k a b c) → cells[j]? = some (.slc k a' b' c') → i = j
structure Ahead (n : Nat) (L : List LObj) (cells : List PV) (rows : Nat → List Nat) (av : List Nat) : Prop where
  box : L[1]? = some (.row 55 [.slc 0 0 n n])
  row : L[0]? = some (.row 24 cells)
  len : cells.length = n
  cell : ∀ (to : Nat) (p : PV), cells[to]? = some p → CellIs L av p (rows to)
  dist : Dist cells
theorem Ahead.mono {n : Nat} {L L' : List LObj} {cells : List PV} {rows : Nat → List Nat} {av av' : List Nat} (h : Ahead n L cells rows av) (hL : ∀ j, j < L.length → j ∉ av → L'[j]? = L[j]?) (h0 : 0 ∉ av) (h1 : 1 ∉ av) (hav : ∀ j, j < L.length → j ∉ av → j ∉ av') : Ahead n L' cells rows av' := by
  have l0 := (List.getElem?_eq_some_iff.1 h.row).1
  have l1 := (List.getElem?_eq_some_iff.1 h.box).1
  refine ⟨by rw [hL 1 l1 h1]; exact h.box, by rw [hL 0 l0 h0]; exact h.row, h.len, fun to p hp => ?_, h.dist⟩
  generalize hr : rows to = r
  have hc := h.cell to p hp
  rw [hr] at hc
  cases hc with
  | nil => exact .nil
  | slc hk hn =>
    have hl := (List.getElem?_eq_some_iff.1 hk).1
    exact .slc (by rw [hL _ hl hn]; exact hk) (hav _ hl hn)
theorem Ahead.put {n : Nat} {L L' : List LObj} {cells : List PV} {rows : Nat → List Nat} {av : List Nat} (h : Ahead n L cells rows av) {to k' : Nat} {l' : List Nat} (hto : to < n)
    (h1 : L'[1]? = L[1]?) (h0 : L'[0]? = some (.row 24 (cells.set to (.slc k' 0 l'.length l'.length)))) (hk : L'[k']? = some (.row 3 (l'.map pn))) (hk' : L.length ≤ k') (hav : k' ∉ av)
    (ho : ∀ j, j < L.length → j ≠ 0 → (∀ a b c, cells[to]? ≠ some (.slc j a b c)) → L'[j]? = L[j]?) :
    Ahead n L' (cells.set to (.slc k' 0 l'.length l'.length)) (fun t => if t = to then l' else rows t) av := by
  refine ⟨h1.trans h.box, h0, by rw [List.length_set, h.len], fun t p hp => ?_, ?_⟩
  · by_cases ht : t = to
    · subst ht
      rw [List.getElem?_set_self (by rw [h.len]; exact hto)] at hp
      cases hp
      simp only [if_true]
      exact .slc hk hav
    · rw [List.getElem?_set_ne (fun e => ht e.symm)] at hp
      simp only [ht, if_false]
      generalize hr : rows t = r
      have hc := h.cell t p hp
      rw [hr] at hc
      cases hc with
      | nil => exact .nil
      | @slc k _ hk2 hn =>
        refine .slc ?_ hn
        rw [ho k (List.getElem?_eq_some_iff.1 hk2).1 ?_ ?_]
        · exact hk2
        · rintro rfl; rw [h.row] at hk2; cases hk2
        · exact fun a b c hc => ht (h.dist _ _ _ _ _ _ _ _ _ hp hc)
  · have key : ∀ (i k a b c : Nat), i ≠ to → cells[i]? = some (.slc k a b c) → k < L.length := fun i k a b c hi hp => by
      have hc := h.cell i _ hp
      generalize rows i = r at hc
      cases hc with
      | slc hk2 hn => exact (List.getElem?_eq_some_iff.1 hk2).1
    intro i j k a b c a' b' c' hi hj
    have tl : to < cells.length := by rw [h.len]; exact hto
    by_cases ei : i = to
    · by_cases ej : j = to
      · exact ei.trans ej.symm
      · subst ei
        rw [List.getElem?_set_self tl] at hi
        rw [List.getElem?_set_ne (fun e => ej e.symm)] at hj
        cases hi
        have := key j _ _ _ _ ej hj
        omega
    · rw [List.getElem?_set_ne (fun e => ei e.symm)] at hi
      by_cases ej : j = to
      · subst ej
        rw [List.getElem?_set_self tl] at hj
        cases hj
        have := key i _ _ _ _ ei hi
        omega
      · rw [List.getElem?_set_ne (fun e => ej e.symm)] at hj
        exact h.dist _ _ _ _ _ _ _ _ _ hi hj

/-- predecessors that stand below b, or at b among its first i -/
structure PredOk (bs : List Blk) (b i : Nat) (rows : Nat → List Nat) : Prop where
  mem : ∀ to, to < bs.length → ∀ x, x ∈ rows to ↔ (∃ h : x < bs.length, x < b ∧ (to : Int) ∈ bs[x].next) ∨ (∃ h : x < bs.length, x = b ∧ (to : Int) ∈ bs[x].next.take i)
  len : ∀ to, (rows to).length ≤ b * 1000 + i
theorem PredOk.zero {bs : List Blk} : PredOk bs 0 0 (fun _ => []) := ⟨fun to ht x => by simp, fun _ => by simp⟩
theorem PredOk.next {bs : List Blk} {b : Nat} {rows : Nat → List Nat} (hok : OkG bs) (hb : b < bs.length) (h : PredOk bs b (bs[b].next.length) rows) : PredOk bs (b + 1) 0 rows := by
  refine ⟨fun to ht x => ?_, fun to => ?_⟩
  · rw [h.mem to ht]
    simp only [List.take_zero, List.not_mem_nil, and_false, exists_false, or_false]
    constructor
    · rintro (⟨h1, h2, h3⟩ | ⟨h1, rfl, h3⟩)
      · exact ⟨h1, by omega, h3⟩
      · exact ⟨h1, by omega, List.mem_of_mem_take h3⟩
    · rintro ⟨h1, h2, h3⟩
      by_cases e : x = b
      · subst e; exact .inr ⟨h1, rfl, by rw [List.take_length]; exact h3⟩
      · exact .inl ⟨h1, by omega, h3⟩
  · have h1 := h.len to
    have h2 := hok.next _ (List.getElem_mem hb)
    rw [Nat.succ_mul]
    clear h hok
    generalize b * 1000 = z at h1 ⊢
    generalize (1000 : Nat) = w at h2 ⊢
    omega
theorem PredOk.skip {bs : List Blk} {b i : Nat} {rows : Nat → List Nat} (hb : b < bs.length) (hi : i < bs[b].next.length) (h : PredOk bs b i rows) (hs : inG bs.length bs[b].next[i] = false) : PredOk bs b (i + 1) rows := by
  refine ⟨fun to ht x => ?_, fun to => by have := h.len to; omega⟩
  rw [h.mem to ht]
  refine or_congr Iff.rfl (exists_congr fun hx => and_congr_right fun e => ?_)
  subst e
  rw [List.take_succ_eq_append_getElem hi, List.mem_append]
  refine ⟨.inl, fun h => h.elim id fun h => ?_⟩
  simp at h
  rw [← h] at hs
  simp [inG, ht] at hs
theorem PredOk.add {bs : List Blk} {b i to : Nat} {rows : Nat → List Nat} (hb : b < bs.length) (hi : i < bs[b].next.length) (h : PredOk bs b i rows) (ht : bs[b].next[i] = (to : Int)) : PredOk bs b (i + 1) (fun t => if t = to then rows to ++ [b] else rows t) := by
  refine ⟨fun t htl x => ?_, fun t => ?_⟩
  · have e : ∀ hx : x < bs.length, (x = b ∧ (t : Int) ∈ bs[x].next.take (i + 1)) ↔ (x = b ∧ (t : Int) ∈ bs[x].next.take i) ∨ (x = b ∧ t = to) := fun hx => by
      constructor
      · rintro ⟨rfl, h'⟩
        rw [List.take_succ_eq_append_getElem hi, List.mem_append] at h'
        rcases h' with h' | h'
        · exact .inl ⟨rfl, h'⟩
        · simp only [List.mem_singleton] at h'; rw [ht] at h'; exact .inr ⟨rfl, by omega⟩
      · rintro (⟨rfl, h'⟩ | ⟨rfl, rfl⟩)
        · exact ⟨rfl, by rw [List.take_succ_eq_append_getElem hi]; exact List.mem_append_left _ h'⟩
        · exact ⟨rfl, by rw [List.take_succ_eq_append_getElem hi]; exact List.mem_append_right _ (by simp [ht])⟩
    have hm := h.mem t htl x
    by_cases h1 : t = to
    · subst h1
      simp only [if_true, List.mem_append, List.mem_singleton, hm]
      constructor
      · rintro ((h | ⟨hx, h⟩) | rfl)
        · exact .inl h
        · exact .inr ⟨hx, (e hx).2 (.inl h)⟩
        · exact .inr ⟨hb, (e hb).2 (.inr ⟨rfl, rfl⟩)⟩
      · rintro (h | ⟨hx, h⟩)
        · exact .inl (.inl h)
        · rcases (e hx).1 h with h | ⟨h, _⟩
          · exact .inl (.inr ⟨hx, h⟩)
          · exact .inr h
    · simp only [h1, if_false, hm]
      refine or_congr Iff.rfl (exists_congr fun hx => ?_)
      rw [e hx]; simp [h1]
  · have := h.len t
    have := h.len to
    by_cases h1 : t = to
    · subst h1; simp only [if_true, List.length_append, List.length_singleton]; omega
    · simp only [h1, if_false]; omega
end Go.Den
/- The seat's functions, part Q: the program's Loops, its first loop. -/
namespace Go.Den
open IrD
attribute [local irreducible] T.get T.set
abbrev aBody : ICode := (.block 3
              (.draw [⟨(some 33), none, .load none (t 5)⟩,
                ⟨(some 34), none, .mov (t 7)⟩,
                ⟨(some 35), none, .load none (t 5)⟩,
                ⟨(some 36), none, .mov (t 7)⟩,
                ⟨(some 37), none, .indexAddr 1 (t 35) (t 36)⟩,
                ⟨(some 38), none, .load none (t 37)⟩,
                ⟨(some 39), none, .load none (t 6)⟩,
                ⟨(some 40), none, .buildSlice 3 1 [(I 0)] [(0, 1, (t 39))]⟩,
                ⟨(some 41), none, .append 3 1 8 (t 38) (t 40)⟩]
                [⟨(some 42), none, .indexAddr 1 (t 33) (t 34)⟩,
                ⟨none, none, .store 1 (t 42) (t 41)⟩]))
abbrev aAs : ICode := (.ops [⟨(some 7), none, .mov (t 32)⟩])
def AhJ (bs : List Blk) (tb : TypeId) (b p : Nat) (E0 : PEnv) (i : Nat) (L : List LObj) : Prop :=
  ∃ cells rows, PredOk bs b i rows ∧ Ahead bs.length L cells rows [p, p + 1, p + 2, p + 3] ∧ L[p]? = some (.row 3 [pn b]) ∧ L[p + 1]? = some (.row 29 [blks tb bs]) ∧ L[p + 2]? = some (.row 3 [pn b]) ∧ L[p + 3]? = some (.loop E0 [32] aAs aBody 0 none)

theorem pn_wf {l : List Nat} : noIdL (l.map pn) = true := by simp [noIdL_iff]
theorem AhJ.fin {bs : List Blk} {tb : TypeId} {b p i x : Nat} {E0 : PEnv} {L L' : List LObj} {cells : List PV} {rows : Nat → List Nat} (hp : 2 ≤ p) (hx : x < bs.length) (hadd : PredOk bs b (i + 1) (fun t => if t = x then rows x ++ [b] else rows t)) (ha : Ahead bs.length L cells rows [p, p + 1, p + 2, p + 3])
    (g0 : L[p]? = some (.row 3 [pn b])) (g1 : L[p + 1]? = some (.row 29 [blks tb bs])) (g2 : L[p + 2]? = some (.row 3 [pn b])) (g3 : L[p + 3]? = some (.loop E0 [32] aAs aBody 0 none)) (kk : Nat → Prop) (hkk : ∀ j, kk j → j ∉ [p, p + 1, p + 2, p + 3]) (hk2 : ∀ j, kk j → (∃ a b c, cells[x]? = some (.slc j a b c))) (hk1 : ¬ kk 1)
    (f1 : ∀ j, j < L.length → j ≠ 0 → ¬ kk j → L'[j]? = L[j]?) (f2 : L'[0]? = some (.row 24 (cells.set x (.slc (L.length + 1) 0 ((rows x).length + 1) ((rows x).length + 1))))) (f3 : L'[L.length + 1]? = some (.row 3 ((rows x ++ [b]).map pn))) :
    AhJ bs tb b p E0 (i + 1) L' := by
  have l3 : p + 3 < L.length := (List.getElem?_eq_some_iff.1 g3).1
  refine ⟨_, _, hadd, ha.put (L' := L') (k' := L.length + 1) (l' := rows x ++ [b]) hx ?_ ?_ f3 (by omega) ?_ ?_, ?_, ?_, ?_, ?_⟩
  · exact f1 1 (by omega) (by omega) hk1
  · rw [f2]; simp
  · simp; omega
  · intro j hj h0 hne
    exact f1 j hj h0 fun hkj => by obtain ⟨a, b, c, h⟩ := hk2 j hkj; exact hne a b c h
  · rw [f1 p (by omega) (by omega) fun h => hkk _ h (by simp)]; exact g0
  · rw [f1 (p + 1) (by omega) (by omega) fun h => hkk _ h (by simp)]; exact g1
  · rw [f1 (p + 2) (by omega) (by omega) fun h => hkk _ h (by simp)]; exact g2
  · rw [f1 (p + 3) (by omega) (by omega) fun h => hkk _ h (by simp)]; exact g3
set_option linter.unusedSimpArgs false in
set_option maxRecDepth 8000 in
set_option maxHeartbeats 4000000 in
theorem a_yield {bs : List Blk} {tb : TypeId} {b p i : Nat} {E0 : PEnv} {L : List LObj} (hok : OkG bs) (hp : 2 ≤ p) (hb : b < bs.length) (hi : i < bs[b].next.length) (hJ : AhJ bs tb b p E0 i L) (hin : inG bs.length bs[b].next[i] = true)
    (e5 : E0.get 5 = some (.ptr 1 0)) (e6 : E0.get 6 = some (.ptr p 0)) :
    PF FD XA XN false (.yl (p + 3)) [pin bs[b].next[i]] L (fun v L' => v = pbool true ∧ AhJ bs tb b p E0 (i + 1) L') := by
  obtain ⟨cells, rows, hpr, ha, g0, g1, g2, g3⟩ := hJ
  have hin' := hin
  simp only [inG, Bool.and_eq_true, decide_eq_true_eq] at hin'
  obtain ⟨x, hx⟩ : ∃ x : Nat, bs[b].next[i] = (x : Int) := ⟨bs[b].next[i].toNat, by omega⟩
  have hxl : x < bs.length := by omega
  have hxc : x < cells.length := by rw [ha.len]; exact hxl
  have hadd := hpr.add hb hi hx
  refine PF_yield1 (E1 := E0.set 32 (pin bs[b].next[i])) (by simpa using g3) (by simp) ?_
  have b1 := ha.box
  have b0 := ha.row
  have hl := hok.len
  have hln := hok.next _ (List.getElem_mem hb)
  have hrl := hpr.len x
  have rr : roomy ((rows x).length + 1) 8 := roomy_of (by omega) (by omega)
  have rr1 : roomy 1 8 := roomy_of (by omega) (by omega)
  obtain ⟨q, hq⟩ : ∃ q, cells[x]? = some q := ⟨_, List.getElem?_eq_getElem hxc⟩
  have hq' : cells[x] = q := (List.getElem?_eq_some_iff.1 hq).2
  have hc := ha.cell x q hq
  have l3 : p + 3 < L.length := (List.getElem?_eq_some_iff.1 g3).1
  have p3 : ∀ (X : LObj) (Y : List LObj) (j : Nat), j < L.length → j ≠ p + 3 → (L.set (p + 3) X ++ Y)[j]? = L[j]? := fun X Y j hj hne => by
    rw [List.getElem?_append_left (by simpa using hj), List.getElem?_set_ne (fun e => hne e.symm)]
  have k0 : ∀ (X : LObj) (Y : List LObj) (h : 0 < (L.set (p + 3) X ++ Y).length), (L.set (p + 3) X ++ Y)[0]'h = .row 24 cells := fun X Y h => by
    have := p3 X Y 0 (by omega) (by omega)
    rw [b0, List.getElem?_eq_getElem h] at this
    exact Option.some.inj this
  generalize hrx : rows x = r at hc
  rw [hrx] at rr
  cases hc with
  | nil =>
    simp [e5, e6, hx, g3, b1, b0, g0, hxl, hxc, cut1 hxc, hq', rr1, k0]
    refine ⟨?_, AhJ.fin hp hxl hadd ha g0 g1 g2 g3 (fun _ => False) (fun j h => h.elim) (fun j h => h.elim) id ?_ ?_ ?_⟩
    · rw [List.getElem?_append_left (by simpa using l3), List.getElem?_set_self l3]
    · intro j hj h0 _
      by_cases hj3 : j = p + 3
      · subst hj3
        rw [List.getElem?_set_self (by simp; omega)]; exact g3.symm
      · rw [List.getElem?_set_ne (fun e => hj3 e.symm), List.getElem?_set_ne (fun e => h0 e.symm), p3 _ _ j hj hj3]
    · rw [List.getElem?_set_ne (by omega), List.getElem?_set_self (by simp), hrx]; rfl
    · rw [List.getElem?_set_ne (by omega), List.getElem?_set_ne (by omega), List.getElem?_append_right (by simp), hrx]; simp
  | @slc k _ hk hkn =>
    have hkl : k < L.length := (List.getElem?_eq_some_iff.1 hk).1
    have hk3 : k ≠ p + 3 := fun e => hkn (by simp [e])
    have hk0 : k ≠ 0 := fun e => by rw [e, b0] at hk; cases hk
    have k1 : ∀ (X : LObj) (Y : List LObj), (L.set (p + 3) X ++ Y)[k]? = some (.row 3 (r.map pn)) := fun X Y => by
      rw [p3 X Y k hkl hk3]; exact hk
    have k2 : ∀ (X Z : LObj) (Y W : List LObj) (h : 0 < ((L.set (p + 3) X ++ Y).set k Z ++ W).length), ((L.set (p + 3) X ++ Y).set k Z ++ W)[0]'h = .row 24 cells := fun X Z Y W h => by
      rw [List.getElem_append_left (by simp; omega), List.getElem_set_ne hk0]
      exact k0 X Y (by simp; omega)
    simp [e5, e6, hx, g3, b1, b0, g0, hxl, hxc, cut1 hxc, hq', rr, k1, k0, k2]
    refine ⟨?_, AhJ.fin hp hxl hadd ha g0 g1 g2 g3 (fun j => j = k) (fun j h => h ▸ hkn) (fun j h => ⟨_, _, _, h ▸ hq⟩) (fun e => by rw [← e, b1] at hk; cases hk) ?_ ?_ ?_⟩
    · rw [List.getElem?_append_left (by simp; omega), List.getElem?_set_ne (by omega), List.getElem?_set_ne hk3, List.getElem?_append_left (by simpa using l3), List.getElem?_set_self l3]
    · intro j hj h0 hjk
      by_cases hj3 : j = p + 3
      · subst hj3
        rw [List.getElem?_set_self (by simp; omega)]; exact g3.symm
      · rw [List.getElem?_set_ne (fun e => hj3 e.symm), List.getElem?_append_left (by simp; omega), List.getElem?_set_ne (fun e => h0 e.symm), List.getElem?_set_ne (fun e => hjk e.symm), p3 _ _ j hj hj3]
    · rw [List.getElem?_set_ne (by omega), List.getElem?_append_left (by simp), List.getElem?_set_self (by simp), hrx]
    · rw [List.getElem?_set_ne (by omega), List.getElem?_append_right (by simp), hrx]; simp
end Go.Den
/- The seat's functions, part R: the program's Loops, its first loop. -/
namespace Go.Den
open IrD
attribute [local irreducible] T.get T.set
theorem a_range {bs : List Blk} {tb : TypeId} {b : Nat} {E0 : PEnv} {L : List LObj} {cells : List PV} {rows : Nat → List Nat} {Q : Ex → PEnv → List LObj → Prop} (hok : OkG bs) (hb : b < bs.length) (hp : 2 ≤ L.length)
    (ha : Ahead bs.length L cells rows []) (hpr : PredOk bs b 0 rows) (e5 : E0.get 5 = some (.ptr 1 0)) (e6 : E0.get 6 = some (.ptr L.length 0)) (e31 : E0.get 31 = some (.fn 61 [] [.ptr (L.length + 1) 0, .ptr (L.length + 2) 0]))
    (hQ : ∀ cells' rows' L', PredOk bs (b + 1) 0 rows' → Ahead bs.length L' cells' rows' [] → 2 ≤ L'.length → Q .norm E0 L') :
    PC FD XA XN 0 (.rangeFunc (t 31) [32] aAs aBody) Q E0 (L ++ [.row 3 [pn b], .row 29 [blks tb bs], .row 3 [pn b]]) := by
  refine PC_rangeFunc (by simpa using e31) ?_
  refine PF.mono (following_run (t := tb) (kk := b) (J := AhJ bs tb b L.length E0) (K := AhJ bs tb b L.length E0 (bs[b].next.length)) hok hb ?_ ?_ ?_ ?_ ?_) ?_
  · rintro i L' ⟨cells, rows, hpr, ha, g0, g1, g2, g3⟩
    exact ⟨by simp [g1], by simp [g2]⟩
  · rintro i hi L' ⟨cells, rows, hpr, ha, g0, g1, g2, g3⟩ hin
    exact ⟨cells, rows, hpr.skip hb hi hin, ha, g0, g1, g2, g3⟩
  · intro i hi L' hJ hin
    have := a_yield hok hp hb hi hJ hin e5 e6
    simp only [List.length_append, List.length_cons, List.length_nil]
    exact this.mono fun v L' h => .inl h
  · exact fun L h => h
  · refine ⟨cells, rows, hpr, ha.mono (fun j hj _ => ?_) (by simp) (by simp) (fun j hj _ => by simp; omega), ?_, ?_, ?_, ?_⟩
    · rw [List.append_assoc, List.getElem?_append_left hj]
    · simp
    · simp
    · simp
    · simp
  · rintro v L' ⟨cells, rows, hpr, ha, g0, g1, g2, g3⟩
    refine ⟨E0, [32], aAs, aBody, 0, none, by simpa using g3, by simp, ?_⟩
    refine hQ cells rows _ (hpr.next hok hb) (ha.mono (fun j hj hn => ?_) (fun h => by simp only [List.mem_cons, List.not_mem_nil, or_false] at h; omega) (fun h => by simp only [List.mem_cons, List.not_mem_nil, or_false] at h; omega) (fun j hj _ => by simp)) (by have := (List.getElem?_eq_some_iff.1 g3).1; simp; omega)
    rw [List.getElem?_set_ne]
    rintro rfl
    simp at hn

structure AEnv (tb : TypeId) (bs : List Blk) (E : PEnv) : Prop where
  e0 : E.get 0 = some (blks tb bs)
  e3 : E.get 3 = some (blist 4 (reachL bs (-1)))
  e4 : E.get 4 = some (.fz 42 bs.length ((domRows bs).map (blist 4)))
def AJ1 (tb : TypeId) (bs : List Blk) (m : Nat) (E : PEnv) (L : List LObj) : Prop := ∃ b cells rows, b + m = bs.length ∧ PredOk bs b 0 rows ∧ Ahead bs.length L cells rows [] ∧ 2 ≤ L.length ∧ AEnv tb bs E ∧ E.get 5 = some (.ptr 1 0) ∧ E.get 25 = some (pin bs.length) ∧ E.get 26 = some (pn b)
/-- what the first loop leaves -/
structure Preds (bs : List Blk) (rows : Nat → List Nat) : Prop where
  mem : ∀ to, to < bs.length → ∀ x, x ∈ rows to ↔ ∃ h : x < bs.length, (to : Int) ∈ bs[x].next
  len : ∀ to, (rows to).length ≤ 1000000
theorem PredOk.all {bs : List Blk} {rows : Nat → List Nat} (hok : OkG bs) (h : PredOk bs bs.length 0 rows) : Preds bs rows := by
  refine ⟨fun to ht x => ?_, fun to => ?_⟩
  · rw [h.mem to ht]
    constructor
    · rintro (⟨h1, _, h2⟩ | ⟨h1, h2, _⟩)
      · exact ⟨h1, h2⟩
      · omega
    · rintro ⟨h1, h2⟩; exact .inl ⟨h1, h1, h2⟩
  · have h1 := h.len to
    have h2 := hok.len
    have : bs.length * 1000 ≤ 1000 * 1000 := Nat.mul_le_mul_right _ h2
    omega
def plist (t : TypeId) (l : List Nat) : PV := .fz t l.length (l.map pn)
def aheadV (n : Nat) (rows : Nat → List Nat) : PV := .fz 24 n ((List.range n).map fun to => plist 3 (rows to))
theorem Ahead.view {n : Nat} {L L' : List LObj} {cells : List PV} {rows : Nat → List Nat} {τ : List Nat} (h : Ahead n L cells rows []) (hτ : ∀ j o, L[j]? = some o → L'[j]? = some o ∧ j ∉ τ) : Vw τ L' (.ptr 1 0) (.fp [aheadV n rows]) := by
  obtain ⟨b1, t1⟩ := hτ _ _ h.box
  obtain ⟨b0, t0⟩ := hτ _ _ h.row
  refine .fzp (t := 55) (cs := [.slc 0 0 n n]) (cs'' := [.slc 0 0 n n]) t1 (by simp [prow, b1]) (by simp [allNl, nl]) (by simp) rfl rfl fun i h1 h2 => ?_
  have : i = 0 := by simpa using h1
  subst this
  have hn : allNl cells := by
    unfold allNl
    rw [List.all_eq_true]
    intro p hp
    obtain ⟨i, hi, e⟩ := List.getElem_of_mem hp
    have := h.cell i p (by rw [List.getElem?_eq_getElem hi, e])
    generalize rows i = r at this
    cases this <;> rfl
  refine .fzs (cs := cells) (cs'' := cells) t0 (by simp [prow, b0]) hn (by simp) (by simp) (by rw [h.len]; simp) fun i h1 h2 => ?_
  have hc := h.cell i cells[i] (List.getElem?_eq_getElem h1)
  simp only [List.getElem_map, List.getElem_range]
  generalize cells[i] = p at hc
  generalize rows i = r at hc
  cases hc with
  | nil => exact .nil
  | slc hk _ =>
    obtain ⟨b2, t2⟩ := hτ _ _ hk
    exact .fzs (cs := r.map pn) (cs'' := r.map pn) t2 (by simp [prow, b2]) (by simp [allNl, nl]) (by simp) (by rw [List.length_map, List.drop_zero, List.take_of_length_le (by simp)]) rfl fun i h1 h2 => .same (by simp)
end Go.Den
/- The law of the program's Loops. -/
namespace Go.Den
open IrD
def setM : List Nat → Nat → List (Value × PV × Nat)
  | [], _ => []
  | k :: ks, c => (.int .i64 k, pbool true, c) :: setM ks (c + 1)
theorem setM_snoc {ks : List Nat} {k : Nat} : ∀ {c : Nat}, setM (ks ++ [k]) c = setM ks c ++ [(.int .i64 k, pbool true, c + ks.length)] := by
  induction ks with
  | nil => intro c; simp [setM]
  | cons a ks ih => intro c; simp only [setM, List.cons_append, ih, List.length_cons]; rw [show c + 1 + ks.length = c + (ks.length + 1) by omega]
theorem setM_len {ks : List Nat} : ∀ {c : Nat}, (setM ks c).length = ks.length := by
  induction ks with
  | nil => intro c; rfl
  | cons a ks ih => intro c; simp [setM, ih]
theorem pfind_no {x : Nat} : ∀ {ks : List Nat} {c i : Nat}, x ∉ ks → pfind .int (.int .i64 x) (setM ks c) i = some none := by
  intro ks
  induction ks with
  | nil => intro c i _; rfl
  | cons a ks ih =>
    intro c i h
    simp only [List.mem_cons, not_or] at h
    have : ((x : Int) == (a : Int)) = false := by simp; have := h.1; omega
    simp only [setM, pfind_cons, keyEq, if_true, this]
    exact ih h.2
theorem pfind_yes {x : Nat} : ∀ {ks : List Nat} {c i : Nat}, x ∈ ks → ∃ j, pfind .int (.int .i64 x) (setM ks c) i = some (some (j, pbool true)) := by
  intro ks
  induction ks with
  | nil => intro c i h; simp at h
  | cons a ks ih =>
    intro c i h
    by_cases e : x = a
    · subst e
      exact ⟨i, by simp [setM, pfind_cons, keyEq]⟩
    · have : ((x : Int) == (a : Int)) = false := by simp; omega
      simp only [setM, pfind_cons, keyEq, if_true, this]
      exact ih (by simpa [e] using h)

structure LWalk (bs : List Blk) (rows : Nat → List Nat) (h : Nat) (ks st : List Nat) : Prop where
  hd : h ∈ ks
  nd : ks.Nodup
  lt : ∀ x ∈ ks, x < bs.length
  sound : ∀ x ∈ ks, InL bs h x
  stk : ∀ x ∈ st, x < bs.length ∧ (Reach bs (-1) x → InL bs h x)
  closed : ∀ x ∈ ks, x ≠ h → ∀ y ∈ rows x, Reach bs (-1) y → y ∈ ks ∨ y ∈ st
  src : ∀ y, y < bs.length → backB bs y h = true → y ∈ ks ∨ y ∈ st
  len : st.length ≤ ks.length * 1000000
theorem nodup_len {n : Nat} {l : List Nat} (h : l.Nodup) (hb : ∀ x ∈ l, x < n) : l.length ≤ n := by
  induction n generalizing l with
  | zero => cases l with
    | nil => simp
    | cons a l => exact absurd (hb a (by simp)) (by omega)
  | succ n ih =>
    have := ih (l := l.erase n) (h.erase n) fun x hx => by
      have h1 := hb x (List.mem_of_mem_erase hx)
      have h2 : x ≠ n := fun e => by subst e; exact h.not_mem_erase hx
      omega
    have h3 : l.length ≤ (l.erase n).length + 1 := by rw [List.length_erase]; split <;> omega
    omega
theorem backB_reach {bs : List Blk} {y h : Nat} (hb : backB bs y h = true) : Reach bs (-1) y := by
  unfold backB domB at hb
  simp only [Bool.and_eq_true] at hb
  have := hb.2.1
  rw [reachL_getD] at this
  simpa using this
theorem LWalk.klen {bs : List Blk} {rows : Nat → List Nat} {h : Nat} {ks st : List Nat} (hw : LWalk bs rows h ks st) : ks.length ≤ bs.length := nodup_len hw.nd hw.lt
theorem LWalk.skip {bs : List Blk} {rows : Nat → List Nat} {h x : Nat} {ks st : List Nat} (hw : LWalk bs rows h ks (st ++ [x])) (hx : x ∈ ks ∨ ¬ Reach bs (-1) x) : LWalk bs rows h ks st := by
  refine ⟨hw.hd, hw.nd, hw.lt, hw.sound, fun y hy => hw.stk y (List.mem_append_left _ hy), fun z hz hzh y hy hr => ?_, fun y hy hb => ?_, ?_⟩
  · rcases hw.closed z hz hzh y hy hr with h1 | h1
    · exact .inl h1
    · rcases List.mem_append.1 h1 with h2 | h2
      · exact .inr h2
      · have : y = x := by simpa using h2
        subst this
        rcases hx with h3 | h3
        · exact .inl h3
        · exact absurd hr h3
  · rcases hw.src y hy hb with h1 | h1
    · exact .inl h1
    · rcases List.mem_append.1 h1 with h2 | h2
      · exact .inr h2
      · have : y = x := by simpa using h2
        subst this
        rcases hx with h3 | h3
        · exact .inl h3
        · exact absurd (backB_reach hb) h3
  · have := hw.len
    simp only [List.length_append, List.length_singleton] at this
    omega
theorem LWalk.mark {bs : List Blk} {rows : Nat → List Nat} {h x : Nat} {ks st : List Nat} (hP : Preds bs rows) (hw : LWalk bs rows h ks (st ++ [x])) (hx : x ∉ ks) (hr : Reach bs (-1) x) : LWalk bs rows h (ks ++ [x]) (st ++ rows x) := by
  have hxi := (hw.stk x (by simp)).2 hr
  have hxh : x ≠ h := fun e => hx (e ▸ hw.hd)
  refine ⟨by simp [hw.hd], ?_, fun y hy => ?_, fun y hy => ?_, fun y hy => ?_, fun z hz hzh y hy hry => ?_, fun y hy hb => ?_, ?_⟩
  · rw [List.nodup_append]
    exact ⟨hw.nd, by simp, fun a ha b hb => by simp at hb; subst hb; exact fun e => hx (e ▸ ha)⟩
  · rcases List.mem_append.1 hy with h1 | h1
    · exact hw.lt y h1
    · simp at h1; subst h1; exact hr.lt
  · rcases List.mem_append.1 hy with h1 | h1
    · exact hw.sound y h1
    · simp at h1; subst h1; exact hxi
  · rcases List.mem_append.1 hy with h1 | h1
    · exact hw.stk y (List.mem_append_left _ h1)
    · obtain ⟨h2, h3⟩ := (hP.mem x hr.lt y).1 h1
      exact ⟨h2, fun hry => .step hxi hxh h2 ((reachL_get h2).2 hry) h3⟩
  · rcases List.mem_append.1 hz with h1 | h1
    · rcases hw.closed z h1 hzh y hy hry with h2 | h2
      · exact .inl (List.mem_append_left _ h2)
      · rcases List.mem_append.1 h2 with h3 | h3
        · exact .inr (List.mem_append_left _ h3)
        · exact .inl (List.mem_append_right _ h3)
    · simp at h1; subst h1
      exact .inr (List.mem_append_right _ hy)
  · rcases hw.src y hy hb with h2 | h2
    · exact .inl (List.mem_append_left _ h2)
    · rcases List.mem_append.1 h2 with h3 | h3
      · exact .inr (List.mem_append_left _ h3)
      · exact .inl (List.mem_append_right _ h3)
  · have h1 := hw.len
    have h2 := hP.len x
    simp only [List.length_append, List.length_singleton] at h1 ⊢
    rw [Nat.succ_mul]
    generalize ks.length * 1000000 = z at h1 ⊢
    omega
theorem LWalk.done {bs : List Blk} {rows : Nat → List Nat} {h : Nat} {ks : List Nat} (hP : Preds bs rows) (hw : LWalk bs rows h ks []) {k : Nat} : k ∈ ks ↔ InL bs h k := by
  refine ⟨hw.sound k, fun hk => ?_⟩
  induction hk with
  | src hb hk => exact (hw.src _ hb hk).elim id fun h => by simp at h
  | head => exact hw.hd
  | @step b x hx hxh hb hr hm ih =>
    have := (hP.mem x (hw.lt x ih) b).2 ⟨hb, hm⟩
    exact (hw.closed x ih hxh b this ((reachL_get hb).1 hr)).elim id fun h => by simp at h
/-- the sources among the first i of the predecessors -/
noncomputable def srcsTo (bs : List Blk) (rows : Nat → List Nat) (h i : Nat) : List Nat := ((rows h).take i).filter fun x => domB bs h x
theorem srcs_mem {bs : List Blk} {rows : Nat → List Nat} {h : Nat} (hP : Preds bs rows) (hh : h < bs.length) {x : Nat} : x ∈ srcsTo bs rows h (rows h).length ↔ x < bs.length ∧ backB bs x h = true := by
  unfold srcsTo backB
  rw [List.take_length, List.mem_filter, hP.mem h hh]
  constructor
  · rintro ⟨⟨h1, h2⟩, h3⟩
    exact ⟨h1, by simp [h1, h2, h3]⟩
  · rintro ⟨h1, h2⟩
    simp [h1] at h2
    exact ⟨⟨h1, h2.1⟩, h2.2⟩
theorem LWalk.start {bs : List Blk} {rows : Nat → List Nat} {h : Nat} (hP : Preds bs rows) (hh : h < bs.length) : LWalk bs rows h [h] (srcsTo bs rows h (rows h).length) := by
  refine ⟨by simp, by simp, by simpa using hh, fun x hx => ?_, fun x hx => ?_, fun x hx hxh => ?_, fun y hy hb => .inr ((srcs_mem hP hh).2 ⟨hy, hb⟩), ?_⟩
  · simp at hx; subst hx; exact .head
  · obtain ⟨h1, h2⟩ := (srcs_mem hP hh).1 hx
    exact ⟨h1, fun _ => .src h1 h2⟩
  · simp at hx; exact absurd hx hxh
  · have h1 := hP.len h
    have : (srcsTo bs rows h (rows h).length).length ≤ (rows h).length := by
      unfold srcsTo
      exact Nat.le_trans (List.length_filter_le _ _) (by rw [List.take_length]; exact Nat.le_refl _)
    simp only [List.length_singleton, Nat.one_mul]
    omega
theorem hasLoop_srcs {bs : List Blk} {rows : Nat → List Nat} {h : Nat} (hP : Preds bs rows) (hh : h < bs.length) : hasLoop bs h ↔ srcsTo bs rows h (rows h).length ≠ [] := by
  constructor
  · rintro ⟨b, hb, hk⟩ e
    have := (srcs_mem hP hh).2 ⟨hb, hk⟩
    rw [e] at this; simp at this
  · intro hn
    obtain ⟨x, hx⟩ := List.exists_mem_of_ne_nil _ hn
    obtain ⟨h1, h2⟩ := (srcs_mem hP hh).1 hx
    exact ⟨x, h1, h2⟩
theorem loopL_ks {bs : List Blk} {h : Nat} {ks : List Nat} (hk : ∀ k, k ∈ ks ↔ InL bs h k) : loopL bs h = ((List.range bs.length).filter fun k => decide (k ∈ ks)).map fun (k : Nat) => (k : Int) := by
  unfold loopL
  congr 1
  refine List.filter_congr fun k _ => ?_
  by_cases h : k ∈ ks
  · simp [h, (hk k).1 h]
  · have : ¬ InL bs _ k := fun hi => h ((hk k).2 hi)
    simp [h, this]
end Go.Den
/- The seat's functions, part T: the program's Loops. -/
namespace Go.Den
open IrD
attribute [local irreducible] T.get T.set
@[simp] theorem PIk_makeMap {F : FuncId → Option IFunc} {X0 X : Ext} {l : List Ins} {R : PEnv → List LObj → Prop} {d : Option Nat} {E : PEnv} {L : List LObj} : PIk F X0 X .makeMap l R d E L = pKk F X0 X l R d E (pev E L .makeMap) := nrfl rfl
theorem envG_nil {j : Nat} : (envOf []).get j = none := T.get_leaf j
theorem envG_cons {k j : Nat} {v : PV} {l : List (Nat × PV)} : (envOf ((k, v) :: l)).get j = if j = k then some v else (envOf l).get j := by
  rw [show envOf ((k, v) :: l) = (envOf l).set k v from rfl, T.get_set]
structure TEnv (tb : TypeId) (bs : List Blk) (rows : Nat → List Nat) (h : Nat) (E : PEnv) : Prop extends AEnv tb bs E where
  e5 : E.get 5 = some (.fp [aheadV bs.length rows])
  e8 : E.get 8 = some (.slc 0 0 (loopsTo bs h).length (loopsTo bs h).length)
  e45 : E.get 45 = some (pin bs.length)
  e46 : E.get 46 = some (pn h)
noncomputable def TL (bs : List Blk) (h : Nat) : LObj := .row 37 ((loopsTo bs h).flatMap encL)
def TJ1 (tb : TypeId) (bs : List Blk) (rows : Nat → List Nat) (m : Nat) (E : PEnv) (L : List LObj) : Prop := ∃ h, h + m = bs.length ∧ L = [TL bs h] ∧ TEnv tb bs rows h E
def TJ2 (tb : TypeId) (bs : List Blk) (rows : Nat → List Nat) (h : Nat) (m : Nat) (E : PEnv) (L : List LObj) : Prop := ∃ i, i + m = (rows h).length ∧
  L = [TL bs h, .map [] 0, .row 3 ((srcsTo bs rows h i).map pn)] ∧ TEnv tb bs rows h E ∧ E.get 9 = some (pn h) ∧ E.get 10 = some (.mapr 1) ∧ E.get 11 = some (.slc 2 0 (srcsTo bs rows h i).length (srcsTo bs rows h i).length) ∧
  E.get 53 = some (plist 3 (rows h)) ∧ E.get 54 = some (pin (rows h).length) ∧ E.get 55 = some (pn i)
def TJ3 (tb : TypeId) (bs : List Blk) (rows : Nat → List Nat) (h : Nat) (m : Nat) (E : PEnv) (L : List LObj) : Prop := ∃ ks st junk, m = (bs.length - ks.length) * 1000001 + st.length ∧ LWalk bs rows h ks st ∧ noIdL junk = true ∧
  L = [TL bs h, .map (setM ks 0) ks.length, .row 3 (st.map pn ++ junk)] ∧ TEnv tb bs rows h E ∧ E.get 9 = some (pn h) ∧ E.get 10 = some (.mapr 1) ∧ E.get 11 = some (.slc 2 0 st.length (st.length + junk.length))
def kept (ks : List Nat) (i : Nat) : List Nat := (List.range i).filter fun k => decide (k ∈ ks)
def TJ4 (tb : TypeId) (bs : List Blk) (rows : Nat → List Nat) (h : Nat) (ks : List Nat) (m : Nat) (E : PEnv) (L : List LObj) : Prop := ∃ i, i + m = bs.length ∧
  L = [TL bs h, .map (setM ks 0) ks.length, .row 37 [pn h, .slc 3 0 (kept ks i).length (kept ks i).length], .row 3 ((kept ks i).map pn)] ∧ TEnv tb bs rows h E ∧ E.get 10 = some (.mapr 1) ∧ E.get 15 = some (.ptr 2 0) ∧
  E.get 117 = some (pin bs.length) ∧ E.get 118 = some (pn i)
theorem F2.app {α β : Type} {R : α → β → Prop} {as cs : List α} {bs ds : List β} (h : F2 R as bs) (h' : F2 R cs ds) : F2 R (as ++ cs) (bs ++ ds) := by
  induction h with
  | nil => exact h'
  | cons h _ ih => exact .cons h ih
theorem setM_view {τ : List Nat} {L : List LObj} : ∀ {ks : List Nat} {c : Nat}, F2 (fun a b => a.1 = b.1 ∧ a.2.2 = b.2.2 ∧ Vw τ L a.2.1 b.2.1) (setM ks c) (setM ks c)
  | [], _ => .nil
  | _ :: ks, c => .cons ⟨rfl, rfl, .same rfl⟩ (setM_view (ks := ks) (c := c + 1))
theorem noIdL_app {a b : List PV} (h : noIdL a = true) (h' : noIdL b = true) : noIdL (a ++ b) = true := by
  rw [noIdL_iff] at *
  intro p hp
  exact (List.mem_append.1 hp).elim (h p) (h' p)
theorem srcsTo_succ {bs : List Blk} {rows : Nat → List Nat} {h i : Nat} (hi : i < (rows h).length) : srcsTo bs rows h (i + 1) = srcsTo bs rows h i ++ (if domB bs h (rows h)[i] = true then [(rows h)[i]] else []) := by
  unfold srcsTo
  rw [List.take_succ_eq_append_getElem hi, List.filter_append, List.filter_cons]
  rfl
set_option linter.unusedSimpArgs false in
set_option maxRecDepth 8000 in
set_option maxHeartbeats 4000000 in
theorem loops_ok {tb : TypeId} {bs : List Blk} (hok : OkG bs) : PPd (.fn 9 [] []) [blks tb bs] (recs 37 encL (loopsTo bs bs.length)) := by
  have hl := hok.len
  have hb : big bs.length := by unfold big; omega
  have l1 : (bs.length : Int) ≤ 9223372036854775807 := by omega
  have l2 : (bs.length : Int) ≤ 281474976710656 := by omega
  have l3 : 24 * (bs.length : Int) ≤ 281474976710656 := by omega
  refine PP_code rfl rfl rfl (by simp) (by simp) (by simp [recs]) (PW_ok _ ?_)
  simp [ir9]
  refine (reached_ok hok).runk ?_
  simp
  refine (dominates_ok hok).runk ?_
  simp [blks, recs, l1, l2, l3, repl_rep]
  refine PC_loop0 (AJ1 tb bs) ?_ (k := bs.length) ?_
  rotate_left
  · refine ⟨0, List.replicate bs.length nilS, fun _ => [], by simp, .zero, ⟨by simp, by simp, by simp, ?_, ?_⟩, by simp, ⟨by simp [blks, recs], by simp, by simp⟩, by simp, by simp, by simp⟩
    · intro to p hp
      rw [List.getElem?_replicate] at hp
      split at hp
      · cases hp; exact .nil
      · cases hp
    · intro i j k a b c a' b' c' hi
      rw [List.getElem?_replicate] at hi
      split at hi <;> cases hi
  rintro m E L ⟨b, cells, rows, hbm, hpr, ha, hL, ⟨e0, e3, e4⟩, e5, e25, e26⟩
  by_cases hbb : b < bs.length
  case pos =>
    simp [e0, e3, e4, e5, e25, e26, hbb]
    unfold PFk
    refine following_ok ?_
    simp
    refine a_range (tb := tb) hok hbb hL ha hpr (by simp [e5]) (by simp) (by simp) ?_
    intro cells' rows' L' hpr' ha' hL'
    simp [e0, e3, e4, e5, e25, e26, wrap_inc hbb hb]
    exact ⟨m - 1, by omega, b + 1, cells', rows', by omega, hpr', ha', hL', ⟨by simp [e0], by simp [e3], by simp [e4]⟩, by simp [e5], by simp [e25], by simp⟩
  have : b = bs.length := by omega
  subst this
  have hP := hpr.all hok
  simp [e0, e3, e4, e5, e25, e26, blks, recs]
  refine PC.abs ((Abs.addNil 0 _ _).trans (Abs.viewL [L.length] [(0, blks tb bs), (3, blist 4 (reachL bs (-1))), (4, .fz 42 bs.length ((domRows bs).map (blist 4))), (5, .fp [aheadV bs.length rows]), (8, .slc 0 0 0 0), (45, pin bs.length), (46, pn 0)] (L' := [.row 37 []]) (by simp) (by simp) (fun i h => by omega) (by simp) (.cons ⟨_, by simp, .nilr⟩ .nil) ?_)) ?_
  · simp [e0, e3, e4, e5]
    exact ⟨.same (by simp), .same (by simp), .same (by simp [noIdL_iff]), ha.view fun j o hj => by
      have hjl := (List.getElem?_eq_some_iff.1 hj).1
      exact ⟨by rw [List.getElem?_append_left hjl]; exact hj, by simp; omega⟩, .nilr rfl (by simp), .same rfl, .same rfl⟩
  clear e0 e3 e4 e5 e25 e26 hpr
  refine PC_loop (TJ1 tb bs rows) ?_ (k := bs.length) ⟨0, by simp, by simp [TL, loopsTo], ⟨⟨by simp [envG_cons], by simp [envG_cons], by simp [envG_cons]⟩, by simp [envG_cons], by simp [envG_cons, loopsTo], by simp [envG_cons], by simp [envG_cons]⟩⟩
  rintro m E L ⟨h, hhm, rfl, ⟨e0, e3, e4⟩, e5, e8, e45, e46⟩
  refine PW_ok _ ?_
  by_cases hh : h < bs.length
  case neg =>
    have : h = bs.length := by omega
    subst this
    simp [e8, e45, e46]
    exact Vw.frz rfl (by simp) (by simp) rfl
  have hcA : cut ((List.range bs.length).map fun to => plist 3 (rows to)) h 1 = [plist 3 (rows h)] := by rw [cut1 (by simpa using hh)]; simp
  unfold plist at hcA
  have hc0 : ∀ p : PV, cut [p] 0 1 = [p] := fun _ => rfl
  have hcl : ((List.range bs.length).map fun to => plist 3 (rows to)).length = bs.length := by simp
  simp [e0, e3, e4, e5, e8, e45, e46, hh, aheadV, hcA, hc0, plist]
  refine PC.abs ((Abs.addNil 0 _ [TL bs h, .map [] 0]).trans (Abs.viewL [0, 1, 2] [(0, blks tb bs), (3, blist 4 (reachL bs (-1))), (4, .fz 42 bs.length ((domRows bs).map (blist 4))), (5, .fp [aheadV bs.length rows]), (8, .slc 0 0 (loopsTo bs h).length (loopsTo bs h).length), (45, pin bs.length), (46, pn h), (9, pn h), (10, .mapr 1), (11, .slc 2 0 0 0), (53, plist 3 (rows h)), (54, pin (rows h).length), (55, pn 0)] (L' := [TL bs h, .map [] 0, .row 3 []]) (by simp) (by simp) (fun i h => by omega) (by simp) (.cons ⟨_, rfl, .row (.same (by simp))⟩ (.cons ⟨_, rfl, .map .nil⟩ (.cons ⟨_, rfl, .nilr⟩ .nil))) ?_)) ?_
  · simp [e0, e3, e4, e5, e8, e45, e46]
    exact ⟨.same (by simp), .same (by simp), .same (by simp [noIdL_iff]), .same (by simp [aheadV, plist, noIdL_iff]), .slc rfl, .same rfl, .same rfl, .mapr rfl, .nilr rfl rfl, .eq rfl (by simp [noIdL_iff]), .same rfl, .same rfl⟩
  refine PC_loop (TJ2 tb bs rows h) ?_ (k := (rows h).length) ⟨0, by simp, by simp [srcsTo], ⟨⟨by simp [envG_cons], by simp [envG_cons], by simp [envG_cons]⟩, by simp [envG_cons], by simp [envG_cons], by simp [envG_cons], by simp [envG_cons]⟩, by simp [envG_cons], by simp [envG_cons], by simp [envG_cons, srcsTo], by simp [envG_cons], by simp [envG_cons], by simp [envG_cons]⟩
  clear e0 e3 e4 e5 e8 e45 e46
  rintro m2 E L ⟨i, him, rfl, ⟨⟨e0, e3, e4⟩, e5, e8, e45, e46⟩, e9, e10, e11, e53, e54, e55⟩
  refine PW_ok _ ?_
  by_cases hi : i < (rows h).length
  case pos =>
    have hx : (rows h)[i] < bs.length := ((hP.mem h hh _).1 (List.getElem_mem hi)).1
    have hrl := reachL_len (bs := bs) (no := -1)
    have hbr : (rows h)[i] < (reachL bs (-1)).length := by omega
    have hcr : cut ((rows h).map pn) i 1 = [pn (rows h)[i]] := by rw [cut1 (by simpa using hi)]
    have hbl : blist 4 (reachL bs (-1)) = .fz 4 bs.length ((reachL bs (-1)).map pbool) := by rw [blist, hrl]
    have hcb : cut ((reachL bs (-1)).map pbool) (rows h)[i] 1 = [pbool (reachL bs (-1))[(rows h)[i]]] := cut1 hbr
    have hbh : big (rows h).length := by have := hP.len h; unfold big; omega
    have next : ∀ {E' : PEnv} {L' : List LObj}, L' = [TL bs h, .map [] 0, .row 3 ((srcsTo bs rows h (i + 1)).map pn)] → TEnv tb bs rows h E' → E'.get 9 = some (pn h) → E'.get 10 = some (.mapr 1) → E'.get 11 = some (.slc 2 0 (srcsTo bs rows h (i + 1)).length (srcsTo bs rows h (i + 1)).length) →
        E'.get 53 = some (plist 3 (rows h)) → E'.get 54 = some (pin (rows h).length) → E'.get 55 = some (pn (i + 1)) → ∃ k', k' < m2 ∧ ∃ E'' L'', Abs 0 E' L' E'' L'' ∧ TJ2 tb bs rows h k' E'' L'' := fun a b c d e f g j =>
      ⟨m2 - 1, by omega, _, _, .refl _ _ _, i + 1, by omega, a, b, c, d, e, f, g, j⟩
    have hsl : (srcsTo bs rows h i).length ≤ 1000000 := by
      have := hP.len h
      exact Nat.le_trans (List.length_filter_le _ _) (by rw [List.length_take]; omega)
    have rr : roomy ((srcsTo bs rows h i).length + 1) 8 := roomy_of (by omega) (by omega)
    cases hr : (reachL bs (-1))[(rows h)[i]] with
    | false =>
      have hdom : domB bs h (rows h)[i] = false := by
        unfold domB; rw [List.getD_eq_getElem?_getD, List.getElem?_eq_getElem hbr, hr]; rfl
      have hsrc : srcsTo bs rows h (i + 1) = srcsTo bs rows h i := by rw [srcsTo_succ hi, hdom]; simp
      simp [e0, e3, e4, e5, e8, e45, e46, e9, e10, e11, e53, e54, e55, hi, plist, hcr, hbl, hcb, hr, hx, wrap_inc hi hbh]
      exact next (by rw [hsrc]) ⟨⟨by simp [e0], by simp [e3], by simp [e4]⟩, by simp [e5], by simp [e8], by simp [e45], by simp [e46]⟩ (by simp [e9]) (by simp [e10]) (by simp [e11, hsrc]) (by simp [e53]) (by simp [e54]) (by simp)
    | true =>
      have hdl : (domRows bs).length = bs.length := by simp [domRows]
      have hrw : (domRow bs h).length = bs.length := by simp [domRow]
      have c1 : cut ((domRows bs).map (blist 4)) h 1 = [.fz 4 bs.length ((domRow bs h).map pbool)] := by
        rw [cut1 (by rw [hdl]; exact hh)]; simp [domRows, blist, domRow]
      have c2 : cut ((domRow bs h).map pbool) (rows h)[i] 1 = [pbool (domB bs h (rows h)[i])] := by
        rw [cut1 (by rw [hrw]; exact hx), ← domP_eq]; simp [domRow]
      cases hD : domB bs h (rows h)[i] with
      | false =>
        have hsrc : srcsTo bs rows h (i + 1) = srcsTo bs rows h i := by rw [srcsTo_succ hi, hD]; simp
        simp [e0, e3, e4, e5, e8, e45, e46, e9, e10, e11, e53, e54, e55, hi, plist, hcr, hbl, hcb, hr, hx, hh, c1, c2, hD, rr, wrap_inc hi hbh]
        exact next (by rw [hsrc]) ⟨⟨by simp [e0], by simp [e3], by simp [e4]⟩, by simp [e5], by simp [e8], by simp [e45], by simp [e46]⟩ (by simp [e9]) (by simp [e10]) (by simp [e11, hsrc]) (by simp [e53]) (by simp [e54]) (by simp)
      | true =>
        have hsrc : srcsTo bs rows h (i + 1) = srcsTo bs rows h i ++ [(rows h)[i]] := by rw [srcsTo_succ hi, hD]; simp
        simp [e0, e3, e4, e5, e8, e45, e46, e9, e10, e11, e53, e54, e55, hi, plist, hcr, hbl, hcb, hr, hx, hh, c1, c2, hD, rr, wrap_inc hi hbh]
        have hgo := next (E' := envOf [(0, blks tb bs), (3, blist 4 (reachL bs (-1))), (4, .fz 42 bs.length ((domRows bs).map (blist 4))), (5, .fp [aheadV bs.length rows]), (8, .slc 0 0 (loopsTo bs h).length (loopsTo bs h).length), (45, pin bs.length), (46, pn h), (9, pn h), (10, .mapr 1), (11, .slc 2 0 (srcsTo bs rows h (i + 1)).length (srcsTo bs rows h (i + 1)).length), (53, plist 3 (rows h)), (54, pin (rows h).length), (55, pn (i + 1))]) rfl ⟨⟨by simp [envG_cons], by simp [envG_cons], by simp [envG_cons]⟩, by simp [envG_cons], by simp [envG_cons], by simp [envG_cons], by simp [envG_cons]⟩ (by simp [envG_cons]) (by simp [envG_cons]) (by simp [envG_cons]) (by simp [envG_cons]) (by simp [envG_cons]) (by simp [envG_cons])
        obtain ⟨k', hk', E2, L2, ha2, hj2⟩ := hgo
        refine ⟨k', hk', E2, L2, Abs.trans (Abs.viewL [0, 1, 4] _ (by simp) (by simp) (fun i h => by omega) (by simp) (.cons ⟨_, rfl, .row (.same (by simp))⟩ (.cons ⟨_, rfl, .map .nil⟩ (.cons ⟨_, rfl, .row ?_⟩ .nil))) ?_) ha2, hj2⟩
        · rw [hsrc, List.map_append]; exact .same (by simp)
        · simp [e0, e3, e4, e5, e8, e45, e46, e9, e10, e53, e54, hsrc]
          exact ⟨.same (by simp), .same (by simp), .same (by simp [noIdL_iff]), .same (by simp [aheadV, plist, noIdL_iff]), .slc rfl, .same rfl, .same rfl, .mapr rfl, .slc rfl, .same (by simp [plist, noIdL_iff]), .same rfl, .same rfl⟩
  have hie : i = (rows h).length := by omega
  have onext : ∀ {E' : PEnv} {L' : List LObj}, Abs 0 E' L' (envOf [(0, blks tb bs), (3, blist 4 (reachL bs (-1))), (4, .fz 42 bs.length ((domRows bs).map (blist 4))), (5, .fp [aheadV bs.length rows]), (8, .slc 0 0 (loopsTo bs (h + 1)).length (loopsTo bs (h + 1)).length), (45, pin bs.length), (46, pn (h + 1))]) [TL bs (h + 1)] →
      ∃ k', k' < m ∧ ∃ E'' L'', Abs 0 E' L' E'' L'' ∧ TJ1 tb bs rows k' E'' L'' := fun ha =>
    ⟨m - 1, by omega, _, _, ha, h + 1, by omega, rfl, ⟨⟨by simp [envG_cons], by simp [envG_cons], by simp [envG_cons]⟩, by simp [envG_cons], by simp [envG_cons], by simp [envG_cons], by simp [envG_cons]⟩⟩
  by_cases hs0 : srcsTo bs rows h i = []
  · have hnl : ¬ hasLoop bs h := fun hx => (hasLoop_srcs hP hh).1 hx (hie ▸ hs0)
    simp [e0, e3, e4, e5, e8, e45, e46, e9, e10, e11, e53, e54, e55, hi, hs0, wrap_inc hh hb]
    refine onext (Abs.viewL [0] _ (by simp) (by simp) (fun i h => by omega) (by simp) (.cons ⟨_, rfl, .row ?_⟩ .nil) ?_)
    · rw [loopsTo_skip hnl]; exact .same (by simp)
    · simp [e0, e3, e4, e5, e8, e45]
      rw [loopsTo_skip hnl]
      exact ⟨.same (by simp), .same (by simp), .same (by simp [noIdL_iff]), .same (by simp [aheadV, plist, noIdL_iff]), .slc rfl, .same rfl, .same rfl⟩
  have hlp : hasLoop bs h := (hasLoop_srcs hP hh).2 (hie ▸ hs0)
  have hst := LWalk.start hP hh
  rw [← hie] at hst
  simp [e0, e3, e4, e5, e8, e45, e46, e9, e10, e11, e53, e54, e55, hi, hs0, keyOk]
  refine PC_loop (TJ3 tb bs rows h) ?_ ⟨[h], srcsTo bs rows h i, [], rfl, hst, rfl, by simp [setM], ⟨⟨by simp [e0], by simp [e3], by simp [e4]⟩, by simp [e5], by simp [e8], by simp [e45], by simp [e46]⟩, by simp [e9], by simp [e10], by simp [e11]⟩
  clear e0 e3 e4 e5 e8 e45 e46 e9 e10 e11 e53 e54 e55 hst hs0
  rintro m2 E L ⟨ks, st, junk, rfl, hw, hj, rfl, ⟨⟨e0, e3, e4⟩, e5, e8, e45, e46⟩, e9, e10, e11⟩
  refine PW_ok _ ?_
  rcases List.eq_nil_or_concat st with rfl | ⟨st, x, rfl⟩
  · simp [e0, e3, e4, e5, e8, e45, e46, e9, e10, e11, blks, recs]
    refine PC.abs ((Abs.addNil 0 _ [TL bs h, .map (setM ks 0) ks.length, .row 3 junk, .row 37 [pn h, nilS]]).trans (Abs.viewL [0, 1, 3, 4] [(0, blks tb bs), (3, blist 4 (reachL bs (-1))), (4, .fz 42 bs.length ((domRows bs).map (blist 4))), (5, .fp [aheadV bs.length rows]), (8, .slc 0 0 (loopsTo bs h).length (loopsTo bs h).length), (45, pin bs.length), (46, pn h), (10, .mapr 1), (15, .ptr 2 0), (117, pin bs.length), (118, pn 0)] (L' := [TL bs h, .map (setM ks 0) ks.length, .row 37 [pn h, .slc 3 0 0 0], .row 3 []]) (by simp) (by simp) (fun i h => by omega) (by simp) (.cons ⟨_, rfl, .row (.same (by simp))⟩ (.cons ⟨_, rfl, .map ?_⟩ (.cons ⟨_, rfl, .row (.cons (.same rfl) (.cons (.nilr rfl rfl) .nil))⟩ (.cons ⟨_, rfl, .nilr⟩ .nil)))) ?_)) ?_
    · exact setM_view
    · simp [e0, e3, e4, e5, e8, e45, e46, e10]
      exact ⟨.same (by simp [blks, recs]), .same (by simp), .same (by simp [noIdL_iff]), .same (by simp [aheadV, plist, noIdL_iff]), .slc rfl, .same rfl, .same rfl, .mapr rfl, .ptr rfl, .same rfl, .same rfl⟩
    clear e0 e3 e4 e5 e8 e45 e46 e9 e10 e11
    refine PC_loop (TJ4 tb bs rows h ks) ?_ (k := bs.length) ⟨0, by simp, by simp [kept], ⟨⟨by simp [envG_cons], by simp [envG_cons], by simp [envG_cons]⟩, by simp [envG_cons], by simp [envG_cons], by simp [envG_cons], by simp [envG_cons]⟩, by simp [envG_cons], by simp [envG_cons], by simp [envG_cons], by simp [envG_cons]⟩
    rintro m2 E L ⟨j, hjm, rfl, ⟨⟨e0, e3, e4⟩, e5, e8, e45, e46⟩, e10, e15, e117, e118⟩
    refine PW_ok _ ?_
    by_cases hjl : j < bs.length
    case neg =>
      have hle : (loopsTo bs h).length ≤ h := loopsTo_len
      have rr0 : roomy ((loopsTo bs h).length + 1) 32 := roomy_of (by omega) (by omega)
      simp [e0, e3, e4, e5, e8, e45, e46, e10, e15, e117, e118, hjl, TL, rr0, sumC, allOne, wrap_inc hh hb]
      have hje : j = bs.length := by omega
      subst hje
      have hlk : ints 3 (loopL bs h) = plist 3 (kept ks bs.length) := by
        rw [loopL_ks fun k => hw.done hP]; simp [ints, plist, kept]
      refine onext (Abs.viewL [5] _ (by simp) (by simp) (fun i h => by omega) (by simp) (.cons ⟨_, rfl, .row ?_⟩ .nil) ?_)
      · rw [loopsTo_succ hlp, List.flatMap_append]
        refine F2.app (VwL.same (by simp)) (.cons (.same rfl) (.cons ?_ .nil))
        rw [hlk]
        exact .fzs (cs := (kept ks bs.length).map pn) (cs'' := (kept ks bs.length).map pn) (by simp) rfl (by simp [allNl, nl]) (by simp) (by rw [List.length_map, List.drop_zero, List.take_of_length_le (by simp)]) rfl fun i h1 h2 => .same (by simp)
      · simp [e0, e3, e4, e5, e8, e45, loopsTo_succ hlp]
        exact ⟨.same (by simp), .same (by simp), .same (by simp [noIdL_iff]), .same (by simp [aheadV, plist, noIdL_iff]), .slc rfl, .same rfl, .same rfl⟩
    have hkl : (kept ks j).length ≤ j := Nat.le_trans (List.length_filter_le _ _) (Nat.le_of_eq List.length_range)
    have rr : roomy ((kept ks j).length + 1) 8 := roomy_of (by omega) (by omega)
    by_cases hjk : j ∈ ks
    case neg =>
      have hf := pfind_no (ks := ks) (c := 0) (i := 0) hjk
      simp [e0, e3, e4, e5, e8, e45, e46, e10, e15, e117, e118, hjl, hf, keyOk, wrap_inc hjl hb]
      have hk1 : kept ks (j + 1) = kept ks j := by simp [kept, List.range_succ, hjk]
      exact ⟨m2 - 1, by omega, _, _, .refl _ _ _, j + 1, by omega, by rw [hk1], ⟨⟨by simp [e0], by simp [e3], by simp [e4]⟩, by simp [e5], by simp [e8], by simp [e45], by simp [e46]⟩, by simp [e10], by simp [e15], by simp [e117], by simp⟩
    obtain ⟨q, hf⟩ := pfind_yes (ks := ks) (c := 0) (i := 0) hjk
    simp [e0, e3, e4, e5, e8, e45, e46, e10, e15, e117, e118, hjl, hf, keyOk, rr, wrap_inc hjl hb]
    have hk1 : kept ks (j + 1) = kept ks j ++ [j] := by simp [kept, List.range_succ, hjk]
    refine ⟨m2 - 1, by omega, envOf [(0, blks tb bs), (3, blist 4 (reachL bs (-1))), (4, .fz 42 bs.length ((domRows bs).map (blist 4))), (5, .fp [aheadV bs.length rows]), (8, .slc 0 0 (loopsTo bs h).length (loopsTo bs h).length), (45, pin bs.length), (46, pn h), (10, .mapr 1), (15, .ptr 2 0), (117, pin bs.length), (118, pn (j + 1))], [TL bs h, .map (setM ks 0) ks.length, .row 37 [pn h, .slc 3 0 ((kept ks j).length + 1) ((kept ks j).length + 1)], .row 3 ((kept ks j ++ [j]).map pn)], Abs.viewL [0, 1, 2, 5] _ (by simp) (by simp) (fun i h => by omega) (by simp) (.cons ⟨_, rfl, .row (.same (by simp))⟩ (.cons ⟨_, rfl, .map setM_view⟩ (.cons ⟨_, rfl, .row (.cons (.same rfl) (.cons (.slc rfl) .nil))⟩ (.cons ⟨_, rfl, .row ?_⟩ .nil)))) ?_, j + 1, by omega, by rw [hk1, List.length_append]; rfl, ⟨⟨by simp [envG_cons], by simp [envG_cons], by simp [envG_cons]⟩, by simp [envG_cons], by simp [envG_cons], by simp [envG_cons], by simp [envG_cons]⟩, by simp [envG_cons], by simp [envG_cons], by simp [envG_cons], by simp [envG_cons]⟩
    · rw [List.map_append]; exact .same (by simp)
    · simp [e0, e3, e4, e5, e8, e45, e46, e10, e15, e117]
      exact ⟨.same (by simp), .same (by simp), .same (by simp [noIdL_iff]), .same (by simp [aheadV, plist, noIdL_iff]), .slc rfl, .same rfl, .same rfl, .mapr rfl, .ptr rfl, .same rfl, .same rfl⟩
  rw [List.concat_eq_append] at hw ⊢
  have hx : x < bs.length := (hw.stk x (by simp)).1
  have hkl := hw.klen
  have hsl := hw.len
  have hst1 : st.length ≤ 1000000000 := by
    have : ks.length * 1000000 ≤ 1000 * 1000000 := Nat.mul_le_mul_right _ (by omega)
    simp only [List.length_append, List.length_singleton] at hsl
    omega
  have w1 : IntKind.wrap .i64 (st.length : Int) = st.length := wrap64 (by omega) (by omega)
  have c0 : ¬ ((st.length : Int) + 1 = 0) := by omega
  have c1 : (st.length : Int) < st.length + 1 := by omega
  have c2 : (st.length : Int) ≤ st.length + 1 + junk.length := by omega
  have c3 : st.length ≤ st.length + 1 + junk.length := by omega
  have hrl := reachL_len (bs := bs) (no := -1)
  have hbr : x < (reachL bs (-1)).length := by omega
  have hbl : blist 4 (reachL bs (-1)) = .fz 4 bs.length ((reachL bs (-1)).map pbool) := by rw [blist, hrl]
  have hcb : cut ((reachL bs (-1)).map pbool) x 1 = [pbool (reachL bs (-1))[x]] := cut1 hbr
  have skip : ∀ {E' : PEnv}, (x ∈ ks ∨ ¬ Reach bs (-1) x) → TEnv tb bs rows h E' → E'.get 9 = some (pn h) → E'.get 10 = some (.mapr 1) → E'.get 11 = some (.slc 2 0 st.length (st.length + 1 + junk.length)) →
      ∃ k', k' < (bs.length - ks.length) * 1000001 + (st.length + 1) ∧ ∃ E'' L'', Abs 0 E' [TL bs h, .map (setM ks 0) ks.length, .row 3 (st.map pn ++ pn x :: junk)] E'' L'' ∧ TJ3 tb bs rows h k' E'' L'' := fun hs a b c d =>
    ⟨(bs.length - ks.length) * 1000001 + st.length, by omega, _, _, .refl _ _ _, ks, st, pn x :: junk, rfl, hw.skip hs, by simp [hj], rfl, a, b, c, by rw [d]; simp [Nat.add_assoc, Nat.add_comm 1]⟩
  by_cases hxk : x ∈ ks
  · obtain ⟨q, hf⟩ := pfind_yes (ks := ks) (c := 0) (i := 0) hxk
    simp [e0, e3, e4, e5, e8, e45, e46, e9, e10, e11, hf, keyOk, w1, c0, c1, c2, c3]
    exact skip (.inl hxk) ⟨⟨by simp [e0], by simp [e3], by simp [e4]⟩, by simp [e5], by simp [e8], by simp [e45], by simp [e46]⟩ (by simp [e9]) (by simp [e10]) (by simp)
  have hf := pfind_no (ks := ks) (c := 0) (i := 0) hxk
  cases hr : (reachL bs (-1))[x] with
  | false =>
    have hnr : ¬ Reach bs (-1) x := fun h => by have := (reachL_get hx).2 h; rw [List.getElem?_eq_getElem hbr, hr] at this; cases this
    simp [e0, e3, e4, e5, e8, e45, e46, e9, e10, e11, hf, keyOk, w1, c0, c1, c2, c3, hbl, hcb, hr, hx]
    exact skip (.inr hnr) ⟨⟨by simp [e0], by simp [e3, hbl], by simp [e4]⟩, by simp [e5], by simp [e8], by simp [e45], by simp [e46]⟩ (by simp [e9]) (by simp [e10]) (by simp)
  | true =>
  have hrx : Reach bs (-1) x := (reachL_get hx).1 (by rw [List.getElem?_eq_getElem hbr, hr])
  have hm := hw.mark hP hxk hrx
  have hcX : cut ((List.range bs.length).map fun to => plist 3 (rows to)) x 1 = [plist 3 (rows x)] := by rw [cut1 (by simpa using hx)]; simp
  unfold plist at hcX
  have hrl2 := hP.len x
  have rr : roomy (st.length + (rows x).length) 8 := by unfold roomy; omega
  have hkl2 : ks.length + 1 ≤ bs.length := by simpa using hm.klen
  have meas : ∀ r, r ≤ 1000000 → (bs.length - (ks.length + 1)) * 1000001 + (st.length + r) < (bs.length - ks.length) * 1000001 + (st.length + 1) := by
    intro r hr
    rw [show bs.length - ks.length = (bs.length - (ks.length + 1)) + 1 by omega, Nat.succ_mul]
    generalize (bs.length - (ks.length + 1)) * 1000001 = z
    omega
  have hset : setM (ks ++ [x]) 0 = setM ks 0 ++ [(.int .i64 x, .v (.bool true), ks.length)] := by rw [setM_snoc, Nat.zero_add]
  have fin : ∀ {E' : PEnv} {junk' : List PV}, noIdL junk' = true → TEnv tb bs rows h E' → E'.get 9 = some (pn h) → E'.get 10 = some (.mapr 1) → E'.get 11 = some (.slc 2 0 (st ++ rows x).length ((st ++ rows x).length + junk'.length)) →
      TJ3 tb bs rows h ((bs.length - (ks.length + 1)) * 1000001 + (st.length + (rows x).length)) E' [TL bs h, .map (setM (ks ++ [x]) 0) (ks.length + 1), .row 3 ((st ++ rows x).map pn ++ junk')] := fun hj' a b c d =>
    ⟨ks ++ [x], st ++ rows x, _, by simp, hm, hj', by simp, a, b, c, d⟩
  by_cases hrn : rows x = []
  · simp [e0, e3, e4, e5, e8, e45, e46, e9, e10, e11, hf, keyOk, w1, c0, c1, c2, c3, hbl, hcb, hr, hx, aheadV, hc0, hcX, plist, rr, hrn]
    refine ⟨_, meas _ hrl2, _, _, Abs.viewL [0, 1, 2] _ (by simp) (by simp) (fun i h => by omega) (by simp) (.cons ⟨_, rfl, .row (.same (by simp))⟩ (.cons ⟨_, rfl, .map ?_⟩ (.cons ⟨_, rfl, .row ?_⟩ .nil))) ?_, fin (E' := envOf [(0, blks tb bs), (3, blist 4 (reachL bs (-1))), (4, .fz 42 bs.length ((domRows bs).map (blist 4))), (5, .fp [aheadV bs.length rows]), (8, .slc 0 0 (loopsTo bs h).length (loopsTo bs h).length), (45, pin bs.length), (46, pn h), (9, pn h), (10, .mapr 1), (11, .slc 2 0 (st ++ rows x).length ((st ++ rows x).length + (pn x :: junk).length))]) (junk' := (pn x :: junk)) (by simp [hj]) ⟨⟨by simp [envG_cons], by simp [envG_cons], by simp [envG_cons]⟩, by simp [envG_cons], by simp [envG_cons], by simp [envG_cons], by simp [envG_cons]⟩ (by simp [envG_cons]) (by simp [envG_cons]) (by simp [envG_cons])⟩
    · rw [← hset]; exact setM_view
    · rw [hrn, List.append_nil]; exact .same (noIdL_app pn_wf (by simp [hj]))
    · simp [e0, e3, e4, e5, e8, e45, e46, e9, e10, hrn, Nat.add_comm, Nat.add_left_comm]
      exact ⟨.same (by simp), .same (by simp), .same (by simp [noIdL_iff]), .same (by simp [aheadV, plist, noIdL_iff]), .slc rfl, .same rfl, .same rfl, .mapr rfl, .slc rfl⟩
  by_cases hfit : (rows x).length ≤ junk.length + 1
  · have hfit2 : st.length + (rows x).length ≤ st.length + 1 + junk.length := by omega
    have hps : psplice (st.map pn ++ pn x :: junk) st.length ((rows x).map pn) = (st ++ rows x).map pn ++ (pn x :: junk).drop (rows x).length := by
      simp [psplice, List.drop_append]
    have hj2 : noIdL ((pn x :: junk).drop (rows x).length) = true := by
      rw [noIdL_iff] at hj ⊢
      intro p hp
      rcases List.mem_cons.1 (List.mem_of_mem_drop hp) with rfl | hp
      · rfl
      · exact hj p hp
    have hjl : (st ++ rows x).length + ((pn x :: junk).drop (rows x).length).length = st.length + 1 + junk.length := by simp; omega
    simp [e0, e3, e4, e5, e8, e45, e46, e9, e10, e11, hf, keyOk, w1, c0, c1, c2, c3, hbl, hcb, hr, hx, aheadV, hc0, hcX, plist, rr, hrn, hfit, hfit2]
    refine ⟨_, meas _ hrl2, _, _, Abs.viewL [0, 1, 2] _ (by simp) (by simp) (fun i h => by omega) (by simp) (.cons ⟨_, rfl, .row (.same (by simp))⟩ (.cons ⟨_, rfl, .map ?_⟩ (.cons ⟨_, rfl, .row ?_⟩ .nil))) ?_, fin (E' := envOf [(0, blks tb bs), (3, blist 4 (reachL bs (-1))), (4, .fz 42 bs.length ((domRows bs).map (blist 4))), (5, .fp [aheadV bs.length rows]), (8, .slc 0 0 (loopsTo bs h).length (loopsTo bs h).length), (45, pin bs.length), (46, pn h), (9, pn h), (10, .mapr 1), (11, .slc 2 0 (st ++ rows x).length ((st ++ rows x).length + ((pn x :: junk).drop (rows x).length).length))]) (junk' := ((pn x :: junk).drop (rows x).length)) (hj2) ⟨⟨by simp [envG_cons], by simp [envG_cons], by simp [envG_cons]⟩, by simp [envG_cons], by simp [envG_cons], by simp [envG_cons], by simp [envG_cons]⟩ (by simp [envG_cons]) (by simp [envG_cons]) (by simp [envG_cons])⟩
    · rw [← hset]; exact setM_view
    · rw [hps]; exact .same (noIdL_app pn_wf hj2)
    · simp [e0, e3, e4, e5, e8, e45, e46, e9, e10]
      exact ⟨.same (by simp), .same (by simp), .same (by simp [noIdL_iff]), .same (by simp [aheadV, plist, noIdL_iff]), .slc rfl, .same rfl, .same rfl, .mapr rfl, by rw [show st.length + (rows x).length + (junk.length + 1 - (rows x).length) = st.length + 1 + junk.length by omega]; exact .slc rfl⟩
  · have hfit2 : ¬ st.length + (rows x).length ≤ st.length + 1 + junk.length := by omega
    have hps : cut (st.map pn ++ pn x :: junk) 0 st.length ++ (rows x).map pn = (st ++ rows x).map pn ++ [] := by simp [cut]
    simp [e0, e3, e4, e5, e8, e45, e46, e9, e10, e11, hf, keyOk, w1, c0, c1, c2, c3, hbl, hcb, hr, hx, aheadV, hc0, hcX, plist, rr, hrn, hfit2]
    refine ⟨_, meas _ hrl2, _, _, Abs.viewL [0, 1, 3] _ (by simp) (by simp) (fun i h => by omega) (by simp) (.cons ⟨_, rfl, .row (.same (by simp))⟩ (.cons ⟨_, rfl, .map ?_⟩ (.cons ⟨_, rfl, .row ?_⟩ .nil))) ?_, fin (E' := envOf [(0, blks tb bs), (3, blist 4 (reachL bs (-1))), (4, .fz 42 bs.length ((domRows bs).map (blist 4))), (5, .fp [aheadV bs.length rows]), (8, .slc 0 0 (loopsTo bs h).length (loopsTo bs h).length), (45, pin bs.length), (46, pn h), (9, pn h), (10, .mapr 1), (11, .slc 2 0 (st ++ rows x).length ((st ++ rows x).length + ([] : List PV).length))]) (junk' := ([] : List PV)) (rfl) ⟨⟨by simp [envG_cons], by simp [envG_cons], by simp [envG_cons]⟩, by simp [envG_cons], by simp [envG_cons], by simp [envG_cons], by simp [envG_cons]⟩ (by simp [envG_cons]) (by simp [envG_cons]) (by simp [envG_cons])⟩
    · rw [← hset]; exact setM_view
    · rw [hps]; exact .same (by rw [List.append_nil]; exact pn_wf)
    · simp [e0, e3, e4, e5, e8, e45, e46, e9, e10]
      exact ⟨.same (by simp), .same (by simp), .same (by simp [noIdL_iff]), .same (by simp [aheadV, plist, noIdL_iff]), .slc rfl, .same rfl, .same rfl, .mapr rfl, .slc rfl⟩
end Go.Den
/- The seat's functions, part U: FlowGraphs. -/
namespace Go.Den
open IrD
attribute [local irreducible] T.get T.set
set_option linter.unusedSimpArgs false in
set_option maxRecDepth 8000 in
theorem many_ok {b : Blk} : PPd (.fn 7 [] []) [.agg (encB b)] (pbool (decide (6 < (b.next.length : Int)))) := by
  refine PP_code rfl rfl rfl (by simp) (by simp) (by simp) (PW_ok _ ?_)
  simp [ir7, encB, ints]
  exact .same rfl
def manyAt (bs : List Blk) : Int := match bs.findIdx? (fun b => decide (6 < (b.next.length : Int))) with | some i => (i : Int) | none => -1
theorem findIdx_at {α : Type} {p : α → Bool} {l : List α} {i : Nat} (h : i < l.length) (h1 : ∀ x ∈ l.take i, p x = false) (h2 : p l[i] = true) : l.findIdx? p = some i := by
  rw [List.findIdx?_eq_some_iff_getElem]
  refine ⟨h, h2, fun j hj => ?_⟩
  have := h1 l[j] (by rw [List.mem_take_iff_getElem]; exact ⟨j, by omega, rfl⟩)
  simp [this]
set_option linter.unusedSimpArgs false in
set_option maxRecDepth 8000 in
theorem indexMany_ok {tb : TypeId} {bs : List Blk} (hb : big bs.length) : PPd (.fn 29 [] []) [blks tb bs, .fn 7 [] []] (pin (manyAt bs)) := by
  refine PP_code rfl rfl rfl (by simp) (by simp) (by simp) (PW_ok _ ?_)
  simp [ir29, blks, recs]
  refine PC_loop0 (fun m E L => ∃ i, i + m = bs.length ∧ (∀ b ∈ bs.take i, decide (6 < (b.next.length : Int)) = false) ∧ L = [] ∧ E.get 0 = some (blks tb bs) ∧ E.get 1 = some (.fn 7 [] []) ∧ E.get 7 = some (pin bs.length) ∧ E.get 8 = some (pin i)) ?_ (k := bs.length) ⟨0, by simp [blks, recs]⟩
  rintro m E L ⟨i, him, hc, rfl, e0, e1, e7, e8⟩
  by_cases hi : i < bs.length
  · have hcut := cutB hi
    simp [e0, e1, e7, e8, hi, blks, recs, hcut]
    refine (many_ok (b := bs[i])).runk ?_
    by_cases hm : 6 < (bs[i].next.length : Int)
    · simp [hm]
      have := findIdx_at hi hc (by simpa using hm)
      simp only [manyAt, this]
      exact .same rfl
    · simp [hm, e0, e1, e7, e8, wrap_inc hi hb]
      refine ⟨m - 1, by omega, i + 1, by omega, fun b hbm => ?_, by simp [blks, recs]⟩
      rw [List.take_succ_eq_append_getElem hi] at hbm
      rcases List.mem_append.1 hbm with h | h
      · simpa using hc b h
      · have : b = bs[i] := by simpa using h
        subst this; omega
  · have hie : i = bs.length := by omega
    subst hie
    rw [List.take_length] at hc
    simp [e0, e1, e7, e8]
    have : bs.findIdx? (fun b => decide (6 < (b.next.length : Int))) = none := by
      rw [List.findIdx?_eq_none_iff]; exact hc
    simp only [manyAt, this]
    exact .same rfl
set_option linter.unusedSimpArgs false in
set_option maxRecDepth 8000 in
theorem eqLoop_ok {a : Lp} (hb : big a.blocks.length) : PPd (.fn 12 [] []) [.agg (encL a), .agg (encL a)] (pbool true) := by
  refine PP_code rfl rfl rfl (by simp) (by simp) (by simp) (PW_ok _ ?_)
  simp [ir12, encL, ints]
  refine (eqInts_ok (t := 3) (t' := 3) (a := a.blocks) (b := a.blocks) hb).runk ?_
  simp
  exact .same rfl
set_option linter.unusedSimpArgs false in
set_option maxRecDepth 8000 in
theorem eqLoops_ok {ls : List Lp} (hb : big ls.length) (hl : ∀ a ∈ ls, big a.blocks.length) : PPd (.fn 11 [] []) [recs 37 encL ls, recs 38 encL ls, .fn 12 [] []] (pbool true) := by
  refine PP_code rfl rfl rfl (by simp) (by simp [recs]) (by simp) (PW_ok _ ?_)
  simp [ir11, recs]
  refine PC_loop (fun m E L => ∃ i, i + m = ls.length ∧ L = [] ∧ E.get 1 = some (recs 38 encL ls) ∧ E.get 2 = some (.fn 12 [] []) ∧ E.get 15 = some (recs 37 encL ls) ∧ E.get 16 = some (pin ls.length) ∧ E.get 17 = some (pin i)) ?_ (k := ls.length) ⟨0, by simp [recs]⟩
  rintro m E L ⟨i, him, rfl, e1, e2, e15, e16, e17⟩
  refine PW_ok _ ?_
  by_cases hi : i < ls.length
  · have hcut : cut (ls.flatMap encL) (i * 2) 2 = [pin ls[i].head, ints 3 ls[i].blocks] := cutk encL_len hi
    simp [e1, e2, e15, e16, e17, hi, recs, hcut, ints]
    refine (eqLoop_ok (a := ls[i]) (hl _ (List.getElem_mem hi))).runk ?_
    simp [e1, e2, e15, e16, e17, wrap_inc hi hb]
    refine ⟨m - 1, by omega, envOf [(1, recs 38 encL ls), (2, .fn 12 [] []), (15, recs 37 encL ls), (16, pin ls.length), (17, pin (i + 1 : Nat))], [], Abs.viewL [] _ (by simp) (by simp) (fun i h => by omega) (by simp) .nil ?_, i + 1, by omega, rfl, by simp [envG_cons, recs], by simp [envG_cons], by simp [envG_cons, recs], by simp [envG_cons], by simp [envG_cons]⟩
    simp [e1, e2, e15, e16, e17, recs]
    exact ⟨.same (by simp), .same (by simp), .same (by simp), .same rfl, .same rfl⟩
  · simp [e1, e2, e15, e16, e17, hi]
    exact .same rfl
end Go.Den
/- The seat's functions, part V: FlowGraphs. -/
namespace Go.Den
open IrD
attribute [local irreducible] T.get T.set
theorem awake_ok : PPd (.fn 8 [] []) [] (pbool true) := by
  intro q L A ρ ζ H dv dargs gz hr hv ha
  obtain ⟨a', c', rfl, h1, h2⟩ := hv.fn_inv
  obtain rfl := ha.nil_left
  have e1 := h1.nil_left
  have e2 := h2.nil_left
  refine ⟨.bool true, H, ⟨1, fun m hm => ?_⟩, ρ, ζ, pbool true, L, .refl _ _, .refl _, hr, .v rfl, Only.refl _ _, fun _ => Only.refl _ _, Nat.le_refl _, rfl, rfl⟩
  obtain ⟨k, rfl⟩ : ∃ k, m = k + 1 := ⟨m - 1, by omega⟩
  obtain ⟨g, hg⟩ := hr
  have hz := gz glSpace _ (by simp [glZ]; rfl)
  obtain ⟨h3, _⟩ := hg.frz _ _ hz
  obtain ⟨ro, thr, tip, h4⟩ := h3.at_
  obtain ⟨cs', t', ro', ex', thr', tip', h5, h6⟩ := h3.root
  have hs : SpaceRow H := by
    rw [h4] at h5
    cases h5
    exact ⟨ro, thr, tip, h4, h6⟩
  simp [den, XA, xAwake, e1, e2, hs]
set_option linter.unusedSimpArgs false in
set_option maxRecDepth 8000 in
theorem hasMany_ok {tb : TypeId} {bs : List Blk} (hb : big bs.length) : PPd (.fn 6 [] []) [blks tb bs, .fn 7 [] []] (pbool (decide (0 ≤ manyAt bs))) := by
  refine PP_code rfl rfl rfl (by simp) (by simp) (by simp) (PW_ok _ ?_)
  simp [ir6]
  refine (indexMany_ok hb).runk ?_
  simp
  exact .same rfl
theorem manyAt_neg {bs : List Blk} (h : ¬ 0 ≤ manyAt bs) : ∀ b ∈ bs, b.next.length ≤ 6 := by
  intro b hb
  unfold manyAt at h
  cases hf : bs.findIdx? (fun b => decide (6 < (b.next.length : Int))) with
  | some i => rw [hf] at h; simp at h
  | none =>
    have := List.findIdx?_eq_none_iff.1 hf b hb
    simp at this; omega
theorem loopsTo_blocks {bs : List Blk} {n : Nat} {a : Lp} (h : a ∈ loopsTo bs n) : a.blocks.length ≤ bs.length := by
  unfold loopsTo at h
  obtain ⟨k, _, rfl⟩ := List.mem_map.1 h
  simp only [loopL, List.length_map]
  exact Nat.le_trans (List.length_filter_le _ _) (Nat.le_of_eq List.length_range)
theorem domsR_len {bs : List Blk} : (domsR bs).length = bs.length := by simp [domsR]
def GJ (tb : TypeId) (bs : List Blk) (m : Nat) (E : PEnv) (L : List LObj) : Prop := ∃ i, i + m = bs.length ∧ E.get 0 = some (blks tb bs) ∧ E.get 17 = some (blks tb bs) ∧ E.get 18 = some (pin bs.length) ∧ E.get 19 = some (pn i) ∧
  ((i < bs.length ∧ L = [.row 30 ((bs.take i).flatMap encB)] ∧ E.get 3 = some (.slc 0 0 i i)) ∨ (i = bs.length ∧ L = [] ∧ E.get 3 = some (blks 30 bs)))
set_option linter.unusedSimpArgs false in
set_option maxRecDepth 8000 in
set_option maxHeartbeats 4000000 in
theorem flowGraphs_ok {tb : TypeId} {bs : List Blk} : PPd (.fn 3 [] []) [blks tb bs] (pbool true) := by
  refine PP_code rfl rfl rfl (by simp) (by simp) (by simp) (PW_ok _ ?_)
  by_cases hlen : 25 < bs.length
  · have hlen' : (25 : Int) < bs.length := by omega
    simp [ir3, blks, recs, hlen, hlen']
    refine awake_ok.runk ?_
    simp
    exact .same rfl
  have hlen' : ¬ (25 : Int) < bs.length := by omega
  have hb : big bs.length := by unfold big; omega
  simp [ir3, blks, recs, hlen, hlen']
  refine (hasMany_ok hb).runk ?_
  by_cases hm : 0 ≤ manyAt bs
  · simp [hm]
    refine awake_ok.runk ?_
    simp
    exact .same rfl
  have hnx := manyAt_neg hm
  have hok : OkG bs := ⟨by omega, fun b hb => Nat.le_trans (hnx b hb) (by omega)⟩
  simp [hm]
  have start : ∀ {E' : PEnv}, E'.get 0 = some (blks tb bs) → E'.get 3 = some nilS → E'.get 17 = some (blks tb bs) → E'.get 18 = some (pin bs.length) → E'.get 19 = some (pn 0) → ∃ E'' L'', Abs 0 E' [] E'' L'' ∧ GJ tb bs bs.length E'' L'' := by
    intro E' e0 e3 e17 e18 e19
    by_cases hn : bs.length = 0
    · have : bs = [] := List.eq_nil_of_length_eq_zero hn
      subst this
      refine ⟨envOf [(0, blks tb []), (3, blks 30 []), (17, blks tb []), (18, pin 0), (19, pn 0)], [], Abs.viewL [] _ (by simp) (by simp) (fun i h => by omega) (by simp) .nil ?_, 0, by simp, by simp [envG_cons], by simp [envG_cons], by simp [envG_cons], by simp [envG_cons], .inr ⟨rfl, rfl, by simp [envG_cons]⟩⟩
      simp [e0, e3, e17, e18, e19]
      exact ⟨.same (by simp), .nil, .same (by simp), .same rfl, .same rfl⟩
    · refine ⟨envOf [(0, blks tb bs), (3, .slc 0 0 0 0), (17, blks tb bs), (18, pin bs.length), (19, pn 0)], [.row 30 []], (Abs.addNil 0 _ []).trans (Abs.viewL [0] _ (by simp) (by simp) (fun i h => by omega) (by simp) (.cons ⟨_, rfl, .nilr⟩ .nil) ?_), 0, by simp, by simp [envG_cons], by simp [envG_cons], by simp [envG_cons], by simp [envG_cons], .inl ⟨by omega, by simp, by simp [envG_cons]⟩⟩
      simp [e0, e3, e17, e18, e19]
      exact ⟨.same (by simp), .nilr rfl rfl, .same (by simp), .same rfl, .same rfl⟩
  obtain ⟨E2, L2, ha2, hj2⟩ := start (E' := envOf [(0, blks tb bs), (3, nilS), (17, blks tb bs), (18, pin bs.length), (19, pn 0)]) (by simp [envG_cons]) (by simp [envG_cons]) (by simp [envG_cons]) (by simp [envG_cons]) (by simp [envG_cons])
  refine PC.abs ((Abs.viewL [] [(0, blks tb bs), (3, nilS), (17, blks tb bs), (18, pin bs.length), (19, pn 0)] (by simp) (by simp) (fun i h => by omega) (by simp) .nil ?_).trans ha2) ?_
  · simp
    exact ⟨.same (by simp [recs, blks]), .same rfl, .same (by simp [recs, blks]), .same rfl, .same rfl⟩
  clear start ha2
  refine PC_loop (GJ tb bs) ?_ hj2
  clear hj2
  rintro m E L ⟨i, him, e0, e17, e18, e19, ⟨hi, rfl, e3⟩ | ⟨hi, rfl, e3⟩⟩
  · refine PW_ok _ ?_
    have hcut := cutB hi
    have rr : roomy (i + 1) 40 := roomy_of (by omega) (by omega)
    have hsum : (List.take i (bs.map fun _ => 3)).sum = i * 3 := by rw [← List.map_take, sumC, List.length_take, Nat.min_eq_left (by omega)]
    simp [e0, e3, e17, e18, e19, hi, blks, recs, hcut, ints, rr, wrap_inc hi hb, hsum, allOne]
    have hrow : (bs.take i).flatMap encB ++ [pin bs[i].src, pin bs[i].to, .fz 3 bs[i].next.length (bs[i].next.map pin)] = (bs.take (i + 1)).flatMap encB := by
      rw [List.take_succ_eq_append_getElem hi, List.flatMap_append]; simp [encB, ints]
    rw [hrow]
    by_cases hl : i + 1 < bs.length
    · refine ⟨m - 1, by omega, envOf [(0, blks tb bs), (3, .slc 0 0 (i + 1) (i + 1)), (17, blks tb bs), (18, pin bs.length), (19, pn (i + 1))], [.row 30 ((bs.take (i + 1)).flatMap encB)], Abs.viewL [3] _ (by simp) (by simp) (fun i h => by omega) (by simp) (.cons ⟨_, rfl, .row (.same (by simp))⟩ .nil) ?_, i + 1, by omega, by simp [envG_cons], by simp [envG_cons], by simp [envG_cons], by simp [envG_cons], .inl ⟨hl, rfl, by simp [envG_cons]⟩⟩
      simp [e0, e17, e18]
      exact ⟨.same (by simp), .slc rfl, .same (by simp), .same rfl, .same rfl⟩
    · have hie : i + 1 = bs.length := by omega
      refine ⟨m - 1, by omega, envOf [(0, blks tb bs), (3, blks 30 bs), (17, blks tb bs), (18, pin bs.length), (19, pn (i + 1))], [], Abs.viewL [] _ (by simp) (by simp) (fun i h => by omega) (by simp) .nil ?_, i + 1, by omega, by simp [envG_cons], by simp [envG_cons], by simp [envG_cons], by simp [envG_cons], .inr ⟨hie, rfl, by simp [envG_cons]⟩⟩
      simp [e0, e17, e18]
      exact ⟨.same (by simp), .frz rfl (by simp) (by simp) (by rw [hie, List.take_length]; rfl), .same (by simp), .same rfl, .same rfl⟩
  · refine PW_ok _ ?_
    have hni : ¬ i < bs.length := by omega
    simp [e0, e3, e17, e18, e19, hni]
    refine (loops_ok hok).runk ?_
    simp [e0, e3, e17, e18, e19]
    refine (loopsR_ok hok).runk ?_
    simp [e0, e3, e17, e18, e19]
    refine (eqLoops_ok (Nat.le_trans (loopsTo_len (bs := bs)) hb) (fun a ha => ?_)).runk ?_
    · unfold big
      have := loopsTo_blocks ha
      omega
    simp [e0, e3, e17, e18, e19]
    refine (reached_ok hok).runk ?_
    simp [e0, e3, e17, e18, e19]
    refine (reachedR_ok hok).runk ?_
    simp [e0, e3, e17, e18, e19]
    refine (eqBools_ok (by rw [reachL_len]; exact hb)).runk ?_
    simp [e0, e3, e17, e18, e19]
    refine (dominators_ok hok).runk ?_
    simp [e0, e3, e17, e18, e19]
    refine (dominatorsR_ok hok).runk ?_
    simp [doms_eq, e0, e3, e17, e18, e19]
    refine (eqInts_ok (by rw [domsR_len]; exact hb)).runk ?_
    simp [e0, e3, e17, e18, e19]
    refine awake_ok.runk ?_
    simp [e0, e3, e17, e18, e19]
    exact .same rfl
end Go.Den
/- The seat's functions, part W: FlowDominates: the small ones. -/
namespace Go.Den
open IrD
attribute [local irreducible] T.get T.set
set_option linter.unusedSimpArgs false
theorem many19_ok {b : Blk} : PPd (.fn 19 [] []) [.agg (encB b)] (pbool (decide (6 < (b.next.length : Int)))) := by
  refine PP_code rfl rfl rfl (by simp) (by simp) (by simp) (PW_ok _ ?_)
  simp [ir19, encB, ints]
  exact .same rfl
set_option maxRecDepth 8000 in
theorem indexMany19_ok {tb : TypeId} {bs : List Blk} (hb : big bs.length) : PPd (.fn 29 [] []) [blks tb bs, .fn 19 [] []] (pin (manyAt bs)) := by
  refine PP_code rfl rfl rfl (by simp) (by simp) (by simp) (PW_ok _ ?_)
  simp [ir29, blks, recs]
  refine PC_loop0 (fun m E L => ∃ i, i + m = bs.length ∧ (∀ b ∈ bs.take i, decide (6 < (b.next.length : Int)) = false) ∧ L = [] ∧ E.get 0 = some (blks tb bs) ∧ E.get 1 = some (.fn 19 [] []) ∧ E.get 7 = some (pin bs.length) ∧ E.get 8 = some (pin i)) ?_ (k := bs.length) ⟨0, by simp [blks, recs]⟩
  rintro m E L ⟨i, him, hc, rfl, e0, e1, e7, e8⟩
  by_cases hi : i < bs.length
  · have hcut := cutB hi
    simp [e0, e1, e7, e8, hi, blks, recs, hcut]
    refine (many19_ok (b := bs[i])).runk ?_
    by_cases hm : 6 < (bs[i].next.length : Int)
    · simp [hm]
      have := findIdx_at hi hc (by simpa using hm)
      simp only [manyAt, this]
      exact .same rfl
    · simp [hm, e0, e1, e7, e8, wrap_inc hi hb]
      refine ⟨m - 1, by omega, i + 1, by omega, fun b hbm => ?_, by simp [blks, recs]⟩
      rw [List.take_succ_eq_append_getElem hi] at hbm
      rcases List.mem_append.1 hbm with h | h
      · simpa using hc b h
      · have : b = bs[i] := by simpa using h
        subst this; omega
  · have hie : i = bs.length := by omega
    subst hie
    rw [List.take_length] at hc
    simp [e0, e1, e7, e8]
    have : bs.findIdx? (fun b => decide (6 < (b.next.length : Int))) = none := by
      rw [List.findIdx?_eq_none_iff]; exact hc
    simp only [manyAt, this]
    exact .same rfl
set_option maxRecDepth 8000 in
theorem hasMany19_ok {tb : TypeId} {bs : List Blk} (hb : big bs.length) : PPd (.fn 6 [] []) [blks tb bs, .fn 19 [] []] (pbool (decide (0 ≤ manyAt bs))) := by
  refine PP_code rfl rfl rfl (by simp) (by simp) (by simp) (PW_ok _ ?_)
  simp [ir6]
  refine (indexMany19_ok hb).runk ?_
  simp
  exact .same rfl
theorem isNaN_ok {a : Int} : PPd (.fn 62 [] []) [pin a] (pbool false) := by
  refine PP_code rfl rfl rfl (by simp) (by simp) (by simp) (PW_ok _ ?_)
  simp [ir62]
  exact .same rfl
theorem less_ok {a b : Int} : PPd (.fn 40 [] []) [pin a, pin b] (pbool (decide (a < b))) := by
  refine PP_code rfl rfl rfl (by simp) (by simp) (by simp) (PW_ok _ ?_)
  simp [ir40]
  refine isNaN_ok.runk ?_
  simp
  exact .same rfl
def idxI (l : List Int) (n : Int) : Int := match l.findIdx? (fun x => decide (n = x)) with | some i => (i : Int) | none => -1
theorem idxI_nonneg {l : List Int} {n : Int} : 0 ≤ idxI l n ↔ n ∈ l := by
  unfold idxI
  cases h : l.findIdx? (fun x => decide (n = x)) with
  | none =>
    have := List.findIdx?_eq_none_iff.1 h
    simp
    intro hm
    simpa using this n hm
  | some i =>
    rw [List.findIdx?_eq_some_iff_getElem] at h
    obtain ⟨hi, h1, _⟩ := h
    simp at h1
    simp
    exact h1 ▸ List.getElem_mem hi
set_option maxRecDepth 8000 in
theorem index_ok {t : TypeId} {l : List Int} {n : Int} (hb : big l.length) : PPd (.fn 39 [] []) [ints t l, pin n] (pin (idxI l n)) := by
  refine PP_code rfl rfl rfl (by simp) (by simp) (by simp) (PW_ok _ ?_)
  simp [ir39, ints]
  refine PC_loop0 (fun m E L => ∃ i, i + m = l.length ∧ (∀ x ∈ l.take i, decide (n = x) = false) ∧ L = [] ∧ E.get 0 = some (ints t l) ∧ E.get 1 = some (pin n) ∧ E.get 7 = some (pin l.length) ∧ E.get 8 = some (pin i)) ?_ (k := l.length) ⟨0, by simp [ints]⟩
  rintro m E L ⟨i, him, hc, rfl, e0, e1, e7, e8⟩
  by_cases hi : i < l.length
  · simp [e0, e1, e7, e8, hi, ints, cut1 hi]
    by_cases hm : n = l[i]
    · simp [hm, e0, e1, e7, e8]
      have := findIdx_at hi hc (by simpa using hm)
      rw [← hm]
      simp only [idxI, this]
      exact .same rfl
    · simp [hm, e0, e1, e7, e8, wrap_inc hi hb]
      refine ⟨m - 1, by omega, i + 1, by omega, fun x hx => ?_, by simp [ints]⟩
      rw [List.take_succ_eq_append_getElem hi] at hx
      rcases List.mem_append.1 hx with h | h
      · simpa using hc x h
      · have : x = l[i] := by simpa using h
        subst this; exact hm
  · have hie : i = l.length := by omega
    subst hie
    rw [List.take_length] at hc
    simp [e0, e1, e7, e8]
    have : l.findIdx? (fun x => decide (n = x)) = none := by
      rw [List.findIdx?_eq_none_iff]; exact hc
    simp only [idxI, this]
    exact .same rfl
theorem contains_ok {t : TypeId} {l : List Int} {n : Int} (hb : big l.length) : PPd (.fn 21 [] []) [ints t l, pin n] (pbool (decide (n ∈ l))) := by
  refine PP_code rfl rfl rfl (by simp) (by simp) (by simp) (PW_ok _ ?_)
  simp [ir21]
  refine (index_ok hb).runk ?_
  simp [idxI_nonneg]
  exact .same rfl
set_option maxRecDepth 8000 in
theorem sorted_ok {t : TypeId} {l : List Int} (hb : big l.length) (hs : l.Pairwise (· ≤ ·)) : PPd (.fn 22 [] []) [ints t l] (pbool true) := by
  refine PP_code rfl rfl rfl (by simp) (by simp) (by simp) (PW_ok _ ?_)
  have w0 : IntKind.wrap .i64 ((l.length : Int) - 1) = (l.length : Int) - 1 := wrap64 (by omega) (by unfold big at hb; omega)
  simp [ir22, ints, w0]
  refine PC_loop0 (fun m E L => ∃ i : Int, (i + 1).toNat = m ∧ -1 ≤ i ∧ i < l.length ∧ L = [] ∧ E.get 0 = some (ints t l) ∧ E.get 3 = some (pin i)) ?_ ⟨(l.length : Int) - 1, rfl, by omega, by omega, by simp [ints]⟩
  rintro m E L ⟨i, him, h0, h1, rfl, e0, e3⟩
  by_cases hi : 0 < i
  · obtain ⟨k, rfl⟩ : ∃ k : Nat, i = (k : Int) + 1 := ⟨(i - 1).toNat, by omega⟩
    have hk : k + 1 < l.length := by omega
    have hk0 : k < l.length := by omega
    have w1 : IntKind.wrap .i64 (k : Int) = (k : Int) := wrap64 (by omega) (by unfold big at hb; omega)
    have hc1 : cut (l.map pin) (k + 1) 1 = [pin l[k + 1]] := cut1 hk
    have hc0 : cut (l.map pin) k 1 = [pin l[k]] := cut1 hk0
    have hle : l[k] ≤ l[k + 1] := List.pairwise_iff_getElem.1 hs k (k + 1) hk0 hk (by omega)
    have hn1 : ((k : Int) + 1).toNat = k + 1 := by omega
    have hlt : ¬ l[k + 1] < l[k] := by omega
    have hp : 0 ≤ (k : Int) + 1 := by omega
    simp [e0, e3, hi, ints, w1, hc1, hc0, hn1, h1, hk0, hp]
    refine less_ok.runk ?_
    simp [hlt, e0, e3, w1]
    exact ⟨k + 1, by omega, k, by omega, by omega, by omega, by simp [ints]⟩
  · simp [e0, e3, hi]
    exact .same rfl
end Go.Den
/- The seat's functions, part X: FlowDominates: its law; Clone. -/
namespace Go.Den
open IrD
attribute [local irreducible] T.get T.set
set_option linter.unusedSimpArgs false
/-! ### the law -/
theorem idomTo_neg {D : Nat → Nat → Bool} {b : Nat} (h : ∀ d, d ≠ b → D d b = false) : ∀ n, idomTo D b n = -1
  | 0 => rfl
  | n + 1 => by
    rw [idomTo_succ, idomTo_neg h n]
    unfold idomStep
    by_cases e : n = b
    · simp [e]
    · simp [h n e]
theorem idomTo_pos {D : Nat → Nat → Bool} {b : Nat} (hb : b ≠ 0) (h : D 0 b = true) : ∀ n, ∃ k, k ≤ n ∧ idomTo D b (n + 1) = (k : Int) ∧ k ≠ b ∧ D k b = true
  | 0 => ⟨0, Nat.le_refl _, by
      rw [idomTo_succ]
      show idomStep D b (-1) 0 = 0
      unfold idomStep
      have : (0 : Nat) ≠ b := fun e => hb e.symm
      simp [h, this], fun e => hb e.symm, h⟩
  | n + 1 => by
    obtain ⟨k, h1, h2, h3, h4⟩ := idomTo_pos hb h n
    rw [idomTo_succ, h2]
    unfold idomStep
    split
    · rename_i hc
      refine ⟨n + 1, Nat.le_refl _, rfl, ?_, ?_⟩
      · intro e; simp [e] at hc
      · simp at hc; exact hc.2.1
    · exact ⟨k, by omega, rfl, h3, h4⟩
theorem not_reach0 {bs : List Blk} {i : Nat} : ¬ Reach bs 0 i := by
  intro h
  induction h with
  | zero _ h => exact h rfl
  | step _ _ _ ih => exact ih
theorem domP_iff {bs : List Blk} {d b : Nat} : domP bs d b = true ↔ Reach bs (-1) d ∧ Reach bs (-1) b ∧ ¬ Reach bs d b := by
  unfold domP
  rw [reachL_getD, reachL_getD, reachL_getD]
  simp
/-- what Dominators tells of a block -/
theorem doms_at {bs : List Blk} {b : Nat} (hb : b < bs.length) : (doms bs)[b]? = some (idomTo (domP bs) b bs.length) := by simp [doms, hb]
theorem idom_none {bs : List Blk} {b : Nat} (h : ¬ Reach bs (-1) b ∨ b = 0) : idomTo (domP bs) b bs.length = -1 := by
  refine idomTo_neg (fun d hd => ?_) _
  cases hD : domP bs d b with
  | false => rfl
  | true =>
    obtain ⟨h1, h2, h3⟩ := domP_iff.1 hD
    rcases h with h | rfl
    · exact absurd h2 h
    · exact absurd (Reach.zero (by intro e; subst e; have := h2.lt; simp at this) (by omega)) h3
theorem idom_some {bs : List Blk} {b : Nat} (h : Reach bs (-1) b) (hb : b ≠ 0) : ∃ d, d < bs.length ∧ idomTo (domP bs) b bs.length = (d : Int) ∧ d ≠ b ∧ Reach bs (-1) d ∧ ¬ Reach bs d b := by
  have hlt := h.lt
  have h0 : domP bs 0 b = true := domP_iff.2 ⟨.zero (by intro e; subst e; simp at hlt) (by omega), h, not_reach0⟩
  obtain ⟨k, h1, h2, h3, h4⟩ := idomTo_pos hb h0 (bs.length - 1)
  rw [show bs.length - 1 + 1 = bs.length by omega] at h2
  obtain ⟨g1, _, g3⟩ := domP_iff.1 h4
  exact ⟨k, by omega, h2, h3, g1, g3⟩
/-- the graph in which nothing follows the block d -/
def cutAt (bs : List Blk) (d : Nat) : List Blk := bs.modify d fun b => { b with next := [] }
@[simp] theorem cutAt_len {bs : List Blk} {d : Nat} : (cutAt bs d).length = bs.length := by simp [cutAt]
theorem cutAt_reach {bs : List Blk} {d i : Nat} (hd : d ≠ 0) (h : Reach (cutAt bs d) (-1) i) : i = d ∨ Reach bs d i := by
  induction h with
  | zero h1 h2 => exact .inr (.zero (fun e => h1 (by subst e; simp [cutAt])) (by omega))
  | @step i x hr hx hn ih =>
    obtain ⟨a, b, hi, hm⟩ := succs_mem hx
    rw [cutAt_len] at b hi
    have hne : i ≠ d := by
      rintro rfl
      simp [cutAt] at hm
    have hm' : x ∈ bs[i].next := by simpa [cutAt, List.getElem_modify, Ne.symm hne] using hm
    by_cases e : x = d
    · left; omega
    · exact .inr (.step (ih.resolve_left hne) (mem_succs hi hm' (by simp [inG, a, b])) e)
theorem cutAt_ok {bs : List Blk} {d : Nat} (hok : OkG bs) : OkG (cutAt bs d) := by
  refine ⟨by simpa using hok.len, fun b hb => ?_⟩
  obtain ⟨i, hi, rfl⟩ := List.getElem_of_mem hb
  have hi' : i < bs.length := by simpa using hi
  have := hok.next _ (List.getElem_mem hi')
  simp only [cutAt, List.getElem_modify]
  split
  · simp
  · exact this
/-- what Loops tells -/
theorem loops_sorted {bs : List Blk} {a : Lp} (h : a ∈ loopsTo bs bs.length) : 0 ≤ a.head ∧ a.head < bs.length ∧ a.head ∈ a.blocks ∧ a.blocks.Pairwise (· ≤ ·) := by
  unfold loopsTo at h
  obtain ⟨k, hk, rfl⟩ := List.mem_map.1 h
  have hkl : k < bs.length := List.mem_range.1 (List.mem_filter.1 hk).1
  refine ⟨by simp, by simpa using hkl, ?_, ?_⟩
  · simp only [loopL, List.mem_map, List.mem_filter, List.mem_range]
    exact ⟨k, ⟨hkl, by simp [InL.head]⟩, rfl⟩
  · simp only [loopL, List.pairwise_map]
    refine (List.Pairwise.filter _ List.pairwise_lt_range).imp fun h => by omega

theorem flat_cutAt : ∀ {bs : List Blk} {d : Nat}, d < bs.length → (cutAt bs d).flatMap encB = (bs.flatMap encB).set (d * 3 + 2) (ints 3 [])
  | [], d, h => by simp at h
  | b :: bs, 0, _ => by simp [cutAt, encB]
  | b :: bs, d + 1, h => by
    have ih := flat_cutAt (bs := bs) (d := d) (by simpa using h)
    have e1 : cutAt (b :: bs) (d + 1) = b :: cutAt bs d := by simp [cutAt]
    rw [e1, List.flatMap_cons, List.flatMap_cons, ih, show (d + 1) * 3 + 2 = d * 3 + 2 + 3 by omega]
    simp [encB]
theorem vw_cutAt {L : List LObj} {bs : List Blk} {d : Nat} (h : d < bs.length) : VwL [] L ((bs.flatMap encB).set (d * 3 + 2) nilS) ((cutAt bs d).flatMap encB) := by
  rw [flat_cutAt h]
  have hn : noIdL (bs.flatMap encB) = true := by simp
  refine F2.of_idx (by simp) fun i h1 h2 => ?_
  rw [List.getElem_set, List.getElem_set]
  split
  · exact .nil
  · exact .same (noIdL_get hn i _)
/-! ### Clone -/
theorem clone0 {tb : TypeId} {bs : List Blk} (h : bs ≠ []) (hl : bs.length ≤ 1000) : PF FD XA XN false (.fn 20 [] []) [blks tb bs] [] (fun v L' => v = .slc 0 0 bs.length bs.length ∧ L' = [.row 30 (bs.flatMap encB)]) := by
  refine PF_code rfl rfl rfl (PW_ok _ ?_)
  have hn : bs.length ≠ 0 := fun e => h (List.eq_nil_of_length_eq_zero e)
  have hsum : (bs.map fun _ => 3).sum = bs.length * 3 := sumC
  have rr : roomy bs.length 40 := roomy_of (by omega) (by omega)
  have hp : ∀ x ∈ bs, ∀ y ∈ encB x, pone y = true := fun x _ y hy => by
    simp only [encB, List.mem_cons, List.not_mem_nil, or_false] at hy
    rcases hy with rfl | rfl | rfl <;> rfl
  have hpc : (∀ x ∈ bs, ∀ y ∈ encB x, pone y = true) = True := eq_true hp
  simp [ir20, blks, recs, hn, hsum, rr, allOne, h, hpc]
  refine ⟨envOf [(0, .slc 0 0 bs.length bs.length)], _, Abs.viewL [1] _ (by simp) (by simp) (fun i h => by omega) (by simp) (.cons ⟨_, rfl, .row (.same (by simp))⟩ .nil) ?_, _, by simp [envG_cons], rfl, rfl⟩
  simp
  exact .slc rfl
theorem clone_ok {tb : TypeId} {bs : List Blk} (h : bs ≠ []) (hl : bs.length ≤ 1000) (L : List LObj) : PF FD XA XN false (.fn 20 [] []) [blks tb bs] L (fun v L' => v = .slc L.length 0 bs.length bs.length ∧ L' = L ++ [.row 30 (bs.flatMap encB)]) := by
  refine (PF.frame0 rfl (by simp) (clone0 (tb := tb) h hl) false L).mono ?_
  rintro v L' ⟨v0, L0, ⟨rfl, rfl⟩, rfl, rfl⟩
  refine ⟨by simp [ren], ?_⟩
  simp only [List.map_cons, List.map_nil, renO]
  rw [renL_noId]
  simp
end Go.Den
/- The seat's functions, part Y: FlowDominates. -/
namespace Go.Den
open IrD
attribute [local irreducible] T.get T.set
set_option linter.unusedSimpArgs false
structure HEnv (tb : TypeId) (bs : List Blk) (E : PEnv) : Prop where
  e0 : E.get 0 = some (blks tb bs)
  e3 : E.get 3 = some (blks 30 bs)
  e6 : E.get 6 = some (blist 4 (reachL bs (-1)))
  e7 : E.get 7 = some (ints 3 (doms bs))
  e50 : E.get 50 = some (pin bs.length)
def HJ (tb : TypeId) (bs : List Blk) (m : Nat) (E : PEnv) (L : List LObj) : Prop := ∃ b, b + m = bs.length ∧ L = [] ∧ HEnv tb bs E ∧ E.get 51 = some (pn b)
structure KEnvD (bs : List Blk) (E : PEnv) : Prop where
  e3 : E.get 3 = some (blks 30 bs)
  e115 : E.get 115 = some (recs 37 encL (loopsTo bs bs.length))
  e116 : E.get 116 = some (pin (loopsTo bs bs.length).length)
def LJ (bs : List Blk) (m : Nat) (E : PEnv) (L : List LObj) : Prop := ∃ i, i + m = (loopsTo bs bs.length).length ∧ L = [] ∧ KEnvD bs E ∧ E.get 117 = some (pn i)
/-- the building of the copy -/
def GJ4 (tb : TypeId) (bs : List Blk) (m : Nat) (E : PEnv) (L : List LObj) : Prop := ∃ i, i + m = bs.length ∧ E.get 0 = some (blks tb bs) ∧ E.get 22 = some (blks tb bs) ∧ E.get 23 = some (pin bs.length) ∧ E.get 24 = some (pin i) ∧
  ((i < bs.length ∧ L = [.row 30 ((bs.take i).flatMap encB)] ∧ E.get 3 = some (.slc 0 0 i i)) ∨ (i = bs.length ∧ L = [] ∧ E.get 3 = some (blks 30 bs)))
set_option maxRecDepth 8000 in
set_option maxHeartbeats 4000000 in
theorem flowDominates_ok {tb : TypeId} {bs : List Blk} : PPd (.fn 4 [] []) [blks tb bs] (pbool true) := by
  refine PP_code rfl rfl rfl (by simp) (by simp) (by simp) (PW_ok _ ?_)
  by_cases hlen : 25 < bs.length
  · have hlen' : (25 : Int) < bs.length := by omega
    simp [ir4, blks, recs, hlen, hlen']
    refine awake_ok.runk ?_
    simp
    exact .same rfl
  have hlen' : ¬ (25 : Int) < bs.length := by omega
  have hb : big bs.length := by unfold big; omega
  simp [ir4, blks, recs, hlen, hlen']
  refine (hasMany19_ok hb).runk ?_
  by_cases hm : 0 ≤ manyAt bs
  · simp [hm]
    refine awake_ok.runk ?_
    simp
    exact .same rfl
  have hnx := manyAt_neg hm
  have hok : OkG bs := ⟨by omega, fun b hb => Nat.le_trans (hnx b hb) (by omega)⟩
  simp [hm]
  have start : ∀ {E' : PEnv}, E'.get 0 = some (blks tb bs) → E'.get 3 = some nilS → E'.get 22 = some (blks tb bs) → E'.get 23 = some (pin bs.length) → E'.get 24 = some (pn 0) → ∃ E'' L'', Abs 0 E' [] E'' L'' ∧ GJ4 tb bs bs.length E'' L'' := by
    intro E' e0 e3 e17 e18 e19
    by_cases hn : bs.length = 0
    · have : bs = [] := List.eq_nil_of_length_eq_zero hn
      subst this
      refine ⟨envOf [(0, blks tb []), (3, blks 30 []), (22, blks tb []), (23, pin 0), (24, pn 0)], [], Abs.viewL [] _ (by simp) (by simp) (fun i h => by omega) (by simp) .nil ?_, 0, by simp, by simp [envG_cons], by simp [envG_cons], by simp [envG_cons], by simp [envG_cons], .inr ⟨rfl, rfl, by simp [envG_cons]⟩⟩
      simp [e0, e3, e17, e18, e19]
      exact ⟨.same (by simp), .nil, .same (by simp), .same rfl, .same rfl⟩
    · refine ⟨envOf [(0, blks tb bs), (3, .slc 0 0 0 0), (22, blks tb bs), (23, pin bs.length), (24, pn 0)], [.row 30 []], (Abs.addNil 0 _ []).trans (Abs.viewL [0] _ (by simp) (by simp) (fun i h => by omega) (by simp) (.cons ⟨_, rfl, .nilr⟩ .nil) ?_), 0, by simp, by simp [envG_cons], by simp [envG_cons], by simp [envG_cons], by simp [envG_cons], .inl ⟨by omega, by simp, by simp [envG_cons]⟩⟩
      simp [e0, e3, e17, e18, e19]
      exact ⟨.same (by simp), .nilr rfl rfl, .same (by simp), .same rfl, .same rfl⟩
  obtain ⟨E2, L2, ha2, hj2⟩ := start (E' := envOf [(0, blks tb bs), (3, nilS), (22, blks tb bs), (23, pin bs.length), (24, pn 0)]) (by simp [envG_cons]) (by simp [envG_cons]) (by simp [envG_cons]) (by simp [envG_cons]) (by simp [envG_cons])
  refine PC.abs ((Abs.viewL [] [(0, blks tb bs), (3, nilS), (22, blks tb bs), (23, pin bs.length), (24, pn 0)] (by simp) (by simp) (fun i h => by omega) (by simp) .nil ?_).trans ha2) ?_
  · simp
    exact ⟨.same (by simp [recs, blks]), .same rfl, .same (by simp [recs, blks]), .same rfl, .same rfl⟩
  clear start ha2
  refine PC_loop (GJ4 tb bs) ?_ hj2
  clear hj2
  rintro m E L ⟨i, him, e0, e17, e18, e19, ⟨hi, rfl, e3⟩ | ⟨hi, rfl, e3⟩⟩
  · refine PW_ok _ ?_
    have hcut := cutB hi
    have rr : roomy (i + 1) 40 := roomy_of (by omega) (by omega)
    have hsum : (List.take i (bs.map fun _ => 3)).sum = i * 3 := by rw [← List.map_take, sumC, List.length_take, Nat.min_eq_left (by omega)]
    simp [e0, e3, e17, e18, e19, hi, blks, recs, hcut, ints, rr, wrap_inc hi hb, hsum, allOne]
    have hrow : (bs.take i).flatMap encB ++ [pin bs[i].src, pin bs[i].to, .fz 3 bs[i].next.length (bs[i].next.map pin)] = (bs.take (i + 1)).flatMap encB := by
      rw [List.take_succ_eq_append_getElem hi, List.flatMap_append]; simp [encB, ints]
    rw [hrow]
    by_cases hl : i + 1 < bs.length
    · refine ⟨m - 1, by omega, envOf [(0, blks tb bs), (3, .slc 0 0 (i + 1) (i + 1)), (22, blks tb bs), (23, pin bs.length), (24, pn (i + 1))], [.row 30 ((bs.take (i + 1)).flatMap encB)], Abs.viewL [3] _ (by simp) (by simp) (fun i h => by omega) (by simp) (.cons ⟨_, rfl, .row (.same (by simp))⟩ .nil) ?_, i + 1, by omega, by simp [envG_cons], by simp [envG_cons], by simp [envG_cons], by simp [envG_cons], .inl ⟨hl, rfl, by simp [envG_cons]⟩⟩
      simp [e0, e17, e18]
      exact ⟨.same (by simp), .slc rfl, .same (by simp), .same rfl, .same rfl⟩
    · have hie : i + 1 = bs.length := by omega
      refine ⟨m - 1, by omega, envOf [(0, blks tb bs), (3, blks 30 bs), (22, blks tb bs), (23, pin bs.length), (24, pn (i + 1))], [], Abs.viewL [] _ (by simp) (by simp) (fun i h => by omega) (by simp) .nil ?_, i + 1, by omega, by simp [envG_cons], by simp [envG_cons], by simp [envG_cons], by simp [envG_cons], .inr ⟨hie, rfl, by simp [envG_cons]⟩⟩
      simp [e0, e17, e18]
      exact ⟨.same (by simp), .frz rfl (by simp) (by simp) (by rw [hie, List.take_length]; rfl), .same (by simp), .same rfl, .same rfl⟩
  refine PW_ok _ ?_
  have hni : ¬ i < bs.length := by omega
  simp [e0, e3, e17, e18, e19, hni]
  refine (reached_ok hok).runk ?_
  simp [e0, e3, e17, e18, e19]
  refine (dominators_ok hok).runk ?_
  have hrl := reachL_len (bs := bs) (no := -1)
  have hdl : (doms bs).length = bs.length := by simp [doms]
  have hbl : blist 4 (reachL bs (-1)) = .fz 4 bs.length ((reachL bs (-1)).map pbool) := by rw [blist, hrl]
  have hil : ints 3 (doms bs) = .fz 3 bs.length ((doms bs).map pin) := by rw [ints, hdl]
  simp [e0, e3, e17, e18, e19, hbl, hil, blks, recs]
  refine PC_loop (HJ tb bs) ?_ (k := bs.length) ⟨0, by simp, rfl, ⟨by simp [e0], by simp [e3, blks, recs], by simp [hbl], by simp [hil], by simp⟩, by simp⟩
  clear e0 e3 e17 e18 e19 him hi hni
  rintro m2 E L ⟨b, hbm, rfl, ⟨e0, e3, e6, e7, e50⟩, e51⟩
  by_cases hbb : b < bs.length
  case neg =>
    refine PW_ok _ ?_
    have : b = bs.length := by omega
    subst this
    simp [e0, e3, e6, e7, e50, e51]
    refine (loops_ok hok).runk ?_
    simp [e0, e3, e6, e7, e50, e51, recs]
    have hlb : big (loopsTo bs bs.length).length := Nat.le_trans (loopsTo_len (bs := bs)) hb
    refine PC_loop (LJ bs) ?_ (k := (loopsTo bs bs.length).length) ⟨0, by simp, rfl, ⟨by simp [e3], by simp [recs], by simp⟩, by simp⟩
    clear e0 e3 e6 e7 e50 e51
    rintro m3 E L ⟨i, him, rfl, ⟨e3, e115, e116⟩, e117⟩
    refine PW_ok _ ?_
    by_cases hi : i < (loopsTo bs bs.length).length
    case neg =>
      simp [e3, e115, e116, e117, hi]
      refine awake_ok.runk ?_
      simp
      exact .same rfl
    have hcut : cut ((loopsTo bs bs.length).flatMap encL) (i * 2) 2 = [pin (loopsTo bs bs.length)[i].head, ints 3 (loopsTo bs bs.length)[i].blocks] := cutk encL_len hi
    obtain ⟨s1, s2, s3, s4⟩ := loops_sorted (List.getElem_mem hi)
    have hbk := loopsTo_blocks (List.getElem_mem hi)
    generalize (loopsTo bs bs.length)[i] = a at hcut s1 s2 s3 s4 hbk
    have hba : big a.blocks.length := Nat.le_trans hbk hb
    have t1 : ¬ a.head < 0 := by omega
    have t2 : ¬ (bs.length : Int) ≤ a.head := by omega
    simp [e3, e115, e116, e117, hi, recs, hcut, ints, t1, t2, blks]
    refine (contains_ok (t := 3) (l := a.blocks) (n := a.head) hba).runk ?_
    simp [s3, ints]
    refine (sorted_ok (t := 3) (l := a.blocks) hba s4).runk ?_
    simp [e3, e115, e116, e117, wrap_inc hi hlb]
    refine ⟨m3 - 1, by omega, envOf [(3, blks 30 bs), (115, recs 37 encL (loopsTo bs bs.length)), (116, pin (loopsTo bs bs.length).length), (117, pn (i + 1))], [], Abs.viewL [] _ (by simp) (by simp) (fun i h => by omega) (by simp) .nil ?_, i + 1, by omega, rfl, ⟨by simp [envG_cons], by simp [envG_cons], by simp [envG_cons]⟩, by simp [envG_cons]⟩
    simp [e3, e115, e116, recs]
    exact ⟨.same (by simp), .same (by simp), .same rfl, .same rfl⟩
  have hbr : b < (reachL bs (-1)).length := by omega
  have hbd : b < (doms bs).length := by omega
  have hc6 : cut ((reachL bs (-1)).map pbool) b 1 = [pbool (reachL bs (-1))[b]] := cut1 hbr
  have hc7 : cut ((doms bs).map pin) b 1 = [pin (doms bs)[b]] := cut1 hbd
  have hd7 : (doms bs)[b] = idomTo (domP bs) b bs.length := by have := doms_at hbb; rw [List.getElem?_eq_getElem hbd] at this; exact Option.some.inj this
  have next : ∀ {E' : PEnv} {L' : List LObj}, Abs 0 E' L' (envOf [(0, blks tb bs), (3, blks 30 bs), (6, blist 4 (reachL bs (-1))), (7, ints 3 (doms bs)), (50, pin bs.length), (51, pn (b + 1))]) [] → ∃ k', k' < m2 ∧ ∃ E'' L'', Abs 0 E' L' E'' L'' ∧ HJ tb bs k' E'' L'' := fun ha =>
    ⟨m2 - 1, by omega, _, _, ha, b + 1, by omega, rfl, ⟨by simp [envG_cons], by simp [envG_cons], by simp [envG_cons], by simp [envG_cons], by simp [envG_cons]⟩, by simp [envG_cons]⟩
  by_cases hr : Reach bs (-1) b ∧ b ≠ 0
  case neg =>
    refine PW_ok _ ?_
    have hid : idomTo (domP bs) b bs.length = -1 := idom_none ((Decidable.em (b = 0)).symm.imp (fun h hh => hr ⟨hh, h⟩) id)
    rw [hid] at hd7
    have fin : ∀ {E' : PEnv}, E'.get 0 = some (blks tb bs) → E'.get 3 = some (blks 30 bs) → E'.get 6 = some (blist 4 (reachL bs (-1))) → E'.get 7 = some (ints 3 (doms bs)) → E'.get 50 = some (pin bs.length) → E'.get 51 = some (pn (b + 1)) → ∃ k', k' < m2 ∧ ∃ E'' L'', Abs 0 E' [] E'' L'' ∧ HJ tb bs k' E'' L'' := fun a c d e f g =>
      ⟨m2 - 1, by omega, _, _, .refl _ _ _, b + 1, by omega, rfl, ⟨a, c, d, e, f⟩, g⟩
    have w01 : IntKind.wrap .i64 1 = 1 := by decide
    by_cases hz : b = 0
    · subst hz
      cases hrf : (reachL bs (-1))[0] with
      | false =>
        simp [e0, e3, e6, e7, e50, e51, hbb, hbl, hil, hc6, hc7, hrf, hd7, wrap_inc hbb hb]
        exact fin (by simp [e0]) (by simp [e3]) (by simp [e6, hbl]) (by simp [e7, hil]) (by simp [e50]) (by simp [w01])
      | true =>
        simp [e0, e3, e6, e7, e50, e51, hbb, hbl, hil, hc6, hc7, hrf, hd7, wrap_inc hbb hb]
        exact fin (by simp [e0]) (by simp [e3]) (by simp [e6, hbl]) (by simp [e7, hil]) (by simp [e50]) (by simp [w01])
    · have hrf : (reachL bs (-1))[b] = false := by
        cases h : (reachL bs (-1))[b] with
        | false => rfl
        | true => exact absurd ⟨(reachL_get hbb).1 (by rw [List.getElem?_eq_getElem hbr, h]), hz⟩ hr
      simp [e0, e3, e6, e7, e50, e51, hbb, hbl, hil, hc6, hc7, hrf, hd7, wrap_inc hbb hb]
      exact fin (by simp [e0]) (by simp [e3]) (by simp [e6, hbl]) (by simp [e7, hil]) (by simp [e50]) (by simp)
  obtain ⟨hrb, hbz⟩ := hr
  obtain ⟨d, hdl2, hid, hdb, hrd, hnr⟩ := idom_some hrb hbz
  rw [hid] at hd7
  have hrf : (reachL bs (-1))[b] = true := by have := (reachL_get hbb).2 hrb; rw [List.getElem?_eq_getElem hbr] at this; exact Option.some.inj this
  have hdr : d < (reachL bs (-1)).length := by omega
  have hrdf : (reachL bs (-1))[d] = true := by have := (reachL_get hdl2).2 hrd; rw [List.getElem?_eq_getElem hdr] at this; exact Option.some.inj this
  have hc6d : cut ((reachL bs (-1)).map pbool) d 1 = [pbool (reachL bs (-1))[d]] := cut1 hdr
  have hdge : ¬ (d : Int) ≥ bs.length := by omega
  have hdn : ¬ (d : Int) < 0 := by omega
  have hdl' : ¬ bs.length ≤ d := by omega
  have hz' : ¬ (0 : Int) = b := by omega
  have hdb' : ¬ (d : Int) = b := by omega
  have hnb : noId (.fz 4 bs.length ((reachL bs (-1)).map pbool)) = true := by rw [← hbl]; simp
  have hni : noId (.fz 3 bs.length ((doms bs).map pin)) = true := by rw [← hil]; simp
  have hne : ¬ bs = [] := by intro e; subst e; simp at hbb
  refine PC.mono (Q := pnext (fun E' L' => Abs 0 E' L' (envOf [(0, blks tb bs), (3, blks 30 bs), (6, blist 4 (reachL bs (-1))), (7, ints 3 (doms bs)), (50, pin bs.length), (51, pn (b + 1))]) []) (fun _ _ _ => False)) ?_ (fun x E' L' h => ?_)
  case refine_2 =>
    cases x with
    | norm =>
      obtain ⟨k', a, E'', L'', c, d⟩ := next h
      exact ⟨k', E'', L'', a, c, d⟩
    | _ => exact h.elim
  clear next
  by_cases hd0 : d = 0
  · refine PW_ok _ ?_
    subst hd0
    simp [e0, e3, e6, e7, e50, e51, hbb, hbl, hil, hc6, hc7, hrf, hd7, hc6d, hrdf, hbz, Ne.symm hbz, blks, recs, wrap_inc hbb hb, hne, hz', hdl2]
    refine Abs.viewL [] _ (by simp) (by simp) (fun i h => by omega) (by simp) .nil ?_
    simp [e0, e3, e6, e7, e50, hbl, hil, blks, recs]
    exact ⟨.same (by simp), .same (by simp), .same hnb, .same hni, .same rfl, .same rfl⟩
  refine PC_seq (PW_ok _ ?_)
  simp [e50, e51, hbb]
  refine PC_seq (PW_ok _ ?_)
  simp
  refine PC_seq (PC_block ?_)
  refine PC_seq (PW_ok _ ?_)
  simp [e51]
  refine PC_seq (PW_ok _ ?_)
  simp [e0, e3, e6, e7, e50, e51, hbb, hbl, hil, hc6, hc7, hrf, hd7, hbz]
  refine PC_seq (PW_ok _ ?_)
  simp [e0, e3, e6, e7, e50, e51, hbb, hbl, hil, hc6, hc7, hrf, hd7, hbz]
  refine PC_seq (PW_ok _ ?_)
  simp [e0, e3, e6, e7, e50, e51, hbb, hbl, hil, hc6, hc7, hrf, hd7, hbz, blks, recs, hdl2, hdb, hc6d, hrdf, hdn, hdl', hdb']
  refine PC_seq (PW_ok _ ?_)
  simp [hd0]
  refine PC_seq (PW_ok _ ?_)
  simp [e3]
  unfold PFk
  refine (clone_ok (tb := 30) hne hok.len []).mono ?_
  rintro v L' ⟨rfl, rfl⟩
  have hcutd : cut (bs.flatMap encB) (d * 3) 3 = [pin bs[d].src, pin bs[d].to, ints 3 bs[d].next] := cutB hdl2
  have hsum : (bs.map fun _ => 3).sum = bs.length * 3 := sumC
  have hd3 : d * 3 + 2 < bs.length * 3 := by omega
  simp
  refine PC_seq (PW_ok _ ?_)
  simp [hdl2, hcutd, hsum, hd3, allOne]
  refine PC.abs (Abs.viewL [] [(0, blks tb bs), (3, blks 30 bs), (6, blist 4 (reachL bs (-1))), (7, ints 3 (doms bs)), (8, pn b), (10, blks 30 (cutAt bs d)), (50, pin bs.length), (51, pn b)] (by simp) (by simp) (fun i h => by omega) (by simp) .nil ?_) ?_
  · simp [e0, e3, e6, e7, e50, e51, hbl, hil, blks, recs]
    refine ⟨.same (by simp), .same (by simp), .same hnb, .same hni, .same rfl, ?_, .same rfl, .same rfl⟩
    have hv := vw_cutAt (L := [.row 30 ((bs.flatMap encB).set (d * 3 + 2) nilS)]) hdl2
    exact .fzs (cs := (bs.flatMap encB).set (d * 3 + 2) nilS) (cs'' := (bs.flatMap encB).set (d * 3 + 2) nilS) (by simp) rfl (allNl_set (by simp) rfl) (Nat.zero_le _) (by rw [List.drop_zero, List.take_length]) hv.length fun i h1 h2 => F2.idx hv i h1 h2
  clear e0 e3 e6 e7 e50 e51
  refine PC_seq (PW_ok _ ?_)
  simp [envG_cons]
  refine (reached_ok (cutAt_ok hok)).runk ?_
  have hr2 : (reachL (cutAt bs d) (-1)).length = bs.length := by rw [reachL_len, cutAt_len]
  have hb2 : b < (reachL (cutAt bs d) (-1)).length := by omega
  have hf2 : (reachL (cutAt bs d) (-1))[b] = false := by
    cases h : (reachL (cutAt bs d) (-1))[b] with
    | false => rfl
    | true =>
      exfalso
      have := (reachL_get (bs := cutAt bs d) (no := -1) (i := b) (by rw [cutAt_len]; exact hbb)).1 (by rw [List.getElem?_eq_getElem hb2, h])
      rcases cutAt_reach hd0 this with h1 | h1
      · exact hdb h1.symm
      · exact hnr h1
  have hbl2 : blist 4 (reachL (cutAt bs d) (-1)) = .fz 4 bs.length ((reachL (cutAt bs d) (-1)).map pbool) := by rw [blist, hr2]
  have hc8 : cut ((reachL (cutAt bs d) (-1)).map pbool) b 1 = [pbool (reachL (cutAt bs d) (-1))[b]] := cut1 hb2
  have hnb2 : noId (.fz 4 bs.length ((reachL (cutAt bs d) (-1)).map pbool)) = true := by rw [← hbl2]; simp
  simp [envG_cons]
  refine PC_seq (PW_ok _ ?_)
  simp [envG_cons, hbl2, blks, recs, hbb, hc8, hf2]
  refine PW_ok _ ?_
  simp [envG_cons]
  refine PW_ok _ ?_
  simp [envG_cons, wrap_inc hbb hb]
  refine Abs.viewL [] _ (by simp) (by simp) (fun i h => by omega) (by simp) .nil ?_
  simp [envG_cons, hbl, hil]
  exact ⟨.same (by simp), .same (by simp), .same hnb, .same hni, .same rfl, .same rfl⟩
end Go.Den
/- Cls, part A: memory of the machine that is only read, as rows of an abstract heap. -/
namespace Go.Den

/-- a part of a block: where it begins, its elements' type, its cells as trees, its cells -/
structure Win where
  b : Nat
  o : Nat
  t : TypeId
  ps : List PV
  xs : List Value

/-- how a value of the machine reads as a tree -/
inductive RdV (ws : List Win) : PV → Value → Prop
  | v {x : Value} : atom x = true → RdV ws (.v x) x
  | fz0 {t : TypeId} {a : Option Addr} : RdV ws (.fz t 0 []) (.slice a 0 0)
  | fz {w : Win} {n cap : Nat} : w ∈ ws → n ≤ cap → RdV ws (.fz w.t n w.ps) (.slice (some ⟨w.b, w.o, none⟩) n cap)
  | agg {a : List PV} {a' : Array Value} : a.length = a'.size → (∀ i (h : i < a.length) (h' : i < a'.size), RdV ws a[i] a'[i]) → RdV ws (.agg a) (.agg a')
abbrev RdL (ws : List Win) := F2 (RdV ws)
theorem RdV.mono {ws ws' : List Win} (h : ∀ w ∈ ws, w ∈ ws') {p : PV} {x : Value} (hr : RdV ws p x) : RdV ws' p x := by
  induction hr with
  | v h => exact .v h
  | fz0 => exact .fz0
  | fz hw hn => exact .fz (h _ hw) hn
  | agg h1 _ ih => exact .agg h1 ih
theorem RdL.mono {ws ws' : List Win} (h : ∀ w ∈ ws, w ∈ ws') {p : List PV} {x : List Value} (hr : RdL ws p x) : RdL ws' p x := F2.mono (fun _ _ => RdV.mono h) hr

structure WinOk (P : Program) (hp : Array Obj) (ws : List Win) (w : Win) : Prop where
  at_ : ∃ ccs ct fr, hp[w.b]? = some (.cells ccs ct fr) ∧ w.o + w.xs.length ≤ ccs.size ∧ (ccs.toList.drop w.o).take w.xs.length = w.xs
  vals : RdL ws w.ps w.xs
  sz : ∃ n, 0 < n ∧ szOf P w.t = some n
  apart : glZ w.b = none
theorem WinOk.mono {P : Program} {hp : Array Obj} {ws ws' : List Win} (h : ∀ w ∈ ws, w ∈ ws') {w : Win} (hw : WinOk P hp ws w) : WinOk P hp ws' w := ⟨hw.at_, hw.vals.mono h, hw.sz, hw.apart⟩

/-- the variables' rows lie in memory -/
def GlOk (hp : Array Obj) (N : Nat) : Prop := ∀ k z, glZ k = some z → k < N ∧ z.r = k ∧ z.ex = true ∧ z.cs.all atom = true ∧ ∃ ccs ct fr, hp[k]? = some (.cells ccs ct fr) ∧ z.cs.length ≤ ccs.size ∧ ccs.toList.take z.cs.length = z.cs

/-! ### abstract values -/
def WinAt (ws : List Win) (a : Addr) (t : TypeId) (ps : List PV) (i : Nat) : Prop := a.spot = none ∧ ∃ w, ws[i]? = some w ∧ w.b = a.block ∧ w.o = a.off ∧ w.t = t ∧ w.ps = ps
open Classical in
noncomputable def winV (N : Nat) (ws : List Win) (t : TypeId) (ps : List PV) : Value → Value
  | .slice (some a) n cap => if h : ∃ i, WinAt ws a t ps i then .slice (some ⟨N + h.choose, 0, none⟩) n cap else .slice (some ⟨0, 0, some 0⟩) 0 0
  | x => x
mutual
noncomputable def absV (N : Nat) (ws : List Win) : PV → Value → Value
  | .fz t _ ps, x => winV N ws t ps x
  | .agg ps, x => .agg (absL N ws ps (match x with | .agg xs => xs.toList | _ => [])).toArray
  | .v _, x => x
  | .ptr _ _, x => x
  | .slc _ _ _ _, x => x
  | .mapr _, x => x
  | .fn _ _ _, x => x
  | .ifc _ _, x => x
  | .tup _, x => x
  | .fp _, x => x
  | .ow _ _ _ _, x => x
  | .bx _ _, x => x
  | .yl _, x => x
noncomputable def absL (N : Nat) (ws : List Win) : List PV → List Value → List Value
  | [], _ => []
  | p :: ps, xs => absV N ws p (xs.headD (.nilFunc)) :: absL N ws ps xs.tail
end
variable {N : Nat} {ws : List Win}
theorem absL_length : ∀ {ps : List PV} {xs : List Value}, (absL N ws ps xs).length = ps.length
  | [], _ => by simp [absL]
  | _ :: ps, xs => by simp [absL, absL_length (ps := ps)]
theorem absL_get : ∀ {ps : List PV} {xs : List Value} (i : Nat) (h : i < ps.length) (h' : i < xs.length), (absL N ws ps xs)[i]'(by rw [absL_length]; exact h) = absV N ws ps[i] xs[i]
  | [], _, i, h, _ => absurd h (by simp)
  | p :: ps, [], i, _, h' => absurd h' (by simp)
  | p :: ps, x :: xs, 0, h, h' => by simp [absL]
  | p :: ps, x :: xs, i + 1, h, h' => by
    simp only [absL, List.tail_cons, List.getElem_cons_succ]
    exact absL_get i (by simpa using h) (by simpa using h')

/-! ### trees of objects -/
def treeTo (f : Nat → Option AObj) : Nat → T AObj
  | 0 => .leaf
  | n + 1 => match f n with
    | some o => (treeTo f n).set n o
    | none => treeTo f n
theorem treeTo_get (f : Nat → Option AObj) : ∀ (n j : Nat), (treeTo f n).get j = if j < n then f j else none
  | 0, j => by simp [treeTo, T.get]
  | n + 1, j => by
    unfold treeTo
    cases hf : f n with
    | some o =>
      simp only [T.get_set]
      by_cases e : j = n
      · subst e; simp [hf]
      · rw [if_neg e, treeTo_get f n j]
        by_cases h : j < n
        · rw [if_pos h, if_pos (by omega)]
        · rw [if_neg h, if_neg (by omega)]
    | none =>
      simp only
      rw [treeTo_get f n j]
      by_cases e : j = n
      · subst e; simp [hf]
      · by_cases h : j < n
        · rw [if_pos h, if_pos (by omega)]
        · rw [if_neg h, if_neg (by omega)]

/-! ### the heap -/
def rootW (ws : List Win) (b : Nat) : Nat := ws.findIdx (fun w => w.b == b)
theorem rootW_le {i : Nat} {w : Win} (h : ws[i]? = some w) : rootW ws w.b ≤ i := by
  unfold rootW
  rcases Nat.lt_or_ge i (ws.findIdx fun w' => w'.b == w.b) with hlt | hge
  · obtain ⟨hi, rfl⟩ := List.getElem?_eq_some_iff.1 h
    have := List.not_of_lt_findIdx hlt
    simp at this
  · exact hge
theorem rootW_at {i : Nat} {w : Win} (h : ws[i]? = some w) : ∃ w0, ws[rootW ws w.b]? = some w0 ∧ w0.b = w.b := by
  have h1 := rootW_le h
  have hi := (List.getElem?_eq_some_iff.1 h).1
  have hlt : rootW ws w.b < ws.length := by omega
  refine ⟨ws[rootW ws w.b], List.getElem?_eq_getElem hlt, ?_⟩
  have := List.findIdx_getElem (p := fun w' : Win => w'.b == w.b) (xs := ws) (w := hlt)
  exact eq_of_beq (show (ws[rootW ws w.b].b == w.b) = true from this)
noncomputable def rowsW (N : Nat) (ws : List Win) (k : Nat) : Option AObj :=
  if k < N then (glZ k).map fun z => .cells z.cs z.t true z.ex z.r z.r z.r
  else (ws[k - N]?).map fun w => .cells (absL N ws w.ps w.xs) w.t true false (N + rootW ws w.b) (N + rootW ws w.b) (N + ws.length)
noncomputable def heapW (N : Nat) (ws : List Win) : AH := ⟨treeTo (rowsW N ws) (N + ws.length), N + ws.length, N + ws.length⟩
def blkSize (hp : Array Obj) (b : Nat) : Nat := match hp[b]? with | some (.cells ccs _ _) => ccs.size | _ => 0
def sigW (P : Program) (hp : Array Obj) (N : Nat) (ws : List Win) : Ren := fun k =>
  if k < N then (glZ k).map fun _ => ⟨k, 0, blkSize hp k, 0⟩ else (ws[k - N]?).map fun w => ⟨w.b, w.o, blkSize hp w.b, (szOf P w.t).getD 0⟩
noncomputable def zetW (N : Nat) (ws : List Win) : Zeta := fun k =>
  if k < N then glZ k else (ws[k - N]?).map fun w => ⟨w.t, false, absL N ws w.ps w.xs, N + rootW ws w.b⟩
theorem heapW_get {k : Nat} : (heapW N ws).get k = rowsW N ws k := by
  show (treeTo (rowsW N ws) (N + ws.length)).get k = _
  rw [treeTo_get]
  by_cases h : k < N + ws.length
  · rw [if_pos h]
  · rw [if_neg h]
    unfold rowsW
    rw [if_neg (by omega), List.getElem?_eq_none (by omega)]
    rfl
variable {P : Program} {hp : Array Obj} {gl : Nat → Bool}
theorem atom_one {x : Value} (h : atom x = true) : one x = true := by cases x <;> simp_all [atom, one]
theorem VR.atom (σ : Ren) {x : Value} (h : Den.atom x = true) : VR σ x x := by
  cases x <;> simp [Den.atom] at h
  · exact .bool _
  · exact .int _ _
  · exact .float _ _
  · exact .string _
theorem winAt_of {w : Win} (hw : w ∈ ws) : ∃ i, WinAt ws ⟨w.b, w.o, none⟩ w.t w.ps i := by
  obtain ⟨i, hi, rfl⟩ := List.getElem_of_mem hw
  exact ⟨i, rfl, ws[i], List.getElem?_eq_getElem hi, rfl, rfl, rfl, rfl⟩

theorem VR.absV {p : PV} {x : Value} (h : RdV ws p x) : VR (sigW P hp N ws) (Den.absV N ws p x) x := by
  induction h with
  | v h => exact .atom _ h
  | @fz0 t a =>
    simp only [Den.absV]
    cases a with
    | none => exact .sliceNil
    | some a =>
      simp only [winV]
      split
      · rename_i h
        obtain ⟨hs, w, h1, h2, h3, _⟩ := h.choose_spec
        obtain ⟨ab, ao, as⟩ := a
        simp only at hs h2 h3
        subst hs; subst h2; subst h3
        refine VR.slice (p := ⟨w.b, w.o, blkSize hp w.b, (szOf P w.t).getD 0⟩) ?_ (.inl rfl) (.inl rfl) (Nat.le_refl _)
        unfold sigW
        rw [if_neg (by omega), Nat.add_sub_cancel_left, h1]; rfl
      · exact .sliceE rfl
  | @fz w n cap hw hn =>
    simp only [Den.absV, winV]
    rw [dif_pos (winAt_of hw)]
    obtain ⟨_, w', h1, h2, h3, _⟩ := (winAt_of hw).choose_spec
    simp only at h2 h3
    revert h1
    generalize (winAt_of hw).choose = j
    intro h1
    rw [← h2, ← h3]
    refine VR.slice (p := ⟨w'.b, w'.o, blkSize hp w'.b, (szOf P w'.t).getD 0⟩) ?_ (.inl rfl) (.inl rfl) hn
    unfold sigW
    rw [if_neg (by omega), Nat.add_sub_cancel_left, h1]; rfl
  | @agg a a' h1 _ ih =>
    simp only [Den.absV]
    refine .agg (by simp [absL_length, h1]) (fun i hi hi' => ?_)
    simp only [List.getElem_toArray]
    rw [absL_get i (by omega) (by simpa using hi')]
    simpa using ih i (by omega) hi'
theorem VL.absL {ps : List PV} {xs : List Value} (h : RdL ws ps xs) : VL (sigW P hp N ws) (Den.absL N ws ps xs) xs :=
  F2.of_idx (by rw [absL_length, h.length]) fun i h1 h2 => by
    rw [absL_get i (by rw [absL_length] at h1; exact h1) h2]
    exact .absV (F2.idx h i _ _)

theorem VP.absV (hws : ∀ w ∈ ws, WinOk P hp ws w) : ∀ (m : Nat) {p : PV} {x : Value}, SizeOf.sizeOf p < m → RdV ws p x → VP (fun _ => none) (zetW N ws) p (Den.absV N ws p x)
  | 0, _, _, hm, _ => absurd hm (Nat.not_lt_zero _)
  | m + 1, p, x, hm, h => by
    have key : ∀ {w' : Win} {j : Nat} {n cap : Nat}, ws[j]? = some w' → n ≤ cap → (∀ q ∈ w'.ps, SizeOf.sizeOf q < m) → VP (fun _ => none) (zetW N ws) (.fz w'.t n w'.ps) (.slice (some ⟨N + j, 0, none⟩) n cap) := by
      intro w' j n cap hj hn hsz
      have hw' := hws _ (List.mem_of_getElem? hj)
      have hl := hw'.vals.length
      refine .fz (z := ⟨w'.t, false, Den.absL N ws w'.ps w'.xs, N + rootW ws w'.b⟩) ?_ (Nat.zero_le _) (.inr rfl) rfl (by simp [absL_length]) (fun i h1 h2 => ?_) hn
      · unfold zetW
        rw [if_neg (by omega), Nat.add_sub_cancel_left, hj]; rfl
      · simp only [List.drop_zero, List.getElem_take]
        rw [absL_get i h1 (by omega)]
        exact VP.absV hws m (hsz _ (List.getElem_mem h1)) (F2.idx hw'.vals i _ _)
    cases h with
    | v h => exact .v (atom_one h)
    | @fz0 t a =>
      simp only [Den.absV]
      cases a with
      | none => exact .fz0 fun _ h => by cases h
      | some a =>
        simp only [winV]
        split
        · rename_i h
          obtain ⟨hs, w, h1, h2, h3, h4, h5⟩ := h.choose_spec
          have := key (n := 0) (cap := 0) h1 (Nat.le_refl _) (by rw [h5]; simp)
          rw [h4, h5] at this
          exact this
        · exact .fz0 fun _ h => by cases h; rfl
    | @fz w n cap hw hn =>
      simp only [Den.absV, winV]
      rw [dif_pos (winAt_of hw)]
      obtain ⟨_, w', h1, h2, h3, h4, h5⟩ := (winAt_of hw).choose_spec
      have := key h1 hn (fun q hq => by
        rw [h5] at hq
        have := List.sizeOf_lt_of_mem hq
        simp only [PV.fz.sizeOf_spec] at hm
        omega)
      rw [h4, h5] at this
      exact this
    | @agg a a' h1 h2 =>
      simp only [Den.absV]
      refine .agg (by simp [absL_length]) (fun i hi hi' => ?_)
      simp only [List.getElem_toArray]
      rw [absL_get i hi (by simp; omega)]
      have := List.sizeOf_lt_of_mem (List.getElem_mem hi)
      simp only [PV.agg.sizeOf_spec] at hm
      have := VP.absV hws m (by omega) (h2 i hi (by omega))
      simpa using this
theorem VPL.absL (hws : ∀ w ∈ ws, WinOk P hp ws w) {ps : List PV} {xs : List Value} (h : RdL ws ps xs) : VPL (fun _ => none) (zetW N ws) ps (Den.absL N ws ps xs) :=
  F2.of_idx absL_length.symm fun i h1 h2 => by
    rw [absL_get i h1 (by have := h.length; omega)]
    exact VP.absV hws _ (Nat.lt_succ_self _) (F2.idx h i h1 (by have := h.length; omega))
end Go.Den
/- Cls, part B: the abstract heap is that of the machine; a call. -/
namespace Go.Den
variable {N : Nat} {ws : List Win} {P : Program} {hp : Array Obj} {gl : Nat → Bool}

theorem rowsW_low {k : Nat} {z : Zr} (hk : k < N) (hz : glZ k = some z) : rowsW N ws k = some (.cells z.cs z.t true z.ex z.r z.r z.r) := by
  unfold rowsW; rw [if_pos hk, hz]; rfl
theorem rowsW_high {i : Nat} {w : Win} (hw : ws[i]? = some w) : rowsW N ws (N + i) = some (.cells (absL N ws w.ps w.xs) w.t true false (N + rootW ws w.b) (N + rootW ws w.b) (N + ws.length)) := by
  unfold rowsW; rw [if_neg (by omega), Nat.add_sub_cancel_left, hw]; rfl
/-- every row: one of a variable, or a window's -/
theorem rowsW_cases {k : Nat} {o : AObj} (h : rowsW N ws k = some o) : (k < N ∧ ∃ z, glZ k = some z ∧ o = .cells z.cs z.t true z.ex z.r z.r z.r) ∨
    ∃ i w, k = N + i ∧ ws[i]? = some w ∧ o = .cells (absL N ws w.ps w.xs) w.t true false (N + rootW ws w.b) (N + rootW ws w.b) (N + ws.length) := by
  unfold rowsW at h
  split at h
  · rename_i hk
    obtain ⟨z, h1, h2⟩ := Option.map_eq_some_iff.1 h
    exact .inl ⟨hk, z, h1, h2.symm⟩
  · rename_i hk
    obtain ⟨w, h1, h2⟩ := Option.map_eq_some_iff.1 h
    exact .inr ⟨k - N, w, by omega, h1, h2.symm⟩
theorem sigW_cases {k : Nat} {p : Place} (h : sigW P hp N ws k = some p) : (k < N ∧ ∃ z, glZ k = some z ∧ p = ⟨k, 0, blkSize hp k, 0⟩) ∨
    ∃ i w, k = N + i ∧ ws[i]? = some w ∧ p = ⟨w.b, w.o, blkSize hp w.b, (szOf P w.t).getD 0⟩ := by
  unfold sigW at h
  split at h
  · rename_i hk
    obtain ⟨z, h1, h2⟩ := Option.map_eq_some_iff.1 h
    exact .inl ⟨hk, z, h1, h2.symm⟩
  · rename_i hk
    obtain ⟨w, h1, h2⟩ := Option.map_eq_some_iff.1 h
    exact .inr ⟨k - N, w, by omega, h1, h2.symm⟩
theorem lt_ix {i : Nat} {w : Win} (h : ws[i]? = some w) : i < ws.length := (List.getElem?_eq_some_iff.1 h).1
theorem blkSize_at {b : Nat} {ccs : Array Value} {ct : TypeId} {fr : Nat × Nat} (h : hp[b]? = some (.cells ccs ct fr)) : blkSize hp b = ccs.size := by unfold blkSize; rw [h]
theorem famAlive {k root : Nat} {cs : List Value} {t : TypeId} {ro ex : Bool} {r thr tip : Nat} (h : (heapW N ws).get root = some (.cells cs t ro ex r thr tip)) (hk : thr ≤ k) : (heapW N ws).alive k root = true :=
  AH.alive_iff.2 ⟨_, _, _, _, _, _, _, h, hk⟩
theorem VL.atoms {σ : Ren} {xs : List Value} (h : xs.all atom = true) : VL σ xs xs :=
  F2.of_idx rfl fun i h1 h2 => .atom σ (List.all_eq_true.1 h _ (List.getElem_mem h1))

theorem HR.heapW (hg : GlOk hp N) (hws : ∀ w ∈ ws, WinOk P hp ws w) (hs : ws.Pairwise fun a b => a.o + a.xs.length ≤ b.o + b.xs.length) : HR gl P (sigW P hp N ws) (heapW N ws) hp := by
  have hmem : ∀ {i w}, ws[i]? = some w → WinOk P hp ws w := fun h => hws _ (List.mem_of_getElem? h)
  refine ⟨fun k o hk => ?_, fun k cs t ro ex root thr tip hk => ?_, fun k p hk => ?_, fun k p hk => ?_, fun k p cs t ro ex root thr tip hk hgk => ?_, fun k l pk pl hk hl hlt hlk hll hb => ?_⟩
  · rw [heapW_get] at hk
    rcases rowsW_cases hk with ⟨h1, _⟩ | ⟨i, w, rfl, h1, _⟩
    · show k < N + ws.length; omega
    · have := lt_ix h1; show N + i < N + ws.length; omega
  · rw [heapW_get] at hk
    rcases rowsW_cases hk with ⟨h1, z, h2, h3⟩ | ⟨i, w, rfl, h1, h3⟩
    · cases h3
      obtain ⟨e1, e2, e3, _, _⟩ := hg k z h2
      rw [e2]
      refine ⟨Nat.le_refl _, fun _ => rfl, z.cs, z.t, true, z.ex, k, k, ?_, Nat.le_refl _, fun _ => rfl, ?_⟩
      · rw [heapW_get, rowsW_low h1 h2, e2]
      · show k ≤ N + ws.length; omega
    · cases h3
      obtain ⟨w0, h4, h5⟩ := rootW_at h1
      have h6 := rootW_le h1
      refine ⟨by omega, fun h => by (cases h), absL N ws w0.ps w0.xs, w0.t, true, false, N + rootW ws w.b, N + ws.length, ?_, ?_, fun h => by (cases h), Nat.le_refl _⟩
      · rw [heapW_get, rowsW_high h4, h5]
      · have := lt_ix h1; omega
  · rcases sigW_cases hk with ⟨h1, z, h2, rfl⟩ | ⟨i, w, rfl, h1, rfl⟩
    · obtain ⟨e1, e2, e3, _, ccs, ct, fr, e4, _⟩ := hg k z h2
      exact ⟨by show k < N + ws.length; omega, lt_of_some e4⟩
    · obtain ⟨ccs, ct, fr, e4, _⟩ := (hmem h1).at_
      exact ⟨by have := lt_ix h1; show N + i < N + ws.length; omega, lt_of_some e4⟩
  · unfold ObjOk
    rw [heapW_get]
    rcases sigW_cases hk with ⟨h1, z, h2, rfl⟩ | ⟨i, w, rfl, h1, rfl⟩
    · rw [rowsW_low h1 h2]
      obtain ⟨e1, e2, e3, e6, ccs, ct, fr, e4, e5, e7⟩ := hg k z h2
      refine fun _ => ⟨⟨ccs, ct, fr.1, fr.2, e4, blkSize_at e4, by simpa using e5, ?_, fun h => by cases h⟩, fun _ => rfl, fun h => by rw [e3] at h; cases h⟩
      simp only [List.drop_zero, e7]
      exact VL.atoms e6
    · rw [rowsW_high h1]
      have hw := hmem h1
      obtain ⟨ccs, ct, fr, e4, e5, e6⟩ := hw.at_
      obtain ⟨n, n1, n2⟩ := hw.sz
      have hl := hw.vals.length
      refine fun _ => ⟨⟨ccs, ct, fr.1, fr.2, e4, blkSize_at e4, by simp only [absL_length]; omega, ?_, fun h => by cases h⟩, (fun h => by cases h), fun _ => by simp [n2, n1]⟩
      simp only [absL_length, hl, e6]
      exact VL.absL hw.vals
  · rw [heapW_get] at hgk
    rcases sigW_cases hk with ⟨h1, z, h2, rfl⟩ | ⟨i, w, rfl, h1, rfl⟩
    · rw [rowsW_low h1 h2] at hgk
      cases hgk
      obtain ⟨e1, e2, e3, _⟩ := hg k z h2
      exact ⟨fun _ => rfl, fun h => by rw [e3] at h; cases h⟩
    · rw [rowsW_high h1] at hgk
      cases hgk
      obtain ⟨n, n1, n2⟩ := (hmem h1).sz
      exact ⟨fun h => (by cases h), fun _ => (by simp [n2, n1])⟩
  · rcases sigW_cases hk with ⟨h1, z, h2, rfl⟩ | ⟨i, w, rfl, h1, rfl⟩ <;> rcases sigW_cases hl with ⟨g1, y, g2, rfl⟩ | ⟨j, v, rfl, g1, rfl⟩
    · simp only at hb; omega
    · simp only at hb
      have := (hmem g1).apart
      rw [← hb, h2] at this; cases this
    · omega
    · simp only at hb
      have hij : i < j := by omega
      refine ⟨⟨N + rootW ws w.b, ?_, ?_⟩, ?_⟩
      · unfold AH.famOf; rw [heapW_get, rowsW_high h1]
      · unfold AH.famOf; rw [heapW_get, rowsW_high g1, hb]
      · unfold AH.lenOf
        rw [heapW_get, heapW_get, rowsW_high h1, rowsW_high g1]
        simp only [absL_length]
        have h3 := (hmem h1).vals.length
        have h4 := (hmem g1).vals.length
        obtain ⟨a1, rfl⟩ := List.getElem?_eq_some_iff.1 h1
        obtain ⟨a2, rfl⟩ := List.getElem?_eq_some_iff.1 g1
        have := List.pairwise_iff_getElem.1 hs i j a1 a2 hij
        omega
theorem Prot.heapW (b : Nat) : Prot (sigW P hp N ws) (heapW N ws) b := by
  intro k p hk _
  refine .inr ?_
  unfold AH.roOf
  rw [heapW_get]
  rcases sigW_cases hk with ⟨h1, z, h2, rfl⟩ | ⟨i, w, rfl, h1, rfl⟩
  · rw [rowsW_low h1 h2]
  · rw [rowsW_high h1]
theorem GlR.heapW (hg : GlOk hp N) (hgl : ∀ g, gl g = true → (glZ g).isSome = true) : GlR gl (sigW P hp N ws) := by
  intro g h
  obtain ⟨z, hz⟩ := Option.isSome_iff_exists.1 (hgl g h)
  obtain ⟨h1, _⟩ := hg g z hz
  exact ⟨⟨g, 0, blkSize hp g, 0⟩, by unfold sigW; rw [if_pos h1, hz]; rfl, rfl, rfl⟩
theorem GZ.heapW (hg : GlOk hp N) : GZ (zetW N ws) := by
  intro k z hz
  obtain ⟨h1, _⟩ := hg k z hz
  unfold zetW; rw [if_pos h1, hz]
theorem RH.heapW (hg : GlOk hp N) : RH (N + ws.length ≤ ·) (fun _ => none) (zetW N ws) [] (heapW N ws) := by
  refine ⟨fun _ _ => 0, fun i o hi => by simp at hi, fun r => by simp [sumN], fun k z hz => ⟨?_, by simp [sumN]⟩, fun r _ => by simp [sumN], fun j hj => hj, fun i k hk => by (cases hk), fun j o hj => ?_⟩
  · unfold zetW at hz
    split at hz
    · rename_i hk
      obtain ⟨h1, h2, _⟩ := hg k z hz
      refine ⟨by show k < N + ws.length; omega, by omega, ⟨true, z.r, z.r, by rw [heapW_get, rowsW_low hk hz]⟩, ?_⟩
      rw [h2]
      exact ⟨z.cs, z.t, true, z.ex, k, k, by rw [heapW_get, rowsW_low hk hz, h2], Nat.le_refl _⟩
    · rename_i hk
      obtain ⟨w, h1, h2⟩ := Option.map_eq_some_iff.1 hz
      subst h2
      obtain ⟨i, rfl⟩ : ∃ i, k = N + i := ⟨k - N, by omega⟩
      rw [Nat.add_sub_cancel_left] at h1
      obtain ⟨w0, h4, h5⟩ := rootW_at h1
      have h6 := rootW_le h1
      refine ⟨by have := lt_ix h1; show N + i < N + ws.length; omega, by simp only; omega, ⟨true, _, _, by rw [heapW_get, rowsW_high h1]⟩, absL N ws w0.ps w0.xs, w0.t, true, false, N + rootW ws w.b, N + ws.length, ?_, by omega⟩
      simp only
      rw [heapW_get, rowsW_high h4, h5]
  · rw [heapW_get] at hj
    rcases rowsW_cases hj with ⟨h1, _⟩ | ⟨i, w, rfl, h1, _⟩
    · show j < N + ws.length; omega
    · have := lt_ix h1; show N + i < N + ws.length; omega

/-- a call, from the executor's run -/
theorem calls_of_inv {inv : Inv} (hinv : InvOk gl P inv) {f : FuncId} {Fn : Func} (hf : P.funcs[f]? = some Fn) (hn : (Fn.name == "runtime.NumGoroutine") = false) (hb : Fn.body.isNone = false) {dargs : List Value} {H H' : AH} {out : Out} {σ : Ren} {W : World} {args : Array Value}
    (h : inv (.func (.func f) #[] #[]) dargs H = some (out, H')) (hr : HR gl P σ H W.heap) (hgl : GlR gl σ) (ha : VL σ dargs args.toList) : Calls P f args W (EndP gl P σ H W out H') := by
  have hv : VR σ (.func (.func f) #[] #[]) (.func (.func f) #[] #[]) := VR.func_iff.2 ⟨_, _, _, rfl, .func f, .nil, .nil⟩
  have key := hinv.func f #[] #[] dargs H out H' σ W (.func f) #[] #[] args h hr hgl hv ha
  unfold CallOk at key
  rw [run_ofValue] at key
  simp only [invoke, Array.empty_append, Array.append_empty] at key
  rw [run_enter hf hn hb] at key
  rcases key with ⟨f', as, h1, h2⟩ | ⟨_, c, w', h1, _⟩
  · cases h1; exact h2
  · cases h1

/-- what a call leaves as it was -/
structure Still (W w' : World) : Prop where
  os : w'.os = W.os
  out : w'.output = W.output
  size : W.heap.size ≤ w'.heap.size
  blk : ∀ b, b < W.heap.size → w'.heap[b]? = W.heap[b]?
theorem FrW.still {σ σ' : Ren} {H H' : AH} {W w' : World} (h : FrW σ H W σ' H' w') (hp : ∀ b, Prot σ H b) : Still W w' :=
  ⟨h.os, h.out, h.size, fun b hb => (h.prot b hb (hp b)).1⟩

/-- **A call on values that are only read**, out of its contract on trees. -/
theorem cls_calls {F : FuncId → Option IFunc} {X0 X : Ext} (hm : P.follows .mixedOrders = true) (hF : FOk gl P F) (hE : EOk gl P X0) (hX : XOk gl P X) (hEK : ExtK X0) (hXK : ExtK X) (hgl : ∀ g, gl g = true → (glZ g).isSome = true)
    {f : FuncId} {Fn : Func} (hf : P.funcs[f]? = some Fn) (hn : (Fn.name == "runtime.NumGoroutine") = false) (hb : Fn.body.isNone = false) {pvs : List PV} {v : PV} (h : PP F X0 X (.fn f [] []) pvs v)
    {W : World} {args : Array Value} (hg : GlOk W.heap N) (hws : ∀ w ∈ ws, WinOk P W.heap ws w) (hrd : RdL ws pvs args.toList) :
    Calls P f args W fun e w' => ∃ c, e = .returned c ∧ (∃ ρ ζ σ d, VP ρ ζ v d ∧ VR σ d c) ∧ Still W w' := by
  let le := fun a b : Win => decide (a.o + a.xs.length ≤ b.o + b.xs.length)
  let vs := ws.mergeSort le
  have hmem : ∀ w, w ∈ vs ↔ w ∈ ws := fun w => List.mem_mergeSort
  have hpw : vs.Pairwise fun a b => a.o + a.xs.length ≤ b.o + b.xs.length :=
    (List.pairwise_mergeSort (le := le) (fun a b c h1 h2 => by simp only [le, decide_eq_true_eq] at *; omega) (fun a b => by simp only [le, Bool.or_eq_true, decide_eq_true_eq]; omega) ws).imp fun h => by simpa [le] using h
  have hvs : ∀ w ∈ vs, WinOk P W.heap vs w := fun w hw => (hws w ((hmem w).1 hw)).mono fun x hx => (hmem x).2 hx
  have hrd' : RdL vs pvs args.toList := hrd.mono fun x hx => (hmem x).2 hx
  have hHR := HR.heapW (gl := gl) hg hvs hpw
  obtain ⟨d, H', hev, ρ', ζ', v', L', _, _, _, hvp, _, _, _, rfl, _⟩ := h true [] _ _ _ (heapW N vs) (.func (.func f) #[] #[]) (absL N vs pvs args.toList) (GZ.heapW hg) (RH.heapW hg)
    (.fn rfl (fun i h => by simp at h) rfl (fun i h => by simp at h)) (VPL.absL hvs hrd')
  obtain ⟨m, hev⟩ := hev
  refine (calls_of_inv (den_sound hm hF hE hX hEK hXK m) hf hn hb (hev m (Nat.le_refl m)) hHR (GlR.heapW hg hgl) (VL.absL hrd')).mono fun e w' he => ?_
  cases e with
  | returned c =>
    obtain ⟨d', σ', h1, h2, _, h4⟩ := he
    cases h1
    exact ⟨c, rfl, ⟨ρ', ζ', σ', d, hvp, h2⟩, h4.still Prot.heapW⟩
  | panicked chain => obtain ⟨_, _, _, h1, _⟩ := he; cases h1
  | outgrown => exact he.elim
end Go.Den
/- Cls, part C: a function that is settled by running it: its contract. -/
namespace Go.Den
variable {N : Nat} {P : Program} {gl : Nat → Bool}

theorem HR.still {σ : Ren} {H : AH} {hp hp' : Array Obj} (h : HR gl P σ H hp) (hs : hp.size ≤ hp'.size) (hb : ∀ b, b < hp.size → hp'[b]? = hp[b]?) : HR gl P σ H hp' := by
  refine ⟨h.lt, h.fam, fun k p hk => ⟨(h.sig k p hk).1, Nat.lt_of_lt_of_le (h.sig k p hk).2 hs⟩, fun k p hk => ?_, h.typ, h.dis⟩
  have h1 := h.obj k p hk
  have h2 := hb p.b (h.sig k p hk).2
  unfold ObjOk at *
  cases hg : H.get k with
  | none => trivial
  | some o =>
    rw [hg] at h1
    cases o with
    | cells cs t ro ex root thr tip =>
      intro ha
      obtain ⟨⟨ccs, t', lo, hi, h3, h4⟩, h5⟩ := h1 ha
      exact ⟨⟨ccs, t', lo, hi, h2.trans h3, h4⟩, h5⟩
    | map es c => obtain ⟨ces, h3, h4⟩ := h1; exact ⟨ces, h2.trans h3, h4⟩
    | iter s pos => exact ⟨h1.1, h2.trans h1.2⟩
    | loop e ps as bd st pend => obtain ⟨r, h3, h4⟩ := h1; exact ⟨r, h2.trans h3, h4⟩
    | gone => trivial
theorem FrW.of_still {σ : Ren} {H : AH} {W w' : World} (h : Still W w') : FrW σ H W σ H w' :=
  ⟨⟨.refl σ, Nat.le_refl _, fun _ _ => rfl, h.size, fun b hb hp => ⟨h.blk b hb, hp⟩, fun b l hl => ⟨l, (h.blk b (lt_of_some hl)).trans hl⟩⟩, h.os, h.out⟩

theorem spaceAtoms : spaceCells.all atom = true := by kernel_rfl
theorem spaceGl {hp : Array Obj} {ccs : Array Value} {ct : TypeId} {fr : Nat × Nat} (hN : glSpace < N) (h : hp[glSpace]? = some (.cells ccs ct fr)) (h1 : spaceCells.length ≤ ccs.size) (h2 : ccs.toList.take spaceCells.length = spaceCells) : GlOk hp N := by
  intro k z hz
  unfold glZ at hz
  split at hz
  · rename_i hk
    subst hk
    cases hz
    exact ⟨hN, rfl, rfl, spaceAtoms, ccs, ct, fr, h, h1, h2⟩
  · cases hz
theorem VL.atoms_eq {σ : Ren} {xs ys : List Value} (h : xs.all atom = true) (hv : VL σ xs ys) : ys = xs := by
  induction hv with
  | nil => rfl
  | cons h1 _ ih =>
    simp only [List.all_cons, Bool.and_eq_true] at h
    rw [h1.atom_eq h.1, ih h.2]

def saysTrue : Option (Out × AH) → Bool
  | some (.ret (.bool true), _) => true
  | _ => false
theorem saysTrue_some {x : Option (Out × AH)} (h : saysTrue x = true) : ∃ H', x = some (.ret (.bool true), H') := by
  unfold saysTrue at h
  split at h
  · exact ⟨_, rfl⟩
  · cases h
/-- the check of an example, run: whatever the memory -/
theorem awake_calls {FA : FuncId → Option IFunc} (hm : P.follows .mixedOrders = true) (hF : FOk gl P FA) (hgl : ∀ g, gl g = true → (glZ g).isSome = true) {f : FuncId} {Fn : Func} (hf : P.funcs[f]? = some Fn) (hn : (Fn.name == "runtime.NumGoroutine") = false) (hb : Fn.body.isNone = false) {n : Nat}
    (hrun : saysTrue (den FA XN XN n (.func (.func f) #[] #[]) [] (heapW N [])) = true) {W : World} (hg : GlOk W.heap N) :
    Calls P f #[] W fun e w' => e = .returned (.bool true) ∧ Still W w' := by
  obtain ⟨H', hd⟩ := saysTrue_some hrun
  have hHR := HR.heapW (gl := gl) (P := P) (ws := []) hg (fun w hw => by simp at hw) List.Pairwise.nil
  refine (calls_of_inv (den_sound hm hF (fun f g h => by cases h) (fun f g h => by cases h) (fun f g h => by cases h) (fun f g h => by cases h) n) hf hn hb hd hHR (GlR.heapW hg hgl) (args := #[]) .nil).mono fun e w' he => ?_
  cases e with
  | returned c =>
    obtain ⟨d', σ', h1, h2, _, h4⟩ := he
    cases h1
    cases h2
    exact ⟨rfl, h4.still Prot.heapW⟩
  | panicked chain => obtain ⟨_, _, _, h1, _⟩ := he; cases h1
  | outgrown => exact he.elim
/-- its contract is right -/
theorem eok_awake (hglS : gl glSpace = true) {Fn : Func} (hf : P.funcs[8]? = some Fn) (hn : (Fn.name == "runtime.NumGoroutine") = false) (hb : Fn.body.isNone = false)
    (h : ∀ {W : World}, GlOk W.heap (glSpace + 1) → Calls P 8 #[] W fun e w' => e = .returned (.bool true) ∧ Still W w') : EOk gl P XA := by
  intro f g hfg
  unfold XA at hfg
  split at hfg
  case isFalse => cases hfg
  rename_i hf8
  subst hf8
  cases hfg
  refine ⟨⟨Fn, hf, hn, hb⟩, fun args H out H' σ w cargs hx hr hgl ha => ?_⟩
  unfold xAwake at hx
  split at hx
  case h_2 => cases hx
  split at hx
  case isFalse => cases hx
  rename_i hs
  cases hx
  have hca : cargs = #[] := by
    have := ha.nil_left
    simpa using this
  subst hca
  obtain ⟨p, hp1, hp2, hp3⟩ := hgl _ hglS
  obtain ⟨ro, thr, tip, hs1, hs2⟩ := hs
  have hob := hr.obj _ _ hp1
  unfold ObjOk at hob
  rw [hs1] at hob
  obtain ⟨⟨ccs, ct, lo, hi, h3, h4⟩, _⟩ := hob (AH.alive_iff.2 ⟨_, _, _, _, _, _, _, hs1, hs2⟩)
  rw [hp2] at h3
  have hv := h4.vals
  rw [hp3, List.drop_zero] at hv
  have hfit := h4.fits
  rw [hp3] at hfit
  have hG : GlOk w.heap (glSpace + 1) := spaceGl (Nat.lt_succ_self _) h3 (by omega) (hv.atoms_eq spaceAtoms)
  refine (h hG).mono fun e w' he => ?_
  obtain ⟨rfl, hst⟩ := he
  exact ⟨_, σ, rfl, .bool true, hr.still hst.size hst.blk, .of_still hst⟩
theorem extK_awake : ExtK XA := by
  intro f g hfg args H out H' hx
  unfold XA at hfg
  split at hfg
  case isFalse => cases hfg
  cases hfg
  unfold xAwake at hx
  split at hx
  case h_2 => cases hx
  split at hx
  case isFalse => cases hx
  cases hx
  exact .refl _
theorem xok_none : XOk gl P XN := fun f g h => by cases h
theorem extK_none : ExtK XN := fun f g h => by cases h
end Go.Den
/- Cls, part D: from the row's reading of an argument to trees. -/
namespace Go.Den
variable {P : Program} {w : World} {H : Type} {enc : TypeId × Value → H} {held : Bool}

/-- the fields lie one behind the other, from o to n -/
def inRow (P : Program) : Nat → Nat → List Field → Bool
  | o, n, [] => o == n
  | o, n, f :: fs => f.offset == o && inRow P (o + P.cellsOf f.type) n fs
/-- data without pointers, maps, bytes: what it is made of is told by its types -/
def plainT (P : Program) : Nat → TypeId → Bool
  | 0, _ => false
  | d + 1, t => match P.underlying t with
    | some .bool | some .string => true
    | some (.int k) => k != .u8
    | some (.slice e) => plainT P d e && Nat.blt 0 (P.cellsOf e) && szOf P e == some (P.cellsOf e)
    | some (.struct fs) => fs.toList.all (fun f => plainT P d f.type) && inRow P 0 (P.cellsOf t) fs.toList
    | _ => false
/-- trees of a type -/
inductive Shp (P : Program) : TypeId → List PV → Prop
  | bool {t : TypeId} {b : Bool} : P.underlying t = some .bool → Shp P t [.v (.bool b)]
  | int {t : TypeId} {k : IntKind} {n : Int} : P.underlying t = some (.int k) → (Lit.int k n).wf = true → Shp P t [.v (.int k n)]
  | string {t : TypeId} {s : ByteArray} : P.underlying t = some .string → s.size ≤ maxLen → Shp P t [.v (.string s)]
  | slice {t e : TypeId} {pss : List (List PV)} : P.underlying t = some (.slice e) → pss.length ≤ maxLen → (∀ i (h : i < pss.length), Shp P e pss[i]) → Shp P t [.fz e pss.length pss.flatten]
  | struct {t : TypeId} {fs : Array Field} {pss : List (List PV)} : P.underlying t = some (.struct fs) → (hl : pss.length = fs.size) → (∀ i (h : i < pss.length) (h' : i < fs.size), Shp P fs[i].type pss[i]) → Shp P t pss.flatten

def isU8 : Value → Bool
  | .int .u8 _ => true
  | _ => false
/-- memory of the listed variables holds bytes -/
def BytesAt (hp : Array Obj) : Prop := ∀ b, (glZ b).isSome = true → ∀ ccs ct fr, hp[b]? = some (.cells ccs ct fr) → ∀ c ∈ ccs.toList, isU8 c = true

theorem cells?_run {a : Addr} {n : Nat} {cs : List Value} (h : w.cells? 0 a n = some cs) : cs.length = n ∧ (0 < n → a.spot = none ∧ ∃ ccs ct fr, w.heap[a.block]? = some (.cells ccs ct fr) ∧ a.off + n ≤ ccs.size ∧ cs = (ccs.toList.drop a.off).take n) := by
  unfold World.cells? at h
  rw [if_pos (Nat.zero_le _)] at h
  have hl := mapM_some_length h
  simp only [List.length_range] at hl
  refine ⟨hl, fun hn => ?_⟩
  have hg : ∀ i, i < n → w.cell? (a.add i) = cs[i]? := fun i hi => mapM_some_get h i i (by simp [hi])
  have h0 := hg 0 hn
  rw [List.getElem?_eq_getElem (by omega)] at h0
  have hs : a.spot = none := by
    have := World.cell?_spot h0
    simpa [Addr.add] using this
  refine ⟨hs, ?_⟩
  have hcell : ∀ i, i < n → ∃ ccs ct fr, w.heap[a.block]? = some (.cells ccs ct fr) ∧ ccs[a.off + i]? = cs[i]? := by
    intro i hi
    have h1 := hg i hi
    have h2 : (a.add i).block = a.block ∧ (a.add i).off = a.off + i ∧ (a.add i).spot = none := by
      unfold Addr.add
      split
      · rename_i h; subst h; exact ⟨rfl, rfl, hs⟩
      · exact ⟨rfl, rfl, rfl⟩
    unfold World.cell? at h1
    rw [h2.1, h2.2.1, h2.2.2] at h1
    rw [List.getElem?_eq_getElem (by omega)] at h1 ⊢
    split at h1
    · rename_i c t fr hb
      exact ⟨c, t, fr, hb, by simpa using h1⟩
    · cases h1
  obtain ⟨ccs, ct, fr, hb, _⟩ := hcell 0 hn
  refine ⟨ccs, ct, fr, hb, ?_, ?_⟩
  · obtain ⟨ccs', ct', fr', hb', hc⟩ := hcell (n - 1) (by omega)
    rw [hb] at hb'
    cases hb'
    rw [List.getElem?_eq_getElem (by omega)] at hc
    have := (Array.getElem?_eq_some_iff.1 hc).1
    omega
  · refine List.ext_getElem? fun i => ?_
    rw [List.getElem?_take]
    by_cases hi : i < n
    · rw [if_pos hi, List.getElem?_drop]
      obtain ⟨ccs', ct', fr', hb', hc⟩ := hcell i hi
      rw [hb] at hb'
      cases hb'
      exact hc.symm.trans Array.getElem?_toList.symm
    · rw [if_neg hi, List.getElem?_eq_none (by omega)]

theorem F2.flatten {α β : Type} {R : α → β → Prop} : ∀ {as : List (List α)} {bs : List (List β)}, as.length = bs.length → (∀ i (h : i < as.length) (h' : i < bs.length), F2 R as[i] bs[i]) → F2 R as.flatten bs.flatten
  | [], [], _, _ => .nil
  | a :: as, b :: bs, hl, h => by
    simp only [List.flatten_cons]
    exact (h 0 (by simp) (by simp)).append (F2.flatten (by simpa using hl) fun i h1 h2 => h (i + 1) (Nat.succ_lt_succ h1) (Nat.succ_lt_succ h2))
  | [], _ :: _, hl, _ => by simp at hl
  | _ :: _, [], hl, _ => by simp at hl

theorem flatten_cut {α : Type} (l : List α) (o k : Nat) : ∀ n, o + n * k ≤ l.length → ((List.range n).map fun i => (l.drop (o + i * k)).take k).flatten = (l.drop o).take (n * k)
  | 0, _ => by simp
  | n + 1, h => by
    rw [Nat.succ_mul] at h
    rw [List.range_succ, List.map_append, List.flatten_append, flatten_cut l o k n (by omega)]
    simp only [List.map_cons, List.map_nil, List.flatten_cons, List.flatten_nil, List.append_nil]
    rw [Nat.succ_mul, List.take_add, List.drop_drop]

theorem fields_cut (P : Program) (cs : List Value) : ∀ {fs : List Field} {o n : Nat}, inRow P o n fs = true → cs.length = n → o ≤ n → (fs.map fun f => (cs.drop f.offset).take (P.cellsOf f.type)).flatten = cs.drop o
  | [], o, n, h, hl, ho => by
    simp only [inRow, beq_iff_eq] at h
    subst h
    rw [List.drop_of_length_le (by omega)]; rfl
  | f :: fs, o, n, h, hl, ho => by
    simp only [inRow, Bool.and_eq_true, beq_iff_eq] at h
    obtain ⟨h1, h2⟩ := h
    subst h1
    simp only [List.map_cons, List.flatten_cons]
    by_cases hlt : f.offset + P.cellsOf f.type ≤ n
    · rw [fields_cut P cs h2 hl hlt, ← List.drop_drop, List.take_append_drop]
    · exfalso
      have : ∀ (fs : List Field) (o : Nat), inRow P o n fs = true → o ≤ n := by
        intro fs
        induction fs with
        | nil => intro o h; simp only [inRow, beq_iff_eq] at h; omega
        | cons f fs ih =>
          intro o h
          simp only [inRow, Bool.and_eq_true, beq_iff_eq] at h
          have := ih _ h.2
          omega
      exact hlt (this _ _ h2)

/-- what a reading gives -/
def Got (P : Program) (w : World) (t : TypeId) (cs : List Value) : Prop :=
  ∃ ws pvs, RdL ws pvs cs ∧ (∀ v ∈ ws, WinOk P w.heap ws v) ∧ Shp P t pvs ∧ ∀ c ∈ cs, isU8 c = false
/-- several readings with one list of windows -/
theorem Got.all {n : Nat} {t : Nat → TypeId} {cs : Nat → List Value} (h : ∀ i, i < n → Got P w (t i) (cs i)) :
    ∃ ws, ∃ pss : List (List PV), pss.length = n ∧ (∀ v ∈ ws, WinOk P w.heap ws v) ∧ ∀ i (hi : i < pss.length), RdL ws pss[i] (cs i) ∧ Shp P (t i) pss[i] := by
  induction n with
  | zero => exact ⟨[], [], rfl, fun v hv => by simp at hv, fun i hi => absurd hi (by simp)⟩
  | succ n ih =>
    obtain ⟨ws, pss, h1, h2, h3⟩ := ih fun i hi => h i (by omega)
    obtain ⟨ws', pvs, g1, g2, g3, _⟩ := h n (by omega)
    refine ⟨ws ++ ws', pss ++ [pvs], by simp [h1], fun v hv => ?_, fun i hi => ?_⟩
    · rcases List.mem_append.1 hv with hv | hv
      · exact (h2 v hv).mono fun x hx => List.mem_append_left _ hx
      · exact (g2 v hv).mono fun x hx => List.mem_append_right _ hx
    · by_cases hlt : i < pss.length
      · rw [List.getElem_append_left hlt]
        exact ⟨(h3 i hlt).1.mono fun x hx => List.mem_append_left _ hx, (h3 i hlt).2⟩
      · have hie : i = pss.length := by simp at hi; omega
        subst hie
        rw [List.getElem_append_right (Nat.le_refl _)]
        simp only [Nat.sub_self, List.getElem_cons_zero]
        rw [h1]
        exact ⟨g1.mono fun x hx => List.mem_append_right _ hx, g3⟩

theorem got_of_trod (hby : BytesAt w.heap) : ∀ (d : Nat) {fuel : Nat} {t : TypeId} {cs : List Value} {x : DataW H × List MemPlace}, plainT P d t = true → DataW.trod enc P w 0 (fun _ => true) held fuel t cs = some x → Got P w t cs
  | 0, _, _, _, _, hp, _ => by simp [plainT] at hp
  | d + 1, fuel, t, cs, x, hp, h => by
    unfold plainT at hp
    split at hp
    · rename_i ht
      obtain ⟨b, rfl, _⟩ := DataW.trod_bool ht h
      exact ⟨[], [.v (.bool b)], .cons (.v rfl) .nil, fun v hv => by simp at hv, .bool ht, fun c hc => by simp at hc; subst hc; rfl⟩
    · rename_i ht
      obtain ⟨s, rfl, _, hs⟩ := DataW.trod_string ht h
      exact ⟨[], [.v (.string s)], .cons (.v rfl) .nil, fun v hv => by simp at hv, .string ht hs, fun c hc => by simp at hc; subst hc; rfl⟩
    · rename_i k ht
      obtain ⟨n, rfl, _, hn⟩ := DataW.trod_int ht h
      refine ⟨[], [.v (.int k n)], .cons (.v rfl) .nil, fun v hv => by simp at hv, .int ht hn, fun c hc => ?_⟩
      simp only [List.mem_singleton] at hc
      subst hc
      cases k <;> first | rfl | (simp at hp)
    · rename_i e ht
      simp only [Bool.and_eq_true, Nat.blt_eq, beq_iff_eq] at hp
      obtain ⟨⟨hp1, hp2⟩, hp3⟩ := hp
      rcases DataW.trod_slice ht h with ⟨rfl, _⟩ | ⟨a, len, cap, elems, rest, n, _, rfl, _, _, hlc, hcm, _, he, hr, _⟩
      · refine ⟨[], [.fz e 0 []], .cons .fz0 .nil, fun v hv => by simp at hv, ?_, fun c hc => by simp at hc; subst hc; rfl⟩
        have := Shp.slice (P := P) (pss := []) ht (Nat.zero_le _) (fun i h => by simp at h)
        exact this
      obtain ⟨hr1, hr2⟩ := hr rfl
      -- all elements up to the capacity
      have hall : ∀ i, i < cap → ∃ cs', w.cells? 0 (a.add (i * P.cellsOf e)) (P.cellsOf e) = some cs' ∧ Got P w e cs' := by
        intro i hi
        have key : ∀ {o : Option (DataW H × List MemPlace)}, o.isSome = true → (w.cells? 0 (a.add (i * P.cellsOf e)) (P.cellsOf e)).bind (DataW.trod enc P w 0 (fun _ => true) held n e) = o → ∃ cs', w.cells? 0 (a.add (i * P.cellsOf e)) (P.cellsOf e) = some cs' ∧ Got P w e cs' := by
          intro o ho hb
          obtain ⟨y, rfl⟩ := Option.isSome_iff_exists.1 ho
          obtain ⟨cs', h1, h2⟩ := Option.bind_eq_some_iff.1 hb
          exact ⟨cs', h1, got_of_trod hby d hp1 h2⟩
        by_cases hil : i < len
        · exact key (by rw [List.getElem?_eq_getElem (by omega)]; rfl) (he i hil)
        · have := hr2 (i - len) (by omega)
          rw [show len + (i - len) = i by omega] at this
          exact key (by rw [List.getElem?_eq_getElem (by omega)]; rfl) this
      by_cases hc0 : cap = 0
      · subst hc0
        obtain rfl : len = 0 := by omega
        refine ⟨[], [.fz e 0 []], .cons .fz0 .nil, fun v hv => by simp at hv, ?_, fun c hc => by simp at hc; subst hc; rfl⟩
        exact Shp.slice (P := P) (pss := []) ht (Nat.zero_le _) (fun i h => by simp at h)
      -- the block
      obtain ⟨c0, h0, g0⟩ := hall 0 (by omega)
      simp only [Nat.zero_mul, Addr.add, if_true] at h0
      obtain ⟨hl0, hz0⟩ := cells?_run h0
      obtain ⟨hs, ccs, ct, fr, hb, hf0, hc0'⟩ := hz0 hp2
      have hel : ∀ i, i < cap → (a.off + i * P.cellsOf e) + P.cellsOf e ≤ ccs.size ∧ Got P w e ((ccs.toList.drop (a.off + i * P.cellsOf e)).take (P.cellsOf e)) := by
        intro i hi
        obtain ⟨cs', h1, h2⟩ := hall i hi
        obtain ⟨_, hz⟩ := cells?_run h1
        obtain ⟨_, ccs', ct', fr', hb', hf', hc'⟩ := hz hp2
        have h3 : (a.add (i * P.cellsOf e)).block = a.block ∧ (a.add (i * P.cellsOf e)).off = a.off + i * P.cellsOf e := by
          unfold Addr.add
          split
          · rename_i h; rw [h]; exact ⟨rfl, rfl⟩
          · exact ⟨rfl, rfl⟩
        rw [h3.1, hb] at hb'
        cases hb'
        rw [h3.2] at hf' hc'
        exact ⟨hf', hc' ▸ h2⟩
      have hap : glZ a.block = none := by
        cases hg : glZ a.block with
        | none => rfl
        | some z =>
          exfalso
          obtain ⟨_, _, _, _, _, hu⟩ := g0
          have hmem : c0[0]'(by omega) ∈ ccs.toList := by
            have h9 : ∀ y ∈ c0, y ∈ ccs.toList := fun y hy => by rw [hc0'] at hy; exact List.mem_of_mem_drop (List.mem_of_mem_take hy)
            exact h9 _ (List.getElem_mem _)
          have h1 := hby a.block (by rw [hg]; rfl) ccs ct fr hb _ hmem
          have h2 := hu (c0[0]'(by omega)) (List.getElem_mem _)
          rw [h1] at h2; cases h2
      obtain ⟨ws, pss, p1, p2, p3⟩ := Got.all (P := P) (w := w) (n := len) (t := fun _ => e) (cs := fun i => (ccs.toList.drop (a.off + i * P.cellsOf e)).take (P.cellsOf e)) fun i hi => (hel i (by omega)).2
      have hfit : a.off + len * P.cellsOf e ≤ ccs.toList.length := by
        rcases Nat.eq_zero_or_pos len with h | h
        · subst h; simp; omega
        · have := (hel (len - 1) (by omega)).1
          obtain ⟨m, rfl⟩ : ∃ m, len = m + 1 := ⟨len - 1, by omega⟩
          rw [Nat.add_sub_cancel] at this
          rw [Nat.succ_mul]; simp; omega
      let v : Win := ⟨a.block, a.off, e, pss.flatten, (ccs.toList.drop a.off).take (len * P.cellsOf e)⟩
      have hvx : v.xs.length = len * P.cellsOf e := by
        show ((ccs.toList.drop a.off).take (len * P.cellsOf e)).length = _
        rw [List.length_take, List.length_drop]; omega
      have hsub : ∀ x ∈ ws, x ∈ v :: ws := fun x hx => List.mem_cons_of_mem _ hx
      have hv : WinOk P w.heap (v :: ws) v := by
        refine ⟨⟨ccs, ct, fr, hb, ?_, ?_⟩, ?_, ⟨_, hp2, hp3⟩, hap⟩
        · rw [hvx]; simpa using hfit
        · rw [hvx]
        · show RdL (v :: ws) pss.flatten ((ccs.toList.drop a.off).take (len * P.cellsOf e))
          rw [← flatten_cut _ _ _ len hfit]
          refine F2.flatten (by simp [p1]) fun i h1 h2 => ?_
          simp only [List.getElem_map, List.getElem_range]
          exact (p3 i h1).1.mono hsub
      refine ⟨v :: ws, [.fz e len pss.flatten], .cons ?_ .nil, fun x hx => ?_, ?_, fun c hc => by simp at hc; subst hc; rfl⟩
      · obtain ⟨ab, ao, as⟩ := a
        simp only at hs
        subst hs
        exact .fz (w := v) (List.mem_cons_self ..) hlc
      · rcases List.mem_cons.1 hx with rfl | hx
        · exact hv
        · exact (p2 x hx).mono hsub
      · subst p1
        exact .slice ht (by omega) fun i hi => (p3 i hi).2
    · rename_i fs ht
      simp only [Bool.and_eq_true, List.all_eq_true] at hp
      obtain ⟨hp1, hp2⟩ := hp
      obtain ⟨xs, n, _, _, hl, hxl, hx⟩ := DataW.trod_struct ht h
      have hgi : ∀ i (hi : i < fs.size), Got P w fs[i].type ((cs.drop fs[i].offset).take (P.cellsOf fs[i].type)) := by
        intro i hi
        have h1 := hx i fs[i] (Array.getElem?_eq_getElem hi)
        rw [List.getElem?_eq_getElem (by omega)] at h1
        exact got_of_trod hby d (hp1 _ (by simp)) h1
      obtain ⟨ws, pss, p1, p2, p3⟩ := Got.all (P := P) (w := w) (n := fs.size) (t := fun i => (fs.getD i default).type) (cs := fun i => (cs.drop (fs.getD i default).offset).take (P.cellsOf (fs.getD i default).type)) fun i hi => by
        simp only [Array.getD, hi, dite_true]
        exact hgi i hi
      have hcs : ((fs.toList.map fun f => (cs.drop f.offset).take (P.cellsOf f.type))).flatten = cs := by
        rw [fields_cut P cs hp2 hl (Nat.zero_le _), List.drop_zero]
      refine ⟨ws, pss.flatten, ?_, p2, ?_, fun c hc => ?_⟩
      · rw [← hcs]
        refine F2.flatten (by simp [p1]) fun i h1 h2 => ?_
        have := (p3 i h1).1
        have hi : i < fs.size := by omega
        simp only [Array.getD, hi, dite_true] at this
        simpa using this
      · refine .struct ht p1 fun i h1 h2 => ?_
        have := (p3 i h1).2
        simp only [Array.getD, h2, dite_true] at this
        exact this
      · rw [← hcs, List.mem_flatten] at hc
        obtain ⟨l, hl1, hl2⟩ := hc
        obtain ⟨f, hf1, rfl⟩ := List.mem_map.1 hl1
        obtain ⟨i, hi, rfl⟩ := List.getElem_of_mem hf1
        obtain ⟨_, _, _, _, _, hu⟩ := hgi i (by simpa using hi)
        exact hu c (by simpa using hl2)
    · cases hp
end Go.Den
