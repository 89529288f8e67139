/- Part 6 of the proof: an executor over a compiled form of the functions of this program, that it is right, and what it computes (see the last part). -/
import Derived.Test.YtlcgnmdlggfelaaDoorK5
import Derived.KernelRfl
import Derived.ChangeArms
import Derived.DataReads
import Derived.SizedLaws
set_option linter.all false
/- Defs, by the program: its flow. -/
namespace Go.Den
open IrD
attribute [local irreducible] T.get T.set
def defsD (b : FBody) (R : Nat) : Df := { n := b.code.length, near := fun k => predTo b b.code.length k, gen := fun m x => decide (0 ≤ writesAt b m ∧ x = m + R), kill := fun m x => decide (0 ≤ writesAt b m ∧ x ∈ wrL b R b.code.length (writesAt b m).toNat), init := fun k x => decide (k = 0 ∧ x < R) }
theorem predTo_mem {b : FBody} {i k m : Nat} : m ∈ predTo b i k ↔ m < i ∧ (k : Int) ∈ succAt b m := by
 unfold predTo
 simp only [List.mem_flatMap, List.mem_range, List.mem_map, List.mem_filter, decide_eq_true_eq]
 constructor
 ·rintro ⟨p, hp, v, ⟨hv, rfl⟩, rfl⟩; exact ⟨hp, hv⟩
 ·rintro ⟨h1, h2⟩; exact ⟨m, h1, k, ⟨h2, rfl⟩, rfl⟩
theorem predTo_len {b : FBody} {i k : Nat} : (predTo b i k).length ≤ 2 * i + 2 := by
 have := predJ_len (b := b) (i := i) (j := 0) (k := k)
 simpa [predJ] using this
theorem thrW_len {b : FBody} {R m : Nat} {s : List W64} : (thrW b R m s).length = s.length := by
 unfold thrW
 split
 ·rw [putW_len, foldDrop_len]
 ·rfl
theorem thrW_mem {b : FBody} {R m : Nat} {s : List W64} {x : Nat} (hm : m < b.code.length) (hw : writesAt b m < R) (hl : (R + b.code.length) / 64 < s.length) : hasW (thrW b R m s) x = (defsD b R).thr m (hasW s) x := by
 unfold thrW Df.thr defsD
 by_cases h0 : 0 ≤ writesAt b m
 ·have hnR : (writesAt b m).toNat < R := by omega
  rw [if_pos h0, hasW_put, foldDrop_mem]
  ·simp only [h0, true_and]
   rw [Bool.or_comm]
  ·intro r hr
   have := wrL_lt hnR hr
   have : r / 64 ≤ (R + b.code.length) / 64 := Nat.div_le_div_right (by omega)
   omega
  ·rw [foldDrop_len]
   have : (m + R) / 64 ≤ (R + b.code.length) / 64 := Nat.div_le_div_right (by omega)
   omega
 ·rw [if_neg h0]
  simp [h0]
def predAll (b : FBody) : List (List Int) := (List.range b.code.length).map fun k => natI (predTo b b.code.length k)
theorem predAll_len {b : FBody} : (predAll b).length = b.code.length := by simp [predAll]
def DfP (b : FBody) (R : Nat) : List LObj := [.row 65 (encBo b), .row 97 [.fn 55 [] [.ptr 0 0]], .row 98 [.mapr 3], .map (numM (wrLs b R) 0) R, .row 55 [.fz 24 (predAll b).length ((predAll b).map (ints 3))], .row 83 [.slc 6 0 b.code.length b.code.length]]
theorem wrLs_noId {b : FBody} {R : Nat} : noIdL (wrLs b R) = true := by unfold wrLs; simp
theorem wrLs_nl {b : FBody} {R : Nat} : (wrLs b R).all nl = true := by
 rw [List.all_eq_true]
 intro p hp
 unfold wrLs at hp
 obtain ⟨x, _, rfl⟩ := List.mem_map.1 hp
 rfl
theorem defs_fn {c : FCode} {b : FBody} {R w : Nat} (hob : OkB c b) (hR : b.regs = R) (hil : ∀ i ∈ b.code, i.list.length ≤ 1000000) (hw0 : (R + b.code.length) / 64 < w) (hw1 : w ≤ 10000) :
  SvFn (defsD b R) (DfP b R) w (.fn 56 [] [.ptr 4 0]) (.fn 57 [] [.ptr 5 0, .ptr 0 0, .ptr 2 0, .ptr 1 0]) (fun m st => thrW b R m (st.getD m [])) := by
 have hr1 := hob.regs
 have hcl := hob.code
 have hwr : ∀ m (h : m < b.code.length), writesS b.code[m] < R := fun m h => by
  have := writes_ok hob.regs0 (hob.right _ (List.getElem_mem h)); omega
 refine ⟨?_, ?_, ?_, ?_, ?_, ?_⟩
 ·intro k hk st J K hs hK
  have hk' : k < (predAll b).length := by rw [predAll_len]; exact hk
  have he : (predAll b)[k] = natI (predTo b b.code.length k) := by simp [predAll]
  refine near_w2 (i := 4) (ty := 55) (t := 3) (t2 := 24) (ls := predAll b) rfl hk' ?_
  rw [he]; exact hK
 ·intro m hm st J K hs hK
  have hm' : m < b.code.length := hm
  have hst : st.length = b.code.length := hs.len
  have h0 := thr1 (b := b) (st := st) (m := m) (w := w) (R := R) (c0 := R) hR (by omega) hcl hm' hst hs.wid hw0 hw1 (hil _ (List.getElem_mem hm')) (hwr m hm')
  have hgd : st.getD m [] = st[m]'(by omega) := by simp [List.getD_eq_getElem?_getD, List.getElem?_eq_getElem (show m < st.length by omega)]
  rw [hgd] at hK
  refine (PF.rom [3] (M := [.map (numM (wrLs b R) 0) R]) (M' := [.rmap (numM (wrLs b R) 0) R]) (fv' := .fn 57 [] [.fp [.fz 85 st.length (st.map wset)], .fp (encBo b), .fp [.mapr 0], .fp [.fn 55 [] [.fp (encBo b)]]]) (args' := [pin m]) (by simp) (by simp [Lof, DfP]) (.cons ⟨_, rfl, .map (numM_view (VwL.same wrLs_noId))⟩ .nil) (.cons ⟨rfl, by rw [numM_vals]; exact wrLs_noId, by rw [numM_vals]; exact wrLs_nl⟩ .nil) ?_ (.cons (.same rfl) .nil) h0 (fun v0 L0 h => ?_) true).mono ?_
  ·refine .fn rfl (fun i h => by simp at h) rfl (fun i h h' => ?_)
   match i, h, h' with
   | 0, _, _ =>
    refine .fzp (cs'' := [.slc 6 0 b.code.length b.code.length]) (by simp) (t := 83) rfl rfl (by simp) rfl rfl (fun j h5 h6 => ?_)
    match j, h5, h6 with
    | 0, _, _ =>
     have := Lof_frz (P := DfP b R) (J := J) (τ := [3]) (by simp [DfP]) hs.wid
     rw [hst] at this
     rw [hst]
     exact this
   | 1, _, _ => exact .fzp (cs'' := encBo b) (by simp) (t := 65) rfl (by simp) (by simp) rfl rfl (fun j a b => .same (noIdL_get (by simp) j a))
   | 2, _, _ =>
    refine .fzp (cs'' := [.mapr 3]) (by simp) (t := 98) rfl rfl (by simp) rfl rfl (fun j h5 h6 => ?_)
    match j, h5, h6 with
    | 0, _, _ => exact .mapr rfl
   | 3, _, _ =>
    refine .fzp (cs'' := [.fn 55 [] [.ptr 0 0]]) (by simp) (t := 97) rfl rfl (by simp) rfl rfl (fun j h5 h6 => ?_)
    match j, h5, h6 with
    | 0, _, _ =>
     refine .fn rfl (fun i h => by simp at h) rfl (fun i h h' => ?_)
     match i, h, h' with
     | 0, _, _ => exact .fzp (cs'' := encBo b) (by simp) (t := 65) rfl (by simp) (by simp) rfl rfl (fun j a b => .same (noIdL_get (by simp) j a))
  ·obtain ⟨rfl, rfl⟩ := h
   refine ⟨rfl, fun i o ho hi => ?_⟩
   match i, hi with
   | 1, _ =>
    cases ho
    simp [zfO, zfL_iff]
    intro a _; rfl
   | i + 2, _ => simp at ho
  ·rintro v L' ⟨v0, L0, ⟨rfl, rfl⟩, rfl, rfl⟩
   simp only [ren, List.length_cons, List.length_nil, List.drop_succ_cons, List.drop_zero, List.map_cons, List.map_nil, renO, renL_noId _ _ (show noIdL ((thrW b R m (st[m]'(by omega))).map pw) = true by simp [noId])]
   simpa using hK
 ·intro m st hm hs
  have hst : st.length = b.code.length := hs.len
  have hm' : m < b.code.length := hm
  simp only [thrW_len, List.getD_eq_getElem?_getD, List.getElem?_eq_getElem (show m < st.length by omega), Option.getD_some]
  exact hs.wid _ (List.getElem_mem _)
 ·intro m st h hs x
  have hst : st.length = b.code.length := hs.len
  have hm' : m < b.code.length := by omega
  have hwm := hs.wid _ (List.getElem_mem h)
  have hwa : writesAt b m = writesS b.code[m] := by simp [writesAt, hm']
  simp only [List.getD_eq_getElem?_getD, List.getElem?_eq_getElem h, Option.getD_some]
  exact thrW_mem hm' (by rw [hwa]; exact hwr m hm') (by rw [hwm]; exact hw0)
 ·intro k _ m hm
  exact (predTo_mem.1 hm).1
 ·intro k hk
  have := predTo_len (b := b) (i := b.code.length) (k := k)
  show (predTo b b.code.length k).length ≤ 1000000
  omega
theorem PIk_makeMap2 {F : FuncId → Option IFunc} {X0 X : Ext} {l : List Ins} {R : PEnv → List LObj → Prop} {d : Option Nat} {E : PEnv} {L : List LObj} : PIk F X0 X .makeMap l R d E L = pKk F X0 X l R d E (pev E L .makeMap) := nrfl rfl
attribute [simp] PIk_makeMap2
theorem nat3_shift {R : Nat} {l : List Nat} : (.fz 3 l.length (nat3 (-(R : Int)) l) : PV) = ints 3 (shiftI R l) := by
 simp [nat3, ints, shiftI, Int.sub_eq_add_neg]
noncomputable def defsS (c : FCode) (body : Int) : List (List Int) := if errS c body = 0 then match c.bodies[body.toNat]? with | some b => ((defsD b b.regs.toNat).out (64 * ((b.code.length + b.regs.toNat) / 64 + 1))).map (shiftI b.regs.toNat) | none => [] else []
def beginW (R N r : Nat) : List W64 := (List.range r).foldl (fun s q => putW s (R - 1 - q)) (newW N)
theorem beginW_len {R N r : Nat} : (beginW R N r).length = (newW N).length := by
 unfold beginW
 induction r with
 | zero => rfl
 | succ r ih => rw [List.range_succ, List.foldl_append, List.foldl_cons, List.foldl_nil, putW_len, ih]
theorem beginW_next {R N r : Nat} : beginW R N (r + 1) = putW (beginW R N r) (R - 1 - r) := by
 unfold beginW
 rw [List.range_succ, List.foldl_append]; rfl
theorem beginW_mem {R N x : Nat} (hN : R ≤ N) : ∀ {r : Nat}, r ≤ R → (hasW (beginW R N r) x = true ↔ R - r ≤ x ∧ x < R) := by
 intro r
 induction r with
 | zero => intro _; unfold beginW; simp [hasW_new]
 | succ r ih =>
  intro hr
  have hl : (R - 1 - r) / 64 < (beginW R N r).length := by
   rw [beginW_len]
   have : (newW N).length = N / 64 + 1 := by simp [newW]
   rw [this]
   have : (R - 1 - r) / 64 ≤ N / 64 := Nat.div_le_div_right (by omega)
   omega
  rw [beginW_next, hasW_put hl, Bool.or_eq_true, ih (by omega), decide_eq_true_eq]
  omega
def DfJ1 (b : FBody) (R N : Nat) (m : Nat) (E : PEnv) (L : List LObj) : Prop := ∃ i : Nat, i + m = b.code.length ∧
 L = DfP b R ++ (.row 85 (stCells 7 (newW N).length i ++ List.replicate (b.code.length - i) (.v (.slice none 0 0))) :: List.replicate i (.row 90 ((newW N).map pw))) ∧
 Has E [(6, .ptr 0 0), (8, .ptr 1 0), (9, .ptr 2 0), (15, .ptr 4 0), (20, .ptr 5 0), (115, .slc 6 0 b.code.length b.code.length), (116, pin b.code.length), (117, pin i)]
def DfJ2 (b : FBody) (R N w : Nat) (m : Nat) (E : PEnv) (L : List LObj) : Prop := ∃ r : Nat, r + m = R ∧ L = Lof (DfP b R) w ((List.replicate b.code.length (newW N)).set 0 (beginW R N r)) ∧
 Has E [(6, .ptr 0 0), (8, .ptr 1 0), (9, .ptr 2 0), (15, .ptr 4 0), (20, .ptr 5 0), (131, pin R), (132, pin r)]
def DfJ3 (R : Nat) (st : List (List W64)) (body : PV) (m : Nat) (E : PEnv) (L : List LObj) : Prop := ∃ i : Nat, i + m = st.length ∧ L = [.row 24 ((st.take i).map fun s => ints 3 (shiftI R (listW s 0)))] ∧
 Has E [(6, body), (23, .slc 0 0 i i), (150, .fz 85 st.length (st.map wset)), (151, pin st.length), (152, pin i)]
set_option maxRecDepth 8000 in
set_option maxHeartbeats 8000000 in
theorem defs_ok {c : FCode} {body : Int} (hc : OkC c) : PPd (.fn 26 [] []) [.agg (encC c), pin body] (.tup [lists2 24 (defsS c body), pin (errS c body)]) := by
 refine PP_code rfl rfl rfl (by simp) (by simp [noId]) (by simp [noId, noIdL]) ?_
 have hres : ir26.results = [.tmp 4, .tmp 5] := rfl
 have hcc : cut (encC c) 0 2 = encC c := rfl
 by_cases he : errS c body = 0
 case neg =>
  have hls : defsS c body = [] := by simp [defsS, he]
  rw [hls]
  refine PC_seq (PW_ok _ ?_)
  simp
  refine PC_seq (PW_ok _ ?_)
  simp [hcc]
  refine (given_err hc he).runk ?_
  have hps : psplice [PV.v (S []), PV.v (I 0), PV.v (I 0), PV.v (.slice none 0 0)] 0 zeroBo = zeroBo := psplice_full rfl
  have hl : zeroBo.length = 4 := rfl
  have ho : allOne zeroBo := by simp [zeroBo]
  simp [hps, hl, ho]
  refine PC_seq (PC_seq (PW_ok _ ?_))
  simp [he]
  refine PW_ok _ ?_
  simp [he, hres]
  exact .tup rfl (fun j a b => by
   match j, a, b with
   | 0, _, _ => exact .nil
   | 1, _, _ => exact .same rfl)
 have h0 : checkS c = 0 := by
  unfold errS at he
  by_cases h : checkS c = 0
  ·exact h
  ·rw [if_pos h] at he; exact absurd he h
 have hbd : 0 ≤ body ∧ body < c.bodies.length := by
  unfold errS at he
  rw [if_neg (by simp [h0])] at he
  split at he
  ·omega
  ·omega
 obtain ⟨k, rfl⟩ : ∃ k : Nat, body = k := ⟨body.toNat, by omega⟩
 have hk : k < c.bodies.length := by omega
 have hls : defsS c (k : Int) = ((defsD c.bodies[k] c.bodies[k].regs.toNat).out (64 * ((c.bodies[k].code.length + c.bodies[k].regs.toNat) / 64 + 1))).map (shiftI c.bodies[k].regs.toNat) := by simp [defsS, he, hk]
 have hg := given_ok hc h0 hk
 have hob := okB_of h0 hk
 have hil := hc.list _ (List.getElem_mem hk)
 rw [hls, he]
 generalize c.bodies[k] = b at *
 have hr0 := hob.regs0
 have hr1 := hob.regs
 obtain ⟨R, hR⟩ : ∃ R : Nat, b.regs = R := ⟨b.regs.toNat, by omega⟩
 have hRn : b.regs.toNat = R := by omega
 rw [hRn]
 have hwr : ∀ m (h : m < b.code.length), writesS b.code[m] < R := fun m h => by
  have := writes_ok hob.regs0 (hob.right _ (List.getElem_mem h)); omega
 refine PC_seq (PW_ok _ ?_)
 simp
 refine PC_seq (PW_ok _ ?_)
 simp [hcc]
 refine hg.runk ?_
 have hps : psplice [PV.v (S []), PV.v (I 0), PV.v (I 0), PV.v (.slice none 0 0)] 0 (encBo b) = encBo b := psplice_full rfl
 have hb3 : (encBo b)[3]? = some (recs 62 encI b.code) := rfl
 have hb1 : (encBo b)[1]? = some (pin b.regs) := rfl
 simp [hps]
 refine PC_seq (PC_seq (PW_ok _ ?_))
 simp
 refine PW_ok _ ?_
 simp
 refine PC_seq (PW_ok _ ?_)
 simp
 refine PC_seq (PW_ok _ ?_)
 simp
 refine PC.abs (Abs.keep [1, 2, 4, 3] [(6, .ptr 0 0), (8, .ptr 1 0), (9, .ptr 2 0)] (L' := [.row 65 (encBo b), .row 97 [.fn 55 [] [.ptr 0 0]], .row 98 [.mapr 3], .map [] 0]) (by simp) (by simp) ?_ ?_) ?_
 ·refine .cons ⟨_, rfl, .row (VwL.same (by simp))⟩ (.cons ⟨_, rfl, .row (.cons (.fn rfl (fun i h => by simp at h) rfl (fun i h h' => ?_)) .nil)⟩ (.cons ⟨_, rfl, .row (.cons (.mapr rfl) .nil)⟩ (.cons ⟨_, rfl, .map .nil⟩ .nil)))
  match i, h, h' with
  | 0, _, _ => exact .ptr rfl
 ·simp
  exact ⟨.ptr rfl, .ptr rfl, .ptr rfl⟩
 refine PC_seq ((defs_a hR (by omega) (Has.env (by simp))).mono ?_)
 rintro x E L ⟨rfl, he1, js, hw⟩
 refine PC_seq ((defs_b hR (by omega) hob.code hil hwr hw he1).mono ?_)
 clear hw he1 js
 rintro x E L ⟨rfl, ⟨e6, e8, e9, -⟩, js, hw⟩
 have hcl := hob.code
 have hn1 : (b.code.length : Int) ≤ 9223372036854775807 ∧ 24 * (b.code.length : Int) ≤ 281474976710656 := by omega
 -- the map's lists are written no more
 have hwl : (defsTo b R b.code.length R).map (fzl 3) = wrLs b R := by
  unfold defsTo wrLs
  rw [List.map_map]
  exact List.map_congr_left fun w _ => fzl_ints
 have hjl := hw.jlen
 obtain ⟨w0, w1, w2, w3, whl⟩ := hw
 have hvm : VwL [0, 1, 2, 3] L (cellsOf js (defsTo b R b.code.length R)) (wrLs b R) := by
  rw [← hwl]
  refine whl.frz (by simp) fun l hl => ?_
  unfold defsTo at hl
  obtain ⟨q, _, rfl⟩ := List.mem_map.1 hl
  exact ⟨by simp, by simp [noId]⟩
 have hL4 : 3 < L.length := (List.getElem?_eq_some_iff.1 w3).1
 refine PC.abs (Abs.keep [0, 1, 2, 3] [(6, .ptr 0 0), (8, .ptr 1 0), (9, .ptr 2 0)] (L' := [.row 65 (encBo b), .row 97 [.fn 55 [] [.ptr 0 0]], .row 98 [.mapr 3], .map (numM (wrLs b R) 0) R]) (by simp) (by simp; omega) ?_ ?_) ?_
 ·refine .cons ⟨_, w0, .row (VwL.same (by simp))⟩ (.cons ⟨_, w1, .row (.cons (.fn rfl (fun i h => by simp at h) rfl (fun i h h' => ?_)) .nil)⟩ (.cons ⟨_, w2, .row (.cons (.mapr rfl) .nil)⟩ (.cons ⟨_, w3, .map (numM_view hvm)⟩ .nil)))
  match i, h, h' with
  | 0, _, _ => exact .ptr rfl
 ·simp [e6, e8, e9]
  exact ⟨.ptr rfl, .ptr rfl, .ptr rfl⟩
 clear e6 e8 e9 w0 w1 w2 w3 whl hvm hjl hL4 js L E
 have envE : Has (envOf [(6, .ptr 0 0), (8, .ptr 1 0), (9, .ptr 2 0)]) [(6, .ptr 0 0), (8, .ptr 1 0), (9, .ptr 2 0)] := Has.env (by simp)
 generalize envOf [(6, .ptr 0 0), (8, .ptr 1 0), (9, .ptr 2 0)] = E at envE ⊢
 obtain ⟨e6, e8, e9, -⟩ := envE
 refine PC_seq (PW_ok _ ?_)
 simp [e6, e8, e9, hb3, recs, hn1, one, repl_nil]
 have hdc := defs_c (base := [.row 65 (encBo b), .row 97 [.fn 55 [] [.ptr 0 0]], .row 98 [.mapr 3], .map (numM (wrLs b R) 0) R]) (c := c) hob rfl rfl (E := (envOf [(6, .ptr 0 0), (8, .ptr 1 0), (9, .ptr 2 0), (15, .ptr 5 0)])) (Has.env (by simp))
 refine PC.abs (Abs.env [(6, .ptr 0 0), (8, .ptr 1 0), (9, .ptr 2 0), (15, .ptr 5 0)] (by simp [e6, e8, e9])) ?_
 refine PC_seq (hdc.mono ?_)
 clear e6 e8 e9 hdc E
 rintro x E L ⟨rfl, ⟨e6, e8, e9, e15, -⟩, js, ha⟩
 -- the lists of what stands ahead are written no more
 have hal : (predLs b b.code.length 0).map (fzl 3) = (predAll b).map (ints 3) := by
  unfold predLs predAll
  rw [List.map_map, List.map_map]
  refine List.map_congr_left fun q _ => ?_
  simp only [Function.comp, fzl_ints, predJ, List.take_zero, List.filter_nil, List.map_nil, List.append_nil]
 have hcells : (cellsOf js (predLs b b.code.length 0)).length = b.code.length := by rw [cellsOf_len ha.hl.len, ha.jlen]
 have hvm : VwL [0, 1, 2, 3, 5] L (cellsOf js (predLs b b.code.length 0)) ((predAll b).map (ints 3)) := by
  rw [← hal]
  refine ha.hl.frz (by simp) fun l hl => ?_
  unfold predLs at hl
  obtain ⟨q, _, rfl⟩ := List.mem_map.1 hl
  exact ⟨by simp, by simp [noId]⟩
 have hnl4 : allNl (cellsOf js (predLs b b.code.length 0)) := by
  unfold allNl
  rw [List.all_eq_true]
  intro p hp
  unfold cellsOf at hp
  obtain ⟨q, hq, rfl⟩ := List.mem_iff_getElem.1 hp
  rw [List.getElem_zipWith]
  cases js[q]'(by simp at hq; omega) <;> rfl
 have hL5 : 5 < L.length := (List.getElem?_eq_some_iff.1 ha.h5).1
 refine PC.abs (Abs.keep [0, 1, 2, 3, 5] [(6, .ptr 0 0), (8, .ptr 1 0), (9, .ptr 2 0), (15, .ptr 4 0)] (L' := [.row 65 (encBo b), .row 97 [.fn 55 [] [.ptr 0 0]], .row 98 [.mapr 3], .map (numM (wrLs b R) 0) R, .row 55 [.fz 24 (predAll b).length ((predAll b).map (ints 3))]]) (by simp) (by simp; omega) ?_ ?_) ?_
 ·refine .cons ⟨_, ha.low 0 (by omega), .row (VwL.same (by simp))⟩ (.cons ⟨_, ha.low 1 (by omega), .row (.cons (.fn rfl (fun i h => by simp at h) rfl (fun i h h' => ?_)) .nil)⟩ (.cons ⟨_, ha.low 2 (by omega), .row (.cons (.mapr rfl) .nil)⟩ (.cons ⟨_, ha.low 3 (by omega), .map (numM_view (VwL.same wrLs_noId))⟩ (.cons ⟨_, ha.h5, .row (.cons ?_ .nil)⟩ .nil))))
  ·match i, h, h' with
   | 0, _, _ => exact .ptr rfl
  ·have hpr : prow L 4 = some (24, cellsOf js (predLs b b.code.length 0)) := by simp only [prow, ha.h4]
   have h9 : (predAll b).length = b.code.length := predAll_len
   rw [h9]
   refine .fzs (cs'' := cellsOf js (predLs b b.code.length 0)) (by simp) hpr hnl4 (Nat.zero_le _) (by simp) hvm.length (fun j a c => F2.idx hvm j a c)
 ·simp [e6, e8, e9, e15]
  exact ⟨.ptr rfl, .ptr rfl, .ptr rfl, .ptr rfl⟩
 clear e6 e8 e9 e15 ha hvm hnl4 hL5 hcells js L E
 have envE : Has (envOf [(6, .ptr 0 0), (8, .ptr 1 0), (9, .ptr 2 0), (15, .ptr 4 0)]) [(6, .ptr 0 0), (8, .ptr 1 0), (9, .ptr 2 0), (15, .ptr 4 0)] := Has.env (by simp)
 generalize envOf [(6, .ptr 0 0), (8, .ptr 1 0), (9, .ptr 2 0), (15, .ptr 4 0)] = E at envE ⊢
 obtain ⟨e6, e8, e9, e15, -⟩ := envE
 clear hls hwr hwl hal
 generalize hn : b.code.length = n at *
 refine PC_seq (PW_ok _ ?_)
 simp [e6, e8, e9, e15, hb3, recs, hn, hn1, one, repl_nil]
 have hP : DfP b R = [.row 65 (encBo b), .row 97 [.fn 55 [] [.ptr 0 0]], .row 98 [.mapr 3], .map (numM (wrLs b R) 0) R, .row 55 [.fz 24 (predAll b).length ((predAll b).map (ints 3))], .row 83 [.slc 6 0 n n]] := by unfold DfP; rw [hn]
 have hno55 : noIdL [PV.fz 24 (predAll b).length ((predAll b).map (ints 3))] = true := by simp [noIdL, noId]
 refine PC.abs (Abs.keep [0, 1, 2, 3, 4, 6, 5] [(6, .ptr 0 0), (8, .ptr 1 0), (9, .ptr 2 0), (15, .ptr 4 0), (20, .ptr 5 0)] (L' := DfP b R ++ [.row 85 (List.replicate n (.v (.slice none 0 0)))]) (by simp) (by simp) ?_ ?_) ?_
 ·rw [hP]
  refine .cons ⟨_, rfl, .row (VwL.same (by simp))⟩ (.cons ⟨_, rfl, .row (.cons (.fn rfl (fun i h => by simp at h) rfl (fun i h h' => ?_)) .nil)⟩ (.cons ⟨_, rfl, .row (.cons (.mapr rfl) .nil)⟩ (.cons ⟨_, rfl, .map (numM_view (VwL.same wrLs_noId))⟩ (.cons ⟨_, rfl, .row (VwL.same hno55)⟩ (.cons ⟨_, rfl, .row (.cons (.slc rfl) .nil)⟩ (.cons ⟨_, rfl, .row (VwL.same (noIdL_iff.2 fun p hp => by rw [List.eq_of_mem_replicate hp]; rfl))⟩ .nil))))))
  match i, h, h' with
  | 0, _, _ => exact .ptr rfl
 ·simp [e6, e8, e9, e15]
  exact ⟨.ptr rfl, .ptr rfl, .ptr rfl, .ptr rfl, .ptr rfl⟩
 clear e6 e8 e9 e15 E
 have envE : Has (envOf [(6, .ptr 0 0), (8, .ptr 1 0), (9, .ptr 2 0), (15, .ptr 4 0), (20, .ptr 5 0)]) [(6, .ptr 0 0), (8, .ptr 1 0), (9, .ptr 2 0), (15, .ptr 4 0), (20, .ptr 5 0)] := Has.env (by simp)
 generalize envOf [(6, .ptr 0 0), (8, .ptr 1 0), (9, .ptr 2 0), (15, .ptr 4 0), (20, .ptr 5 0)] = E at envE ⊢
 obtain ⟨e6, e8, e9, e15, e20, -⟩ := envE
 have hbig : big n := by unfold big; omega
 have hDn : (defsD b R).n = n := hn
 have hn0 := hob.code0
 rw [hn] at hn0
 have hno55 : noIdL [PV.fz 24 (predAll b).length ((predAll b).map (ints 3))] = true := by simp [noIdL, noId]
 -- the sets
 refine PC_seq (PC_seq (PW_ok _ ?_))
 simp [e6, e8, e9, e15, e20, hP]
 refine PC_block (PC_loopG (DfJ1 b R (n + R)) ?_ (k := n) ⟨0, by omega, by simp [hP, hn, stCells], by simp [e6, e8, e9, e15, e20, hn]⟩)
 clear e6 e8 e9 e15 e20
 rintro m E L ⟨i, him, rfl, ⟨e6, e8, e9, e15, e20, e115, e116, e117, -⟩⟩
 rw [hn] at e115 e116 him ⊢
 have hwlen : (newW (n + R)).length = (n + R) / 64 + 1 := by simp [newW]
 by_cases hi : i < n
 case pos =>
  have hi' : (i : Int) < n := by omega
  have hw := wrap_inc hi hbig
  have hval : (n : Int) + b.regs = ((n + R : Nat) : Int) := by omega
  simp [e6, e8, e9, e15, e20, e115, e116, e117, hi', hP, hb3, recs, hn]
  unfold PGk
  refine of_w (b := b) (d := n) (t := 65) true rfl (by omega) (by omega) (by omega) (by omega) ?_
  rw [hval]
  simp
  unfold PGk
  have hc2 : ((n : Int) + R) = ((n + R : Nat) : Int) := by omega
  rw [hc2]
  refine new_w (by omega) true ?_
  have hlen : (stCells 7 (newW (n + R)).length i ++ List.replicate (n - i) (PV.v (.slice none 0 0))).length = n := by simp [stCells]; omega
  have hil2 : i < (stCells 7 (newW (n + R)).length i ++ List.replicate (n - i) (PV.v (.slice none 0 0))).length := by omega
  have hset : (stCells 7 (newW (n + R)).length i ++ List.replicate (n - i) (PV.v (.slice none 0 0))).set i (.slc (7 + i) 0 (newW (n + R)).length (newW (n + R)).length) = stCells 7 (newW (n + R)).length (i + 1) ++ List.replicate (n - (i + 1)) (PV.v (.slice none 0 0)) := by
   rw [stCells_succ, List.set_append_right _ _ (by simp [stCells]), show i - (stCells 7 (newW (n + R)).length i).length = 0 by simp [stCells], show n - i = (n - (i + 1)) + 1 by omega, List.replicate_succ, List.set_cons_zero, List.append_assoc]
   rfl
  generalize stCells 7 (newW (n + R)).length i ++ List.replicate (n - i) (PV.v (.slice none 0 0)) = cells at *
  simp [e6, e8, e9, e15, e20, e115, e116, e117, hi, hi', hil2, hw, hset]
  have e4 : i + 1 + 1 + 1 + 1 + 1 + 1 + 1 = 7 + i := by omega
  rw [e4, hset]
  refine GoOn.same (m - 1) (by omega) ⟨i + 1, by omega, ?_, by simp [e6, e8, e9, e15, e20, e115, e116, hn]⟩
  rw [hn, hP, List.replicate_succ']
  rfl
 have hie : i = n := by omega
 subst hie
 have hlof : DfP b R ++ (.row 85 (stCells 7 (newW (i + R)).length i ++ List.replicate (i - i) (.v (.slice none 0 0))) :: List.replicate i (.row 90 ((newW (i + R)).map pw))) = Lof (DfP b R) ((i + R) / 64 + 1) (List.replicate i (newW (i + R))) := by
  rw [hwlen]
  simp [Lof, stObjs, hP]
 rw [hlof]
 simp [e6, e8, e9, e15, e20, e115, e116, e117]
 -- the first set
 refine PC_seq (PC_seq (PW_ok _ ?_))
 have g0 : ∀ st : List (List W64), (Lof (DfP b R) ((i + R) / 64 + 1) st)[0]? = some (.row 65 (encBo b)) := fun st => rfl
 have g1 : ∀ st : List (List W64), (Lof (DfP b R) ((i + R) / 64 + 1) st)[1]? = some (.row 97 [.fn 55 [] [.ptr 0 0]]) := fun st => rfl
 have g5 : ∀ st : List (List W64), (Lof (DfP b R) ((i + R) / 64 + 1) st)[5]? = some (.row 83 [.slc 6 0 i i]) := fun st => by rw [hP]; rfl
 have hbw0 : beginW R (i + R) 0 = newW (i + R) := rfl
 simp [e6, e8, e9, e15, e20, g0, hb1, hR]
 have hset0 : (List.replicate i (newW (i + R))).set 0 (beginW R (i + R) 0) = List.replicate i (newW (i + R)) := by
  rw [hbw0]
  refine List.ext_getElem (by simp) fun q h1 h2 => ?_
  rw [List.getElem_set]
  split <;> simp
 have hbigR : big R := by unfold big; omega
 refine PC_block (PC_loopG (DfJ2 b R (i + R) ((i + R) / 64 + 1)) ?_ (k := R) ⟨0, by simp, by rw [hn, hset0], by simp [e6, e8, e9, e15, e20]⟩)
 clear e6 e8 e9 e15 e20 e115 e116 e117 him
 rintro m E L ⟨r, hrm, rfl, ⟨e6, e8, e9, e15, e20, e131, e132, -⟩⟩
 rw [hn]
 by_cases hr : r < R
 case pos =>
  have hr' : (r : Int) < R := by omega
  have hwr2 := wrap_inc hr hbigR
  have hw1 : IntKind.wrap .i64 (-1 - (r : Int)) = -1 - (r : Int) := wrap64 (by omega) (by omega)
  have hval : (-1 - (r : Int)) + b.regs = ((R - 1 - r : Nat) : Int) := by omega
  have hbn := beginW_next (R := R) (N := i + R) (r := r)
  have hbl := beginW_len (R := R) (N := i + R) (r := r)
  have hstl : ((List.replicate i (newW (i + R))).set 0 (beginW R (i + R) r)).length = i := by simp
  have g6 := Lof_cells (P := DfP b R) (J := []) (w := (i + R) / 64 + 1) (st := (List.replicate i (newW (i + R))).set 0 (beginW R (i + R) r))
  rw [List.append_nil, hstl] at g6
  have g7 := Lof_set (P := DfP b R) (J := []) (w := (i + R) / 64 + 1) (st := (List.replicate i (newW (i + R))).set 0 (beginW R (i + R) r)) (k := 0) (by simp; omega)
  rw [List.append_nil] at g7
  have gg : ((List.replicate i (newW (i + R))).set 0 (beginW R (i + R) r))[0]'(by simp; omega) = beginW R (i + R) r := by simp
  rw [gg] at g7
  have hPl : (DfP b R).length = 6 := by rw [hP]; rfl
  rw [hPl] at g6 g7
  have hsc : (stCells 7 ((i + R) / 64 + 1) i)[0]? = some (.slc 7 0 ((i + R) / 64 + 1) ((i + R) / 64 + 1)) := stCells_get (base := 7) (k := 0) hn0
  have hsc' : ∀ h, (stCells 7 ((i + R) / 64 + 1) i)[0]'h = .slc 7 0 ((i + R) / 64 + 1) ((i + R) / 64 + 1) := fun h => by rw [List.getElem?_eq_getElem h] at hsc; exact Option.some.inj hsc
  have hscl : (stCells 7 ((i + R) / 64 + 1) i).length = i := by simp [stCells]
  have hupd := Lof_upd (P := DfP b R) (J := []) (w := (i + R) / 64 + 1) (st := (List.replicate i (newW (i + R))).set 0 (beginW R (i + R) r)) (k := 0) (by simp; omega) (putW (beginW R (i + R) r) (R - 1 - r))
  rw [List.append_nil, List.append_nil, hPl, List.set_set, ← hbn] at hupd
  have hn0' : (0 : Int) < i := by omega
  clear gg hstl
  generalize hst1 : (List.replicate i (newW (i + R))).set 0 (beginW R (i + R) r) = st1 at *
  generalize stCells 7 ((i + R) / 64 + 1) i = cells at *
  simp [e6, e8, e9, e15, e20, e131, e132, hr', g5, g6, hsc, hsc', hscl, hn0, hn0', hw1, g1]
  unfold PGk
  refine of_w (b := b) (d := -1 - (r : Int)) (t := 65) true (g0 _) (by omega) (by omega) (by omega) (by omega) ?_
  rw [hval]
  have hq : (R - 1 - r) / 64 < (beginW R (i + R) r).length := by
   rw [hbl, hwlen]
   have : (R - 1 - r) / 64 ≤ (i + R) / 64 := Nat.div_le_div_right (by omega)
   omega
  have hrl : R - 1 - r < 5000 := by omega
  generalize R - 1 - r = x at *
  simp
  unfold PFk
  have hpw := put_w (t := 90) (i := 7) (n := x) (ws := beginW R (i + R) r) (L := Lof (DfP b R) ((i + R) / 64 + 1) st1) (K := fun v L => v = .tup [] ∧ L = Lof (DfP b R) ((i + R) / 64 + 1) ((List.replicate i (newW (i + R))).set 0 (beginW R (i + R) (r + 1)))) g7 (by omega) hq ⟨rfl, by rw [← hbn]; exact hupd⟩
  rw [hbl, hwlen] at hpw
  refine hpw.mono ?_
  rintro v L' ⟨rfl, rfl⟩
  simp [e6, e8, e9, e15, e20, e131, e132, hwr2]
  exact GoOn.same (m - 1) (by omega) ⟨r + 1, by omega, by rw [hn], by simp [e6, e8, e9, e15, e20, e131]⟩
 have hre : r = R := by omega
 subst hre
 simp [e6, e8, e9, e15, e20, e131, e132]
 have hbl := beginW_len (R := r) (N := i + r) (r := r)
 have hmemb := fun x => beginW_mem (R := r) (N := i + r) (x := x) (by omega) (Nat.le_refl r)
 have hst0 : (defsD b r).St ((i + r) / 64 + 1) ((List.replicate i (newW (i + r))).set 0 (beginW r (i + r) r)) := by
  refine ⟨by simp [hDn], fun s hs => ?_, fun k h x hx => ?_, fun k h x hx => ?_⟩
  ·rcases List.mem_or_eq_of_mem_set hs with h1 | rfl
   ·rw [List.eq_of_mem_replicate h1, hwlen]
   ·rw [hbl, hwlen]
  ·rw [List.getElem_set] at hx
   split at hx
   ·rename_i e
    subst e
    have := (hmemb x).1 hx
    exact .init (by simp only [defsD]; simpa using this.2)
   ·rw [List.getElem_replicate, hasW_new] at hx
    cases hx
  ·simp only [defsD, decide_eq_true_eq] at hx
   obtain ⟨rfl, hx⟩ := hx
   rw [List.getElem_set, if_pos rfl]
   exact (hmemb x).2 ⟨by omega, hx⟩
 have hwd : (r + i) / 64 < (i + r) / 64 + 1 := by rw [Nat.add_comm]; omega
 have hfn := defs_fn (w := (i + r) / 64 + 1) hob hR hil (by rw [hn]; exact hwd) (by omega)
 have hPl : (DfP b r).length = 6 := by rw [hP]; rfl
 refine PC_seq (PW_ok _ ?_)
 simp [e6, e8, e9, e15, e20, g0, g5, hb3]
 unfold PFk
 have hsv := fun K hk => solve_ok (K := K) (J0 := []) (ins := b.code) hfn hst0 (by rw [hDn, hn]) (by rw [hDn]; omega) (by omega) hk
 rw [hDn, hPl, List.append_nil] at hsv
 refine hsv _ fun st J hst hcl2 => ?_
 clear hsv hst0 g0 g1 g5 hlof hset0
 have hsl : st.length = i := by rw [hst.len, hDn]
 have hout := Df.out_eq (by rw [hDn]; intro k _ m hm; have := (predTo_mem.1 hm).1; omega) hst (by rw [hDn]; exact hcl2)
 have hlists : ((defsD b r).out (64 * ((i + r) / 64 + 1))).map (shiftI r) = st.map fun s => shiftI r (listW s 0) := by rw [← hout, List.map_map]; rfl
 have hbs : big st.length := by unfold big; omega
 rw [hlists]
 simp
 refine PC.abs (Abs.dropAll [(6, .fp (encBo b)), (20, .fp [.fz 85 st.length (st.map wset)])] ?_) ?_
 ·simp [e6, e20]
  refine ⟨.fzp (cs'' := encBo b) (by simp) (t := 65) rfl (by simp) (by simp) rfl rfl (fun j a b => .same (noIdL_get (by simp) j a)), ?_⟩
  have hpr5 : prow (Lof (DfP b r) ((i + r) / 64 + 1) st ++ J) 5 = some (83, [.slc 6 0 i i]) := by rw [hP]; rfl
  refine .fzp (cs'' := [.slc 6 0 i i]) (by simp) (t := 83) hpr5 rfl (by simp) rfl rfl (fun j h5 h6 => ?_)
  match j, h5, h6 with
  | 0, _, _ =>
   have := Lof_frz (P := DfP b r) (J := J) (τ := []) (by simp) hst.wid
   rw [hsl, hPl] at this
   rw [hsl]
   exact this
 clear e6 e8 e9 e15 e20 e131 e132
 refine PC_seq (PW_ok _ ?_)
 simp
 refine PC_seq (PC_seq (PW_ok _ ?_))
 simp [envC, envC_nil]
 refine PC.abs ((Abs.addNil 0 _ []).trans (Abs.keep [0] [(6, .fp (encBo b)), (23, .slc 0 0 0 0), (150, .fz 85 st.length (st.map wset)), (151, pin st.length), (152, pin (0 : Nat))] (L' := [.row 24 []]) (by simp) (by simp) (.cons ⟨_, rfl, .nilr⟩ .nil) ?_)) ?_
 ·simp [envC, envC_nil]
  exact ⟨.same (by simp [noId]), .nilr rfl rfl, .same (by simp [noId]), .same rfl, .same rfl⟩
 refine PC_block (PC_loopG (DfJ3 r st (.fp (encBo b))) ?_ (k := st.length) ⟨0, by simp, by simp, Has.env (by simp)⟩)
 rintro m2 E2 L ⟨j, hjm, rfl, ⟨e6, e23, e150, e151, e152, -⟩⟩
 by_cases hj : j < st.length
 case neg =>
  have hje : j = st.length := by omega
  subst hje
  rw [List.take_length]
  simp [e6, e23, e150, e151, e152]
  refine PW_ok _ ?_
  simp [e23, hres]
  exact .tup rfl (fun j a b => by
   match j, a, b with
   | 0, _, _ => exact Vw.frz rfl (by simp) (by simp) (by simp [lists2])
   | 1, _, _ => exact .same rfl)
 have hcut := cut1 (f := wset) hj
 have hws := hst.wid _ (List.getElem_mem hj)
 have htk : st.take (j + 1) = st.take j ++ [st[j]] := List.take_succ_eq_append_getElem hj
 have hlo := list_ok (ws := st[j]) (plus := -(r : Int)) (by rw [hws]; omega) (by omega)
 rw [nat3_shift] at hlo
 have hwj := wrap_inc hj hbs
 have rr : roomy (j + 1) 24 := roomy_of (by omega) (by omega)
 have hj' : (j : Int) < st.length := by omega
 have hmin : min j st.length = j := by omega
 have hjle : j ≤ st.length := by omega
 have hb1' : (encBo b).drop 1 = [pin r, pin b.args, recs 62 encI b.code] := by rw [← hR]; rfl
 have hle1 : (1 : Nat) ≤ (encBo b).length := by show 1 ≤ 4; omega
 have hng : IntKind.wrap .i64 (-(r : Int)) = -(r : Int) := wrap64 (by omega) (by omega)
 have hv : ∀ {τ : List Nat} {L : List LObj}, VwL τ L ((st.map (fun s => ints 3 (shiftI r (listW s 0)))).take j ++ [ints 3 (shiftI r (listW st[j] 0))]) ((st.take (j + 1)).map fun s => ints 3 (shiftI r (listW s 0))) := by
  intro τ L
  rw [htk, List.map_append, ← List.map_take]
  exact VwL.same (by simp [noIdL_append, noIdL])
 simp [e6, e23, e150, e151, e152, hj, hj', hcut, hb1', hng]
 refine hlo.runk ?_
 simp [e6, e23, e150, e151, e152, hwj, rr, hmin, hjle]
 refine GoOn.keep [2] [(6, .fp (encBo b)), (23, .slc 0 0 (j + 1) (j + 1)), (150, .fz 85 st.length (st.map wset)), (151, pin st.length), (152, pin (j + 1 : Nat))] (L' := [.row 24 ((st.take (j + 1)).map fun s => ints 3 (shiftI r (listW s 0)))]) (m2 - 1) (by omega) (by simp) (by simp) (.cons ⟨_, rfl, .row hv⟩ .nil) ?_ ⟨j + 1, by omega, rfl, Has.env (by simp)⟩
 simp [e6, e150, e151]
 exact ⟨.same (by simp [noId]), .slc rfl, .same (by simp [noId]), .same rfl, .same rfl⟩
def regOf (b : FBody) (v : Int) : Int := if 0 ≤ v then writesAt b v.toNat else -1 - v
def otherR (b : FBody) (w : Int) (l : List Int) : List Int := l.filter fun v => !decide (regOf b v = w)
def behindL (b : FBody) (m : Nat) (l : List Int) : List Int := if writesAt b m < 0 then l else putL (otherR b (writesAt b m) l) m
theorem otherR_take {b : FBody} {w : Int} {l : List Int} {i : Nat} (hi : i < l.length) : otherR b w (l.take (i + 1)) = if regOf b l[i] = w then otherR b w (l.take i) else otherR b w (l.take i) ++ [l[i]] := by
 unfold otherR
 rw [List.take_succ_eq_append_getElem hi, List.filter_append]
 by_cases h : regOf b l[i] = w <;> simp [h]
theorem otherR_len {b : FBody} {w : Int} {l : List Int} : (otherR b w l).length ≤ l.length := List.length_filter_le _ _
theorem behindL_mem {b : FBody} {m : Nat} {l : List Int} {v : Int} : v ∈ behindL b m l ↔ (0 ≤ writesAt b m ∧ v = m) ∨ (v ∈ l ∧ (writesAt b m < 0 ∨ regOf b v ≠ writesAt b m)) := by
 unfold behindL
 split
 ·rename_i h
  constructor
  ·exact fun hv => .inr ⟨hv, .inl h⟩
  ·rintro (⟨h1, _⟩ | ⟨h1, _⟩)
   ·omega
   ·exact h1
 ·rename_i h
  rw [putL_mem]
  unfold otherR
  simp only [List.mem_filter, Bool.not_eq_true', decide_eq_false_iff_not]
  constructor
  ·rintro (⟨h1, h2⟩ | h1)
   ·exact .inr ⟨h1, .inr h2⟩
   ·exact .inl ⟨by omega, h1⟩
  ·rintro (⟨_, h1⟩ | ⟨h1, h2⟩)
   ·exact .inr h1
   ·exact .inl ⟨h1, h2.resolve_left h⟩
theorem kill_iff {b : FBody} {R w y : Nat} (hw : w < R) : y ∈ wrL b R b.code.length w ↔ regOf b ((y : Int) - R) = w := by
 unfold wrL regOf
 simp only [List.mem_cons, List.mem_map, List.mem_filter, List.mem_range, decide_eq_true_eq]
 by_cases h : R ≤ y
 ·rw [if_pos (by omega)]
  have e : ((y : Int) - R).toNat = y - R := by omega
  rw [e]
  constructor
  ·rintro (h1 | ⟨j, ⟨_, h2⟩, rfl⟩)
   ·omega
   ·rw [show j + R - R = j by omega]; exact h2
  ·intro h1
   refine .inr ⟨y - R, ⟨?_, h1⟩, by omega⟩
   refine Nat.lt_of_not_le fun hh => ?_
   unfold writesAt at h1
   rw [List.getElem?_eq_none hh] at h1
   simp at h1
 ·rw [if_neg (by omega)]
  constructor
  ·rintro (h1 | ⟨j, _, rfl⟩)
   ·omega
   ·omega
  ·intro h1; left; omega
theorem behind_thr {b : FBody} {R m : Nat} {l : List Int} {y : Nat} (hw : writesAt b m < R) : (((y : Int) - R) ∈ behindL b m l) ↔ (defsD b R).thr m (memS R l) y = true := by
 rw [behindL_mem]
 unfold Df.thr defsD memS
 simp only [Bool.or_eq_true, Bool.and_eq_true, decide_eq_true_eq, Bool.not_eq_true', decide_eq_false_iff_not]
 by_cases h0 : 0 ≤ writesAt b m
 ·obtain ⟨w, hww⟩ : ∃ w : Nat, writesAt b m = w := ⟨(writesAt b m).toNat, by omega⟩
  have hk := kill_iff (b := b) (R := R) (w := w) (y := y) (by omega)
  rw [hww, Int.toNat_natCast, hk]
  have h1 : (0 : Int) ≤ (w : Int) := by omega
  have h2 : ¬ (w : Int) < 0 := by omega
  simp only [h1, h2, true_and, false_or]
  refine or_congr ⟨fun h => by omega, fun h => by omega⟩ Iff.rfl
 ·have h2 : writesAt b m < 0 := by omega
  simp [h0, h2]
theorem behind_inr {b : FBody} {R B m : Nat} {l : List Int} (hm : m + R < B) (h : InR R B l) : InR R B (behindL b m l) := by
 unfold behindL
 split
 ·exact h
 ·refine InR.put ⟨List.Pairwise.filter _ h.asc, fun v hv => h.rng v (List.mem_filter.1 hv).1⟩ ⟨m + R, by omega, hm⟩
def BhJ (b : FBody) (w : Int) (l : List Int) (m0 : Nat) (m : Nat) (E : PEnv) (L : List LObj) : Prop := ∃ i : Nat, i + m = l.length ∧ L = [.row 3 ((otherR b w (l.take i)).map pin)] ∧
 Has E [(0, recs 62 encI b.code), (1, pin m0), (2, ints 3 l), (8, pin w), (9, .slc 0 0 (otherR b w (l.take i)).length (otherR b w (l.take i)).length), (10, pin i)]
set_option maxRecDepth 8000 in
set_option maxHeartbeats 4000000 in
theorem behind_ok {b : FBody} {m0 : Nat} {l : List Int} (hm : m0 < b.code.length) (hn : b.code.length ≤ 20000) (hil : ∀ i ∈ b.code, i.list.length ≤ 1000000) (hl : l.length ≤ 100000) (hr : ∀ v ∈ l, -5000 ≤ v ∧ v < b.code.length) :
  PPd (.fn 58 [] []) [recs 62 encI b.code, pin m0, ints 3 l] (ints 3 (behindL b m0 l)) := by
 refine PP_code rfl rfl rfl (by simp) (by simp [noId]) (by simp) ?_
 have hres : ir58.results = [.tmp 6] := rfl
 have hcutI := cutI hm
 have hcI : List.take 7 (encI b.code[m0]) = encI b.code[m0] := rfl
 have huse := usesR_ok (i := b.code[m0]) (hil _ (List.getElem_mem hm))
 have hwa : writesAt b m0 = writesS b.code[m0] := by simp [writesAt, hm]
 have hm' : (m0 : Int) < b.code.length := by omega
 have hbl : big l.length := by unfold big; omega
 unfold behindL
 rw [hwa]
 generalize hw : writesS b.code[m0] = w at *
 refine PC_seq (PW_ok _ ?_)
 simp
 refine PC_seq (PW_ok _ ?_)
 simp [recs, hm, hm', hcutI, hcI]
 refine huse.runk ?_
 simp [usesV, hw]
 by_cases hw0 : w < 0
 ·rw [if_pos hw0]
  refine PW_ok _ ?_
  simp [hw0, hres]
  exact .same (by simp)
 rw [if_neg hw0]
 refine PC_seq (PC_seq (PW_ok _ ?_))
 simp [hw0]
 refine PW_ok _ ?_
 simp
 refine PC_seq (PW_ok _ ?_)
 simp
 refine PC_seq (PC_seq (PW_ok _ ?_))
 simp
 refine PC_block (PC_loopG (BhJ b w l m0) ?_ (k := l.length) ⟨0, by simp, by simp [otherR], by simp [otherR, recs]⟩)
 rintro m E L ⟨i, him, rfl, ⟨e0, e1, e2, e8, e9, e10, -⟩⟩
 by_cases hi : i < l.length
 case neg =>
  have : i = l.length := by omega
  subst this
  rw [List.take_length] at e9 ⊢
  have hol := otherR_len (b := b) (w := w) (l := l)
  simp [e0, e1, e2, e8, e9, e10, ints]
  refine PC.abs (Abs.dropAll [(1, pin m0), (9, ints 3 (otherR b w l))] ?_) ?_
  ·simp [e1, e9]
   exact ⟨.same rfl, Vw.frz rfl (by simp) (by simp [noId]) rfl⟩
  refine PC_seq (PW_ok _ ?_)
  simp [envC]
  refine (put_ok (l := otherR b w l) (n := m0) (by omega)).runk ?_
  simp
  refine PW_ok _ ?_
  simp [hres]
  exact .same (by simp)
 have hcut := cut1 (f := pin) hi
 have hnx := otherR_take (b := b) (w := w) hi
 have hol := otherR_len (b := b) (w := w) (l := l.take i)
 obtain ⟨v0, v1⟩ := hr _ (List.getElem_mem hi)
 have hwi := wrap_inc hi hbl
 simp at hol
 have rr : roomy ((otherR b w (l.take i)).length + 1) 8 := roomy_of (by omega) (by omega)
 generalize l[i] = v at *
 have hv1 : IntKind.wrap .i64 (-1 - v) = -1 - v := wrap64 (by omega) (by omega)
 -- the end of the round
 have skip : regOf b v = w → ∀ {E' : PEnv}, Has E' [(0, recs 62 encI b.code), (1, pin m0), (2, ints 3 l), (8, pin w), (9, .slc 0 0 (otherR b w (l.take i)).length (otherR b w (l.take i)).length), (10, pin (i + 1 : Nat))] → GoOn (BhJ b w l m0) m E' [.row 3 ((otherR b w (l.take i)).map pin)] := by
  intro h E' hE
  rw [if_pos h] at hnx
  exact GoOn.same (m - 1) (by omega) ⟨i + 1, by omega, by rw [hnx], by rw [hnx]; exact hE⟩
 have add : regOf b v ≠ w → ∀ {E' : PEnv} {L' : List LObj} {j : Nat}, E'.get 0 = some (recs 62 encI b.code) → E'.get 1 = some (pin m0) → E'.get 2 = some (ints 3 l) → E'.get 8 = some (pin w) → E'.get 9 = some (.slc j 0 ((otherR b w (l.take i)).length + 1) ((otherR b w (l.take i)).length + 1)) → E'.get 10 = some (pin (i + 1 : Nat)) → L'[j]? = some (.row 3 ((otherR b w (l.take i)).map pin ++ [pin v])) → GoOn (BhJ b w l m0) m E' L' := by
  intro h E' L' j a0 a1 a2 a8 a9 a10 hj
  rw [if_neg h] at hnx
  refine GoOn.keep [j] [(0, recs 62 encI b.code), (1, pin m0), (2, ints 3 l), (8, pin w), (9, .slc 0 0 (otherR b w (l.take (i + 1))).length (otherR b w (l.take (i + 1))).length), (10, pin (i + 1 : Nat))] (m - 1) (by omega) (by simp) (by simpa using (List.getElem?_eq_some_iff.1 hj).1) (.cons ⟨_, hj, .row (VwL.same (by simp [noId]))⟩ .nil) ?_ ⟨i + 1, by omega, by rw [hnx]; simp, Has.env (by simp)⟩
  rw [hnx]
  simp only [HasV_cons, HasV_nil, and_true, List.length_append, List.length_cons, List.length_nil]
  exact ⟨⟨_, a0, .same (by simp [noId])⟩, ⟨_, a1, .same rfl⟩, ⟨_, a2, .same (by simp)⟩, ⟨_, a8, .same rfl⟩, ⟨_, a9, .slc rfl⟩, ⟨_, a10, .same rfl⟩⟩
 by_cases hv : 0 ≤ v
 ·obtain ⟨vn, rfl⟩ : ∃ n : Nat, v = n := ⟨v.toNat, by omega⟩
  have hvn : vn < b.code.length := by omega
  have hcutV := cutI hvn
  have hcV : List.take 7 (encI b.code[vn]) = encI b.code[vn] := rfl
  have huseV := usesR_ok (i := b.code[vn]) (hil _ (List.getElem_mem hvn))
  have hreg : regOf b (vn : Int) = writesS b.code[vn] := by unfold regOf; rw [if_pos (by omega)]; simp [writesAt, hvn]
  rw [hreg] at skip add
  have hvn' : (vn : Int) < b.code.length := by omega
  generalize b.code[vn] = x at *
  simp [e0, e1, e2, e8, e9, e10, ints, hi, hcut, hv1, recs, hvn, hvn', hcutV, hcV]
  refine huseV.runk ?_
  by_cases hx : writesS x = w
  ·simp [usesV, e0, e1, e2, e8, e9, e10, hx, hwi]
   refine skip hx ?_
   simp [e0, e1, e2, e8, e9, recs, ints]
  ·simp [usesV, e0, e1, e2, e8, e9, e10, hx, hwi, ints, hi, hcut, rr]
   exact add hx (j := 2) (by simp [e0, recs]) (by simp [e1]) (by simp [e2, ints]) (by simp [e8]) (by simp) (by simp) (by simp)
 ·have hreg : regOf b v = -1 - v := by unfold regOf; rw [if_neg hv]
  rw [hreg] at skip add
  by_cases hx : -1 - v = w
  ·have hv2 : IntKind.wrap .i64 (-1 - v) = w := by rw [hv1, hx]
   simp [e0, e1, e2, e8, e9, e10, ints, hi, hcut, hv2, hv, hwi]
   refine skip hx ?_
   simp [e0, e1, e2, e8, e9, recs, ints]
  ·simp [e0, e1, e2, e8, e9, e10, ints, hi, hcut, hv1, hv, hx, hwi, rr]
   exact add hx (j := 2) (by simp [e0, recs]) (by simp [e1]) (by simp [e2, ints]) (by simp [e8]) (by simp) (by simp) (by simp)
def beginL (r : Nat) : List Int := (List.range r).foldl (fun l (q : Nat) => putL l (-1 - (q : Int))) []
theorem beginL_next {r : Nat} : beginL (r + 1) = putL (beginL r) (-1 - (r : Int)) := by
 unfold beginL
 rw [List.range_succ, List.foldl_append]; rfl
theorem beginL_mem {v : Int} : ∀ {r : Nat}, v ∈ beginL r ↔ -(r : Int) ≤ v ∧ v < 0 := by
 intro r
 induction r with
 | zero => simp [beginL]
 | succ r ih => rw [beginL_next, putL_mem, ih]; omega
theorem beginL_inr {R B r : Nat} (hB : R ≤ B) (hr : r ≤ R) : InR R B (beginL r) := by
 refine ⟨?_, fun v hv => ?_⟩
 ·clear hr
  induction r with
  | zero => exact .nil
  | succ r ih => rw [beginL_next]; exact putL_asc ih
 ·have := beginL_mem.1 hv
  exact ⟨(v + R).toNat, by omega, by omega⟩
theorem follow_succ {b : FBody} {i : Nat} (hi : i < b.code.length) {v : Int} : v ∈ followI b.code[i] i ↔ v ∈ succAt b i := by
 rw [follow_mem]
 have : succAt b i = succI b.code[i] i := by
  unfold succAt
  rw [List.getD_eq_getElem?_getD, List.getElem?_eq_getElem (by rw [succsL_len]; exact hi)]
  simp [succsL]
 rw [this]
def DrI0 (b : FBody) (R m : Nat) (E : PEnv) (L : List LObj) : Prop := ∃ r : Nat, r + m = R ∧ L = [.row 24 (((List.replicate b.code.length []).set 0 (beginL r)).map (ints 3))] ∧
 Has E [(7, .fp (encBo b)), (8, .slc 0 0 b.code.length b.code.length), (9, pin r)]
def DrC (b : FBody) (R : Nat) (outs0 : List (List Int)) (i : Nat) : Prop := ∀ m, m < i → ∀ k, k < b.code.length → m ∈ (defsD b R).near k → (defsD b R).closedL R outs0 k m
def DrJ1 (b : FBody) (R B : Nat) (m : Nat) (E : PEnv) (L : List LObj) : Prop := ∃ outs ag, m = (B * b.code.length - lenSum outs) + (if ag = true then 1 else 0) ∧ L = [.row 24 (outs.map (ints 3))] ∧ (defsD b R).Ls R B outs ∧
 (ag = false → DrC b R outs b.code.length) ∧ Has E [(7, .fp (encBo b)), (8, .slc 0 0 b.code.length b.code.length), (10, pbool ag)]
def DrJ2 (b : FBody) (R B : Nat) (outs0 : List (List Int)) (m : Nat) (E : PEnv) (L : List LObj) : Prop := ∃ outs ag i, i + m = b.code.length ∧ L = [.row 24 (outs.map (ints 3))] ∧ (defsD b R).Ls R B outs ∧
 PassL outs0 outs ag (DrC b R outs0 i) ∧ Has E [(7, .fp (encBo b)), (8, .slc 0 0 b.code.length b.code.length), (10, pbool ag), (11, pin i)]
def DrJ3 (b : FBody) (R B : Nat) (outs0 outsS : List (List Int)) (i : Nat) (fl now : List Int) (m : Nat) (E : PEnv) (L : List LObj) : Prop := ∃ outs ag k, k + m = fl.length ∧ L = [.row 24 (outs.map (ints 3))] ∧ (defsD b R).Ls R B outs ∧
 PassL outs0 outs ag (DrC b R outs0 i ∧ outsS = outs0 ∧ ∀ f ∈ fl.take k, (defsD b R).closedL R outs0 f.toNat i) ∧
 Has E [(7, .fp (encBo b)), (8, .slc 0 0 b.code.length b.code.length), (10, pbool ag), (11, pin i), (12, ints 3 fl), (13, ints 3 now), (14, pin k)]
def DrJ4 (b : FBody) (outs : List (List Int)) (ag : Bool) (i k fk : Nat) (fl now l0 : List Int) (m : Nat) (E : PEnv) (L : List LObj) : Prop := ∃ j : Nat, j + m = now.length ∧ L = [.row 24 ((outs.map (ints 3)).set fk (ints 3 ((now.take j).foldl putL l0)))] ∧
 Has E [(7, .fp (encBo b)), (8, .slc 0 0 b.code.length b.code.length), (10, pbool ag), (11, pin i), (12, ints 3 fl), (13, ints 3 now), (14, pin k), (15, pin l0.length), (16, pin j)]
set_option maxRecDepth 8000 in
set_option maxHeartbeats 8000000 in
theorem defsR_ok {c : FCode} {body : Int} (hc : OkC c) : PPd (.fn 27 [] []) [.agg (encC c), pin body] (.tup [lists2 24 (defsS c body), pin (errS c body)]) := by
 refine PP_code rfl rfl rfl (by simp) (by simp [noId]) (by simp [noId, noIdL]) ?_
 have hres : ir27.results = [.tmp 4, .tmp 5] := rfl
 have hcc : cut (encC c) 0 2 = encC c := rfl
 refine PC_seq (PW_ok _ ?_)
 simp
 refine PC_seq (PC_seq (PW_ok _ ?_))
 simp [hcc]
 refine (checkBody_ok hc).runk ?_
 by_cases he : errS c body = 0
 case neg =>
  have hls : defsS c body = [] := by simp [defsS, he]
  rw [hls]
  simp
  refine PW_ok _ ?_
  simp [he]
  simp [he, hres]
  exact .tup rfl (fun j a b => by
   match j, a, b with
   | 0, _, _ => exact .nil
   | 1, _, _ => exact .same rfl)
 have h0 : checkS c = 0 := by
  unfold errS at he
  by_cases h : checkS c = 0
  ·exact h
  ·rw [if_pos h] at he; exact absurd he h
 have hbd : 0 ≤ body ∧ body < c.bodies.length := by
  unfold errS at he
  rw [if_neg (by simp [h0])] at he
  split at he
  ·omega
  ·omega
 obtain ⟨k, rfl⟩ : ∃ k : Nat, body = k := ⟨body.toNat, by omega⟩
 have hk : k < c.bodies.length := by omega
 have hls : defsS c (k : Int) = ((defsD c.bodies[k] c.bodies[k].regs.toNat).out (64 * ((c.bodies[k].code.length + c.bodies[k].regs.toNat) / 64 + 1))).map (shiftI c.bodies[k].regs.toNat) := by simp [defsS, he, hk]
 have hob := okB_of h0 hk
 have hil := hc.list _ (List.getElem_mem hk)
 have hcb := cutBo hk
 have hE1 : (encC c)[1]? = some (recs 65 encBo c.bodies) := rfl
 rw [hls, he]
 have hkc : (k : Int) < c.bodies.length := by omega
 generalize c.bodies[k] = b at *
 have hr0 := hob.regs0
 have hr1 := hob.regs
 obtain ⟨R, hR⟩ : ∃ R : Nat, b.regs = R := ⟨b.regs.toNat, by omega⟩
 have hRn : b.regs.toNat = R := by omega
 rw [hRn]
 have hcl := hob.code
 have hn0 := hob.code0
 have hwr : ∀ m, writesAt b m < R ∨ b.code.length ≤ m := fun m => by
  by_cases h : m < b.code.length
  ·have := writes_ok hob.regs0 (hob.right _ (List.getElem_mem h))
   left; simp [writesAt, h]; omega
  ·right; omega
 have hps : psplice [PV.v (S []), PV.v (I 0), PV.v (I 0), PV.v (.slice none 0 0)] 0 (encBo b) = encBo b := psplice_full rfl
 have hb3 : (encBo b)[3]? = some (recs 62 encI b.code) := rfl
 have hd3 : (encBo b).drop 3 = [recs 62 encI b.code] := rfl
 have hd1 : (encBo b).drop 1 = [pin b.regs, pin b.args, recs 62 encI b.code] := rfl
 have hlen4 : (encBo b).length = 4 := rfl
 have hc4 : List.take 4 (encBo b) = encBo b := rfl
 have hn1 : (b.code.length : Int) ≤ 9223372036854775807 ∧ 24 * (b.code.length : Int) ≤ 281474976710656 := by omega
 simp [he]
 refine PW_ok _ ?_
 simp
 refine PC_seq (PW_ok _ ?_)
 simp [hE1, recs, hk, hkc, hcb, hc4, hps, hlen4]
 refine PC_seq (PW_ok _ ?_)
 simp [hb3, recs, one, repl_nil, hn1]
 generalize hB : 64 * ((b.code.length + R) / 64 + 1) = B
 have hBr : b.code.length + R ≤ B := by omega
 have hBl : B ≤ 30000 := by omega
 refine PC.abs (Abs.keep [2] [(7, .fp (encBo b)), (8, .slc 0 0 b.code.length b.code.length)] (L' := [.row 24 ((List.replicate b.code.length ([] : List Int)).map (ints 3))]) (by simp) (by simp) (.cons ⟨_, rfl, .row (F2.of_idx (by simp) fun i h1 h2 => ?_)⟩ .nil) ?_) ?_
 ·simp
  exact .nil
 ·simp
  exact ⟨.fzp (cs'' := encBo b) (by simp) (t := 65) rfl (by simp) (by simp) rfl rfl (fun j a b => .same (noIdL_get (by simp) j a)), .slc rfl⟩
 have envE : Has (envOf [(7, .fp (encBo b)), (8, .slc 0 0 b.code.length b.code.length)]) [(7, .fp (encBo b)), (8, .slc 0 0 b.code.length b.code.length)] := Has.env (by simp)
 generalize envOf [(7, .fp (encBo b)), (8, .slc 0 0 b.code.length b.code.length)] = E at envE ⊢
 obtain ⟨e7, e8, -⟩ := envE
 have hrep0 : ((List.replicate b.code.length []).set 0 (beginL 0)).map (ints 3) = (List.replicate b.code.length ([] : List Int)).map (ints 3) := by
  congr 1
  refine List.ext_getElem (by simp) fun q h1 h2 => ?_
  rw [List.getElem_set]
  split <;> simp [beginL]
 have hbigR : big R := by unfold big; omega
 have hbig : big b.code.length := by unfold big; omega
 refine PC_seq (PC_seq (PW_ok _ ?_))
 simp [e7, e8]
 refine PC_block (PC_loopG (DrI0 b R) ?_ (k := R) ⟨0, by simp, by rw [hrep0]; simp, by simp [e7, e8]⟩)
 clear e7 e8
 rintro m E L ⟨r, hrm, rfl, ⟨e7, e8, e9, -⟩⟩
 by_cases hr : r < R
 case pos =>
  have hr' : (r : Int) < R := by omega
  have hw1 : IntKind.wrap .i64 (-1 - (r : Int)) = -1 - (r : Int) := wrap64 (by omega) (by omega)
  have hwr2 := wrap_inc hr hbigR
  have hbi := (beginL_inr (R := R) (B := B) (r := r) (by omega) (by omega)).len
  have hrow : (((List.replicate b.code.length []).set 0 (beginL r)).map (ints 3))[0]? = some (ints 3 (beginL r)) := by simp [hn0]
  have hrow' : ∀ h, (((List.replicate b.code.length []).set 0 (beginL r)).map (ints 3))[0]'h = ints 3 (beginL r) := fun h => by simp
  have hrl : (((List.replicate b.code.length []).set 0 (beginL r)).map (ints 3)).length = b.code.length := by simp
  have hset : (((List.replicate b.code.length []).set 0 (beginL r)).map (ints 3)).set 0 (ints 3 (beginL (r + 1))) = ((List.replicate b.code.length []).set 0 (beginL (r + 1))).map (ints 3) := by rw [List.map_set, List.set_set, List.map_set]
  have hp := put_ok (l := beginL r) (n := -1 - (r : Int)) (by omega)
  rw [← beginL_next] at hp
  have hn0' : (0 : Int) < b.code.length := by omega
  generalize ((List.replicate b.code.length []).set 0 (beginL r)).map (ints 3) = rowv at *
  simp [e7, e8, e9, hd1, hlen4, hR, hr', hrow, hrow', hrl, hn0, hn0', hw1]
  refine hp.runk ?_
  simp [e7, e8, e9, hn0, hn0', hrl, hwr2]
  refine GoOn.same (m - 1) (by omega) ⟨r + 1, by omega, ?_, by simp [e7, e8]⟩
  rw [hset]
 have hre : r = R := by omega
 subst hre
 have hDn : (defsD b r).n = b.code.length := rfl
 have hls0 : (defsD b r).Ls r B ((List.replicate b.code.length []).set 0 (beginL r)) := by
  refine ⟨by simp [hDn], fun l hl => ?_, fun k h y hy => ?_, fun k h y hy => ?_⟩
  ·rcases List.mem_or_eq_of_mem_set hl with h1 | rfl
   ·rw [List.eq_of_mem_replicate h1]; exact ⟨.nil, fun v hv => by simp at hv⟩
   ·exact beginL_inr (by omega) (Nat.le_refl _)
  ·rw [List.getElem_set] at hy
   split at hy
   ·rename_i e
    subst e
    have := beginL_mem.1 hy
    exact .init (by simp only [defsD]; simp; omega)
   ·simp at hy
  ·simp only [defsD, decide_eq_true_eq] at hy
   obtain ⟨rfl, hy⟩ := hy
   rw [List.getElem_set, if_pos rfl]
   exact beginL_mem.2 (by omega)
 have hnlt : ∀ k, k < (defsD b r).n → ∀ m ∈ (defsD b r).near k, m < (defsD b r).n := fun k _ m hm => (predTo_mem.1 hm).1
 simp [e7, e8, e9, hd1, hlen4, hR]
 refine PC_seq (PC_seq (PW_ok _ ?_))
 simp [e7, e8]
 have hmapI : [LObj.row 24 ((List.replicate b.code.length (ints 3 [])).set 0 (ints 3 (beginL r)))] = [LObj.row 24 (((List.replicate b.code.length []).set 0 (beginL r)).map (ints 3))] := by simp [List.map_set]
 generalize (List.replicate b.code.length []).set 0 (beginL r) = outsI at *
 refine PC_block (PC_loopG (DrJ1 b r B) ?_ (k := B * b.code.length - lenSum outsI + 1) ⟨outsI, true, by simp, hmapI, hls0, by simp, by simp [e7, e8]⟩)
 clear e7 e8 e9 hrm hrep0 hls0
 rintro m E L ⟨outs, ag, hm, rfl, ho, hcl2, ⟨e7, e8, e10, -⟩⟩
 have hlo : outs.length = b.code.length := ho.len
 cases ag with
 | false =>
  have heq := ho.eq hnlt (fun k hk m hm => hcl2 rfl m (predTo_mem.1 hm).1 k hk hm)
  simp [e7, e8, e10]
  refine PW_ok _ ?_
  simp [e8, hres]
  rw [← heq]
  exact .tup rfl (fun j a b => by
   match j, a, b with
   | 0, _, _ => exact Vw.frz rfl (by simp) (by simp) (by simp [lists2, hlo])
   | 1, _, _ => exact .same rfl)
 | true =>
 simp [e7, e8, e10]
 refine PC_loopG (DrJ2 b r B outs) ?_ (k := b.code.length) ⟨outs, false, 0, by omega, rfl, ho, .inr ⟨rfl, rfl, fun m h => by omega⟩, by simp [e7, e8]⟩
 clear e7 e8 e10
 rintro m2 E L ⟨outs2, ag, i, him, rfl, ho2, hp, ⟨e7, e8, e10, e11, -⟩⟩
 have hlo2 : outs2.length = b.code.length := ho2.len
 have hsum : ∀ {o}, (defsD b r).Ls r B o → lenSum o ≤ B * b.code.length := fun {o} h => by
  have := lenSum_le (B := B) fun l hl => (h.inr l hl).len
  rwa [show o.length = b.code.length from h.len] at this
 by_cases hi : i < b.code.length
 case neg =>
  have hie : i = b.code.length := by omega
  subst hie
  simp [e7, e8, e10, e11, hd3, hlen4, recs]
  refine GoOn.same (B * b.code.length - lenSum outs2 + (if ag = true then 1 else 0)) ?_ ⟨outs2, ag, rfl, rfl, ho2, fun hag => ?_, by simp [e7, e8, e10]⟩
  ·have h1 := hsum ho
   have h2 := hsum ho2
   rcases hp with ⟨h3, h4⟩ | ⟨h3, h4, _⟩
   ·rw [hm, h3]; simp; omega
   ·rw [hm, h3, h4]; simp
  ·rcases hp with ⟨h3, _⟩ | ⟨_, h4, h5⟩
   ·rw [h3] at hag; cases hag
   ·rw [h4]; exact h5
 have hi' : (i : Int) < b.code.length := by omega
 have hio : i < outs2.length := by omega
 have hfo := follow_ok (l := b.code) (i := i) hi (by omega)
 have hfl : (followI b.code[i] i).length ≤ 2 := by
  unfold followI
  repeat' split
  all_goals first | (simp; done) | exact Nat.le_trans putL_len (by simp)
 have hfr : ∀ f ∈ followI b.code[i] i, 0 ≤ f ∧ f < b.code.length := fun f hf => succ_ok hob hi f (follow_mem.1 hf)
 have hfn : ∀ f ∈ followI b.code[i] i, i ∈ (defsD b r).near f.toNat := fun f hf => predTo_mem.2 ⟨hi, by
  have := hfr f hf
  rw [show ((f.toNat : Nat) : Int) = f by omega]
  exact (follow_succ hi).1 hf⟩
 have hfc : ∀ k, i ∈ (defsD b r).near k → (k : Int) ∈ followI b.code[i] i := fun k hk => (follow_succ hi).2 (predTo_mem.1 hk).2
 have hin := ho2.inr _ (List.getElem_mem hio)
 have hwi := (hwr i).resolve_right (by omega)
 have hbinr := behind_inr (b := b) (m := i) (B := B) (by omega) hin
 have hblen := hbinr.len
 have hinl := hin.len
 have hbh := behind_ok (b := b) (m0 := i) (l := outs2[i]) hi hcl hil (by omega) (fun v hv => by
  obtain ⟨y, rfl, hy⟩ := hin.rng v hv
  have hD := ho2.sound i hio y hv
  -- definitions are few
  have hlt : ∀ {k y}, (defsD b r).D k y → y < b.code.length + r := by
   intro k y hd
   induction hd with
   | init h => simp only [defsD, decide_eq_true_eq] at h; omega
   | gen hm h => simp only [defsD, decide_eq_true_eq] at h; have := (predTo_mem.1 hm).1; omega
   | pass _ _ _ ih => exact ih
  have := hlt hD
  omega)
 have hsnd : ∀ y : Nat, ((y : Int) - r) ∈ behindL b i outs2[i] → ∀ k, i ∈ (defsD b r).near k → (defsD b r).D k y := fun y hy k hk => by
  have h1 := (behind_thr hwi).1 hy
  unfold Df.thr at h1
  rw [Bool.or_eq_true, Bool.and_eq_true] at h1
  rcases h1 with h2 | ⟨h2, h3⟩
  ·exact .gen hk h2
  ·refine .pass hk (ho2.sound i hio y (by unfold memS at h2; exact of_decide_eq_true h2)) (by simpa using h3)
 have hall : ∀ y, (defsD b r).thr i (memS r (outs2.getD i [])) y = true → ((y : Int) - r) ∈ behindL b i outs2[i] := fun y hy => by
  rw [List.getD_eq_getElem?_getD, List.getElem?_eq_getElem hio, Option.getD_some] at hy
  exact (behind_thr hwi).2 hy
 have hg0 : (outs2.map (ints 3))[i]? = some (ints 3 outs2[i]) := by simp [hio]
 have hg0' : ∀ h, (outs2.map (ints 3))[i]'h = ints 3 outs2[i] := fun h => by simp
 have hrl2 : (outs2.map (ints 3)).length = b.code.length := by simp [hlo2]
 generalize hfle : followI b.code[i] i = fl at *
 generalize hnow : behindL b i outs2[i] = now at *
 simp [e7, e8, e10, e11, hd3, hlen4, recs, hi']
 refine hfo.runk ?_
 have hrowv : ∃ rv, rv = outs2.map (ints 3) := ⟨_, rfl⟩
 obtain ⟨rv, hrv⟩ := hrowv
 rw [← hrv] at hg0 hg0' hrl2 ⊢
 simp [e7, e8, e10, e11, hd3, hlen4, recs, hi', hi, hg0, hg0', hrl2]
 refine hbh.runk ?_
 simp [e7, e8, e10, e11]
 refine PC_loopG (DrJ3 b r B outs outs2 i fl now) ?_ (k := fl.length) ⟨outs2, ag, 0, by simp, by rw [hrv], ho2, ?_, by simp [e7, e8, e10, e11]⟩
 rotate_left
 ·rcases hp with h | ⟨h1, h2, h3⟩
  ·exact .inl h
  ·exact .inr ⟨h1, h2, h3, h2, by simp⟩
 clear e7 e8 e10 e11 hp hg0 hg0' hrl2 hrv
 rintro m3 E L ⟨outs3, ag, k, hkm, rfl, ho3, hp, ⟨e7, e8, e10, e11, e12, e13, e14, -⟩⟩
 have hlo3 : outs3.length = b.code.length := ho3.len
 have hbf : big fl.length := by unfold big; omega
 have hwii := wrap_inc hi hbig
 by_cases hk : k < fl.length
 case neg =>
  have hke : k = fl.length := by omega
  subst hke
  rw [List.take_length] at hp
  simp [e7, e8, e10, e11, e12, e13, e14, ints, hwii]
  refine GoOn.same (m2 - 1) (by omega) ⟨outs3, ag, i + 1, by omega, rfl, ho3, ?_, by simp [e7, e8, e10]⟩
  rcases hp with h | ⟨h1, h2, h3, h4, h5⟩
  ·exact .inl h
  ·refine .inr ⟨h1, h2, fun m' hm' k' hk' hn' => ?_⟩
   by_cases e : m' = i
   ·subst e
    have := h5 _ (hfc k' hn')
    rwa [Int.toNat_natCast] at this
   ·exact h3 m' (by omega) k' hk' hn'
 have hcutk := cut1 (f := pin) hk
 have htk : fl.take (k + 1) = fl.take k ++ [fl[k]] := List.take_succ_eq_append_getElem hk
 obtain ⟨f0, f1⟩ := hfr _ (List.getElem_mem hk)
 have hfnk := hfn _ (List.getElem_mem hk)
 have hwk := wrap_inc hk hbf
 obtain ⟨fk, hfk⟩ : ∃ n : Nat, fl[k] = n := ⟨fl[k].toNat, by omega⟩
 rw [hfk] at hcutk f1 hfnk
 rw [Int.toNat_natCast] at hfnk
 have hfkn : fk < b.code.length := by omega
 have hfko : fk < outs3.length := by omega
 have hg1 : (outs3.map (ints 3))[fk]? = some (ints 3 outs3[fk]) := by simp [hfko]
 have hg1' : ∀ h, (outs3.map (ints 3))[fk]'h = ints 3 outs3[fk] := fun h => by simp
 have hrl3 : (outs3.map (ints 3)).length = b.code.length := by simp [hlo3]
 have hl0 := ho3.inr _ (List.getElem_mem hfko)
 have hl0l := hl0.len
 have hfin : InR r B (now.foldl putL outs3[fk]) := hl0.fold fun v hv => hbinr.rng v hv
 have hsub : ∀ v ∈ outs3[fk], v ∈ now.foldl putL outs3[fk] := fun v hv => foldPutL_mem.2 (.inl hv)
 have ho4 := ho3.upd hfko hfin hsub (fun y hy => (foldPutL_mem.1 hy).elim (ho3.sound fk hfko y) (fun h => hsnd y h fk hfnk))
 have hls4 := lenSum_set hfko (now.foldl putL outs3[fk])
 have hset0 : (outs3.map (ints 3)).set fk (ints 3 (([] : List Int).foldl putL outs3[fk])) = outs3.map (ints 3) := by
  refine List.ext_getElem (by simp) fun q h1 h2 => ?_
  rw [List.getElem_set]
  split
  ·rename_i e; subst e; simp
  ·rfl
 have hsetN : ∀ l, (outs3.map (ints 3)).set fk (ints 3 l) = (outs3.set fk l).map (ints 3) := fun l => by rw [List.map_set]
 have hset2 : ∀ a c, ((outs3.map (ints 3)).set fk a).set fk c = (outs3.map (ints 3)).set fk c := fun a c => by rw [List.set_set]
 have hgs : ∀ a, ((outs3.map (ints 3)).set fk a)[fk]? = some a := fun a => by rw [List.getElem?_set_self (by omega)]
 have hgs' : ∀ a h, ((outs3.map (ints 3)).set fk a)[fk]'h = a := fun a h => by simp
 have hrls : ∀ a, ((outs3.map (ints 3)).set fk a).length = b.code.length := fun a => by simp [hlo3]
 have hgd3 : outs3.getD fk [] = outs3[fk] := by simp [List.getD_eq_getElem?_getD, hfko]
 have hbn : big now.length := by unfold big; omega
 -- what the pass says behind this one
 have fin : ∀ {E' : PEnv} {ag' : Bool}, Has E' [(7, .fp (encBo b)), (8, .slc 0 0 b.code.length b.code.length), (10, pbool ag'), (11, pin i), (12, ints 3 fl), (13, ints 3 now), (14, pin (k + 1 : Nat))] → (ag' = (ag || decide (outs3[fk].length < (now.foldl putL outs3[fk]).length))) → GoOn (DrJ3 b r B outs outs2 i fl now) m3 E' [.row 24 ((outs3.map (ints 3)).set fk (ints 3 (now.foldl putL outs3[fk])))] := by
  intro E' ag' hE hag
  rw [hsetN]
  refine GoOn.same (m3 - 1) (by omega) ⟨outs3.set fk (now.foldl putL outs3[fk]), ag', k + 1, by omega, rfl, ho4, ?_, hE⟩
  by_cases hlt : outs3[fk].length < (now.foldl putL outs3[fk]).length
  ·left
   rw [hag]
   refine ⟨by simp [hlt], ?_⟩
   rcases hp with ⟨_, h2⟩ | ⟨_, h2, _⟩
   ·omega
   ·rw [← h2]; omega
  ·have hsame := hl0.same hfin hsub (by omega)
   have hset : outs3.set fk (now.foldl putL outs3[fk]) = outs3 := by rw [← hsame]; exact set_self hfko
   rw [hset, hag]
   rcases hp with ⟨h1, h2⟩ | ⟨h1, h2, h3, h4, h5⟩
   ·refine .inl ⟨by simp [h1], h2⟩
   ·refine .inr ⟨by simp [h1, hlt], h2, h3, h4, fun f hf => ?_⟩
    rw [htk] at hf
    rcases List.mem_append.1 hf with h6 | h6
    ·exact h5 f h6
    ·rw [List.mem_singleton.1 h6, hfk, Int.toNat_natCast]
     intro y hy
     rw [← h4] at hy
     have h7 := hall y hy
     rw [← h2, hgd3, hsame]
     unfold memS
     exact decide_eq_true (foldPutL_mem.2 (.inr h7))
 generalize outs3[fk] = l0 at *
 generalize hrv : outs3.map (ints 3) = rv at *
 simp [e7, e8, e10, e11, e12, e13, e14, ints, hk, hcutk, hfkn, f1, hrl3, hg1, hg1']
 refine PC_loopG (DrJ4 b outs3 ag i k fk fl now l0) ?_ (k := now.length) ⟨0, by simp, by rw [hrv, List.take_zero, hset0], by simp [e7, e8, e10, e11, e12, e13, e14, ints]⟩
 clear e7 e8 e10 e11 e12 e13 e14
 rintro m4 E L ⟨j, hjm, rfl, ⟨e7, e8, e10, e11, e12, e13, e14, e15, e16, -⟩⟩
 rw [hrv]
 by_cases hj : j < now.length
 case neg =>
  have hje : j = now.length := by omega
  subst hje
  rw [List.take_length]
  generalize now.foldl putL l0 = l1 at *
  cases ag with
  | true =>
   simp [e7, e8, e10, e11, e12, e13, e14, e15, e16, ints, hwk]
   refine fin (ag' := true) ?_ (by simp)
   simp [e7, e8, e11, e12, e13, ints]
  | false =>
   by_cases hlt : l0.length < l1.length
   ·have hlt' : (l0.length : Int) < l1.length := by omega
    simp [e7, e8, e10, e11, e12, e13, e14, e15, e16, ints, hwk, hk, hcutk, hfkn, f1, hrls, hgs, hgs', hlt, hlt']
    refine fin (ag' := true) ?_ (by simp [hlt])
    simp [e7, e8, e11, e12, e13, ints]
   ·have hlt' : ¬ (l0.length : Int) < l1.length := by omega
    simp [e7, e8, e10, e11, e12, e13, e14, e15, e16, ints, hwk, hk, hcutk, hfkn, f1, hrls, hgs, hgs', hlt, hlt']
    refine fin (ag' := false) ?_ (by simp [hlt])
    simp [e7, e8, e11, e12, e13, ints]
 have hcutj := cut1 (f := pin) hj
 have htj : now.take (j + 1) = now.take j ++ [now[j]] := List.take_succ_eq_append_getElem hj
 have hfp := foldPutL_len (l := now.take j) (b := l0)
 have hp9 := put_ok (l := (now.take j).foldl putL l0) (n := now[j]) (by simp at hfp; omega)
 rw [← fold_snoc, ← htj] at hp9
 have hwj := wrap_inc hj hbn
 simp [e7, e8, e10, e11, e12, e13, e14, e15, e16, ints, hk, hcutk, hfkn, f1, hrls, hgs, hgs', hj, hcutj]
 refine hp9.runj ?_
 have hset3 : ∀ a c, ((rv.set fk a).set fk c) = rv.set fk c := fun a c => by rw [List.set_set]
 simp [e7, e8, e10, e11, e12, e13, e14, e15, e16, ints, hfkn, f1, hrls, hset3, hrl3, hwj]
 exact GoOn.same (m4 - 1) (by omega) ⟨j + 1, by omega, by rw [hrv]; rfl, by simp [e7, e8, e10, e11, e12, e13, e14, e15, ints]⟩
theorem awakeV_ok : PPd (.fn 8 [] []) [] (pbool true) := by
 intro q L A ρ ζ H dv dargs gz hr hv ha
 obtain ⟨a', c', rfl, h1, h2⟩ := hv.fn_inv
 obtain rfl := ha.nil_left
 have e1 := h1.nil_left
 have e2 := h2.nil_left
 refine ⟨.bool true, H, ⟨1, fun m hm => ?_⟩, ρ, ζ, pbool true, L, .refl _ _, .refl _, hr, .v rfl, Only.refl _ _, fun _ => Only.refl _ _, Nat.le_refl _, rfl, rfl⟩
 obtain ⟨k, rfl⟩ : ∃ k, m = k + 1 := ⟨m - 1, by omega⟩
 obtain ⟨g, hg⟩ := hr
 have hs : GlRows H := by
  intro k z hk
  obtain ⟨h3, _⟩ := hg.frz _ _ (gz k z hk)
  obtain ⟨ro, thr, tip, h4⟩ := h3.at_
  obtain ⟨cs', t', ro', ex', thr', tip', h5, h6⟩ := h3.root
  obtain ⟨e3, e4⟩ := glZ_self hk
  rw [e3] at h4 h5
  rw [h4] at h5
  cases h5
  rw [e4] at h4
  exact ⟨ro, thr, tip, h4, h6⟩
 simp [den, XA, xAwake, e1, e2, hs]
def ElJ (t : TypeId) (ls : List (List Int)) (m : Nat) (E : PEnv) (L : List LObj) : Prop := ∃ i : Nat, i + m = ls.length ∧ L = [] ∧ Has E [(1, lists2 t ls), (2, .fn 13 [] []), (15, lists2 t ls), (16, pin ls.length), (17, pin i)]
set_option maxRecDepth 8000 in
theorem eqLists_ok {t : TypeId} {ls : List (List Int)} (hb : big ls.length) (hl : ∀ l ∈ ls, big l.length) : PPd (.fn 59 [] []) [lists2 t ls, lists2 t ls, .fn 13 [] []] (pbool true) := by
 refine PP_code rfl rfl rfl (by simp) (by simp [noId]) (by simp) (PW_ok _ ?_)
 simp [ir59, lists2]
 refine PC_loopG (ElJ t ls) ?_ (k := ls.length) ⟨0, by simp, rfl, by simp [lists2]⟩
 rintro m E L ⟨i, him, rfl, ⟨e1, e2, e15, e16, e17, -⟩⟩
 by_cases hi : i < ls.length
 ·have hcut := cutL (t := 3) hi
  simp [e1, e2, e15, e16, e17, hi, lists2, hcut]
  refine (eqInts_ok (t := 3) (t' := 3) (a := ls[i]) (b := ls[i]) (hl _ (List.getElem_mem hi))).runk ?_
  simp [e1, e2, e15, e16, e17, wrap_inc hi hb]
  exact GoOn.same (m - 1) (by omega) ⟨i + 1, by omega, rfl, by simp [e1, e2, e15, e16, lists2]⟩
 ·simp [e1, e2, e15, e16, e17, hi]
  exact .same rfl
theorem lists_ok {t : TypeId} {ls : List (List Int)} (hb : big ls.length) (hl : ∀ l ∈ ls, big l.length) : PPd (.fn 28 [] []) [lists2 t ls, lists2 t ls] (pbool true) := by
 refine PP_code rfl rfl rfl (by simp) (by simp) (by simp) (PW_ok _ ?_)
 simp [ir28]
 refine (eqLists_ok hb hl).runk ?_
 simp
 exact .same rfl
theorem out_len {d : Df} {B : Nat} : (d.out B).length = d.n := by simp [Df.out]
theorem out_each {d : Df} {B : Nat} : ∀ l ∈ d.out B, l.length ≤ B := by
 intro l hl
 unfold Df.out at hl
 obtain ⟨k, _, rfl⟩ := List.mem_map.1 hl
 exact Nat.le_trans (List.length_filter_le _ _) (by simp)
theorem liveS_big {c : FCode} {body : Int} (hc : OkC c) : big (liveS c body).length ∧ ∀ l ∈ liveS c body, big l.length := by
 unfold liveS
 split
 ·rename_i he
  split
  ·rename_i b hb
   obtain ⟨hk, rfl⟩ := List.getElem?_eq_some_iff.1 hb
   have h0 : checkS c = 0 := by
    unfold errS at he
    by_cases h : checkS c = 0
    ·exact h
    ·rw [if_pos h] at he; exact absurd he h
   have hob := okB_of h0 hk
   have h1 := hob.code
   have h2 := hob.regs
   have h3 := hob.regs0
   refine ⟨by simp only [List.length_map, out_len, liveD]; unfold big; omega, fun l hl => ?_⟩
   obtain ⟨x, hx, rfl⟩ := List.mem_map.1 hl
   have := out_each x hx
   simp only [natI, List.length_map]
   unfold big; omega
  ·exact ⟨by simp [big], fun l hl => by simp at hl⟩
 ·exact ⟨by simp [big], fun l hl => by simp at hl⟩
theorem defsS_big {c : FCode} {body : Int} (hc : OkC c) : big (defsS c body).length ∧ ∀ l ∈ defsS c body, big l.length := by
 unfold defsS
 split
 ·rename_i he
  split
  ·rename_i b hb
   obtain ⟨hk, rfl⟩ := List.getElem?_eq_some_iff.1 hb
   have h0 : checkS c = 0 := by
    unfold errS at he
    by_cases h : checkS c = 0
    ·exact h
    ·rw [if_pos h] at he; exact absurd he h
   have hob := okB_of h0 hk
   have h1 := hob.code
   have h2 := hob.regs
   have h3 := hob.regs0
   refine ⟨by simp only [List.length_map, out_len, defsD]; unfold big; omega, fun l hl => ?_⟩
   obtain ⟨x, hx, rfl⟩ := List.mem_map.1 hl
   have := out_each x hx
   simp only [shiftI, List.length_map]
   unfold big; omega
  ·exact ⟨by simp [big], fun l hl => by simp at hl⟩
 ·exact ⟨by simp [big], fun l hl => by simp at hl⟩
theorem small_few {most : Int} : ∀ {l : List FBody} {n : Int}, 0 ≤ n → fewB most n l = true → ∀ b ∈ l, (b.code.length : Int) ≤ most ∧ ∀ i ∈ b.code, i.list.length ≤ 20 ∧ i.text.length ≤ 60 := by
 intro l
 induction l with
 | nil => intro n _ _ b hb; simp at hb
 | cons a l ih =>
  intro n hn h b hb
  rw [fewB_cons] at h
  simp only [Bool.and_eq_true, decide_eq_true_eq] at h
  obtain ⟨⟨⟨⟨h1, _⟩, _⟩, h2⟩, h3⟩ := h
  rcases List.mem_cons.1 hb with rfl | hb
  ·refine ⟨by omega, fun i hi => ?_⟩
   unfold fewI at h2
   have := List.all_eq_true.1 h2 i hi
   simpa using this
  ·exact ih (by omega) h3 b hb
theorem small_okC {c : FCode} {most : Int} (hm : most ≤ 1000000) (h : smallB c most = true) : OkC c ∧ ∀ b ∈ c.bodies, ∀ i ∈ b.code, i.list.length ≤ 1000 := by
 unfold smallB at h
 simp only [Bool.and_eq_true, decide_eq_true_eq] at h
 obtain ⟨⟨h1, _⟩, h2⟩ := h
 have hf := small_few (by omega) h2
 refine ⟨⟨by omega, fun b hb => by have := (hf b hb).1; omega, fun b hb i hi => by have := ((hf b hb).2 i hi).1; omega, fun b hb i hi => by have := ((hf b hb).2 i hi).2; omega⟩, fun b hb i hi => by have := ((hf b hb).2 i hi).1; omega⟩
set_option maxRecDepth 8000 in
theorem flowValues_ok {c : FCode} {body : Int} (hh : Holds c) : PPd (.fn 5 [] []) [.agg (encC c), pin body] (pbool true) := by
 refine PP_code rfl rfl rfl (by simp) (by simp [noId]) (by simp) (PW_ok _ ?_)
 have hcc : cut (encC c) 0 2 = encC c := rfl
 simp [ir5, hcc]
 refine (small_ok (most := 70) hh (by omega) (by omega)).runk ?_
 by_cases hs : smallB c 70 = true
 case neg =>
  have hs' : smallB c 70 = false := by simpa using hs
  simp [hs']
  refine awakeV_ok.runk ?_
  simp
  exact .same rfl
 obtain ⟨hc, h5⟩ := small_okC (by omega) hs
 obtain ⟨l1, l2⟩ := liveS_big (body := body) hc
 obtain ⟨d1, d2⟩ := defsS_big (body := body) hc
 simp [hs, hcc]
 refine (live_ok hc).runk ?_
 simp [hcc]
 refine (liveR_ok hc h5).runk ?_
 simp [hcc]
 refine (defs_ok hc).runk ?_
 simp [hcc]
 refine (defsR_ok hc).runk ?_
 simp
 refine (lists_ok l1 l2).runk ?_
 simp
 refine (lists_ok d1 d2).runk ?_
 simp
 refine awakeV_ok.runk ?_
 simp
 exact .same rfl
end Go.Den
/- Cls, part A: memory of the machine that is only read, as rows of an abstract heap. -/
namespace Go.Den
structure Win where
 b : Nat
 o : Nat
 t : TypeId
 ps : List PV
 xs : List Value
inductive RdV (ws : List Win) : PV → Value → Prop
 | v {x : Value} : atom x = true → RdV ws (.v x) x
 | fz0 {t : TypeId} {a : Option Addr} : RdV ws (.fz t 0 []) (.slice a 0 0)
 | fz {w : Win} {n cap : Nat} : w ∈ ws → n ≤ cap → RdV ws (.fz w.t n w.ps) (.slice (some ⟨w.b, w.o, none⟩) n cap)
 | agg {a : List PV} {a' : Array Value} : a.length = a'.size → (∀ i (h : i < a.length) (h' : i < a'.size), RdV ws a[i] a'[i]) → RdV ws (.agg a) (.agg a')
abbrev RdL (ws : List Win) := F2 (RdV ws)
theorem RdV.mono {ws ws' : List Win} (h : ∀ w ∈ ws, w ∈ ws') {p : PV} {x : Value} (hr : RdV ws p x) : RdV ws' p x := by
 induction hr with
 | v h => exact .v h
 | fz0 => exact .fz0
 | fz hw hn => exact .fz (h _ hw) hn
 | agg h1 _ ih => exact .agg h1 ih
theorem RdL.mono {ws ws' : List Win} (h : ∀ w ∈ ws, w ∈ ws') {p : List PV} {x : List Value} (hr : RdL ws p x) : RdL ws' p x := F2.mono (fun _ _ => RdV.mono h) hr
structure WinOk (P : Program) (hp : Array Obj) (ws : List Win) (w : Win) : Prop where
 at_ : ∃ ccs ct fr, hp[w.b]? = some (.cells ccs ct fr) ∧ w.o + w.xs.length ≤ ccs.size ∧ (ccs.toList.drop w.o).take w.xs.length = w.xs
 vals : RdL ws w.ps w.xs
 sz : ∃ n, 0 < n ∧ szOf P w.t = some n
 apart : glZ w.b = none
theorem WinOk.mono {P : Program} {hp : Array Obj} {ws ws' : List Win} (h : ∀ w ∈ ws, w ∈ ws') {w : Win} (hw : WinOk P hp ws w) : WinOk P hp ws' w := ⟨hw.at_, hw.vals.mono h, hw.sz, hw.apart⟩
def GlOk (hp : Array Obj) (N : Nat) : Prop := ∀ k z, glZ k = some z → k < N ∧ z.r = k ∧ z.ex = true ∧ z.cs.all atom = true ∧ ∃ ccs ct fr, hp[k]? = some (.cells ccs ct fr) ∧ z.cs.length ≤ ccs.size ∧ ccs.toList.take z.cs.length = z.cs
def WinAt (ws : List Win) (a : Addr) (t : TypeId) (ps : List PV) (i : Nat) : Prop := a.spot = none ∧ ∃ w, ws[i]? = some w ∧ w.b = a.block ∧ w.o = a.off ∧ w.t = t ∧ w.ps = ps
open Classical in
noncomputable def winV (N : Nat) (ws : List Win) (t : TypeId) (ps : List PV) : Value → Value
 | .slice (some a) n cap => if h : ∃ i, WinAt ws a t ps i then .slice (some ⟨N + h.choose, 0, none⟩) n cap else .slice (some ⟨0, 0, some 0⟩) 0 0
 | x => x
mutual
noncomputable def absV (N : Nat) (ws : List Win) : PV → Value → Value
 | .fz t _ ps, x => winV N ws t ps x
 | .agg ps, x => .agg (absL N ws ps (match x with | .agg xs => xs.toList | _ => [])).toArray
 | .v _, x => x
 | .ptr _ _, x => x
 | .slc _ _ _ _, x => x
 | .mapr _, x => x
 | .fn _ _ _, x => x
 | .ifc _ _, x => x
 | .tup _, x => x
 | .fp _, x => x
 | .ow _ _ _ _, x => x
 | .bx _ _, x => x
 | .yl _, x => x
noncomputable def absL (N : Nat) (ws : List Win) : List PV → List Value → List Value
 | [], _ => []
 | p :: ps, xs => absV N ws p (xs.headD (.nilFunc)) :: absL N ws ps xs.tail
end
variable {N : Nat} {ws : List Win}
theorem absL_length : ∀ {ps : List PV} {xs : List Value}, (absL N ws ps xs).length = ps.length
 | [], _ => by simp [absL]
 | _ :: ps, xs => by simp [absL, absL_length (ps := ps)]
theorem absL_get : ∀ {ps : List PV} {xs : List Value} (i : Nat) (h : i < ps.length) (h' : i < xs.length), (absL N ws ps xs)[i]'(by rw [absL_length]; exact h) = absV N ws ps[i] xs[i]
 | [], _, i, h, _ => absurd h (by simp)
 | p :: ps, [], i, _, h' => absurd h' (by simp)
 | p :: ps, x :: xs, 0, h, h' => by simp [absL]
 | p :: ps, x :: xs, i + 1, h, h' => by
  simp only [absL, List.tail_cons, List.getElem_cons_succ]
  exact absL_get i (by simpa using h) (by simpa using h')
def treeTo (f : Nat → Option AObj) : Nat → T AObj
 | 0 => .leaf
 | n + 1 => match f n with
  | some o => (treeTo f n).set n o
  | none => treeTo f n
theorem treeTo_get (f : Nat → Option AObj) : ∀ (n j : Nat), (treeTo f n).get j = if j < n then f j else none
 | 0, j => by simp [treeTo, T.get]
 | n + 1, j => by
  unfold treeTo
  cases hf : f n with
  | some o =>
   simp only [T.get_set]
   by_cases e : j = n
   ·subst e; simp [hf]
   ·rw [if_neg e, treeTo_get f n j]
    by_cases h : j < n
    ·rw [if_pos h, if_pos (by omega)]
    ·rw [if_neg h, if_neg (by omega)]
  | none =>
   simp only
   rw [treeTo_get f n j]
   by_cases e : j = n
   ·subst e; simp [hf]
   ·by_cases h : j < n
    ·rw [if_pos h, if_pos (by omega)]
    ·rw [if_neg h, if_neg (by omega)]
def rootW (ws : List Win) (b : Nat) : Nat := ws.findIdx (fun w => w.b == b)
theorem rootW_le {i : Nat} {w : Win} (h : ws[i]? = some w) : rootW ws w.b ≤ i := by
 unfold rootW
 rcases Nat.lt_or_ge i (ws.findIdx fun w' => w'.b == w.b) with hlt | hge
 ·obtain ⟨hi, rfl⟩ := List.getElem?_eq_some_iff.1 h
  have := List.not_of_lt_findIdx hlt
  simp at this
 ·exact hge
theorem rootW_at {i : Nat} {w : Win} (h : ws[i]? = some w) : ∃ w0, ws[rootW ws w.b]? = some w0 ∧ w0.b = w.b := by
 have h1 := rootW_le h
 have hi := (List.getElem?_eq_some_iff.1 h).1
 have hlt : rootW ws w.b < ws.length := by omega
 refine ⟨ws[rootW ws w.b], List.getElem?_eq_getElem hlt, ?_⟩
 have := List.findIdx_getElem (p := fun w' : Win => w'.b == w.b) (xs := ws) (w := hlt)
 exact eq_of_beq (show (ws[rootW ws w.b].b == w.b) = true from this)
noncomputable def rowsW (N : Nat) (ws : List Win) (k : Nat) : Option AObj :=
 if k < N then (glZ k).map fun z => .cells z.cs z.t true z.ex z.r z.r z.r
 else (ws[k - N]?).map fun w => .cells (absL N ws w.ps w.xs) w.t true false (N + rootW ws w.b) (N + rootW ws w.b) (N + ws.length)
noncomputable def heapW (N : Nat) (ws : List Win) : AH := ⟨treeTo (rowsW N ws) (N + ws.length), N + ws.length, N + ws.length⟩
def blkSize (hp : Array Obj) (b : Nat) : Nat := match hp[b]? with | some (.cells ccs _ _) => ccs.size | _ => 0
def sigW (P : Program) (hp : Array Obj) (N : Nat) (ws : List Win) : Ren := fun k =>
 if k < N then (glZ k).map fun _ => ⟨k, 0, blkSize hp k, 0⟩ else (ws[k - N]?).map fun w => ⟨w.b, w.o, blkSize hp w.b, (szOf P w.t).getD 0⟩
noncomputable def zetW (N : Nat) (ws : List Win) : Zeta := fun k =>
 if k < N then glZ k else (ws[k - N]?).map fun w => ⟨w.t, false, absL N ws w.ps w.xs, N + rootW ws w.b⟩
theorem heapW_get {k : Nat} : (heapW N ws).get k = rowsW N ws k := by
 show (treeTo (rowsW N ws) (N + ws.length)).get k = _
 rw [treeTo_get]
 by_cases h : k < N + ws.length
 ·rw [if_pos h]
 ·rw [if_neg h]
  unfold rowsW
  rw [if_neg (by omega), List.getElem?_eq_none (by omega)]
  rfl
variable {P : Program} {hp : Array Obj} {gl : Nat → Bool}
theorem atom_one {x : Value} (h : atom x = true) : one x = true := by cases x <;> simp_all [atom, one]
theorem VR.atom (σ : Ren) {x : Value} (h : Den.atom x = true) : VR σ x x := by
 cases x <;> simp [Den.atom] at h
 ·exact .bool _
 ·exact .int _ _
 ·exact .float _ _
 ·exact .string _
theorem winAt_of {w : Win} (hw : w ∈ ws) : ∃ i, WinAt ws ⟨w.b, w.o, none⟩ w.t w.ps i := by
 obtain ⟨i, hi, rfl⟩ := List.getElem_of_mem hw
 exact ⟨i, rfl, ws[i], List.getElem?_eq_getElem hi, rfl, rfl, rfl, rfl⟩
theorem VR.absV {p : PV} {x : Value} (h : RdV ws p x) : VR (sigW P hp N ws) (Den.absV N ws p x) x := by
 induction h with
 | v h => exact .atom _ h
 | @fz0 t a =>
  simp only [Den.absV]
  cases a with
  | none => exact .sliceNil
  | some a =>
   simp only [winV]
   split
   ·rename_i h
    obtain ⟨hs, w, h1, h2, h3, _⟩ := h.choose_spec
    obtain ⟨ab, ao, as⟩ := a
    simp only at hs h2 h3
    subst hs; subst h2; subst h3
    refine VR.slice (p := ⟨w.b, w.o, blkSize hp w.b, (szOf P w.t).getD 0⟩) ?_ (.inl rfl) (.inl rfl) (Nat.le_refl _)
    unfold sigW
    rw [if_neg (by omega), Nat.add_sub_cancel_left, h1]; rfl
   ·exact .sliceE rfl
 | @fz w n cap hw hn =>
  simp only [Den.absV, winV]
  rw [dif_pos (winAt_of hw)]
  obtain ⟨_, w', h1, h2, h3, _⟩ := (winAt_of hw).choose_spec
  simp only at h2 h3
  revert h1
  generalize (winAt_of hw).choose = j
  intro h1
  rw [← h2, ← h3]
  refine VR.slice (p := ⟨w'.b, w'.o, blkSize hp w'.b, (szOf P w'.t).getD 0⟩) ?_ (.inl rfl) (.inl rfl) hn
  unfold sigW
  rw [if_neg (by omega), Nat.add_sub_cancel_left, h1]; rfl
 | @agg a a' h1 _ ih =>
  simp only [Den.absV]
  refine .agg (by simp [absL_length, h1]) (fun i hi hi' => ?_)
  simp only [List.getElem_toArray]
  rw [absL_get i (by omega) (by simpa using hi')]
  simpa using ih i (by omega) hi'
theorem VL.absL {ps : List PV} {xs : List Value} (h : RdL ws ps xs) : VL (sigW P hp N ws) (Den.absL N ws ps xs) xs :=
 F2.of_idx (by rw [absL_length, h.length]) fun i h1 h2 => by
  rw [absL_get i (by rw [absL_length] at h1; exact h1) h2]
  exact .absV (F2.idx h i _ _)
theorem VP.absV (hws : ∀ w ∈ ws, WinOk P hp ws w) : ∀ (m : Nat) {p : PV} {x : Value}, SizeOf.sizeOf p < m → RdV ws p x → VP (fun _ => none) (zetW N ws) p (Den.absV N ws p x)
 | 0, _, _, hm, _ => absurd hm (Nat.not_lt_zero _)
 | m + 1, p, x, hm, h => by
  have key : ∀ {w' : Win} {j : Nat} {n cap : Nat}, ws[j]? = some w' → n ≤ cap → (∀ q ∈ w'.ps, SizeOf.sizeOf q < m) → VP (fun _ => none) (zetW N ws) (.fz w'.t n w'.ps) (.slice (some ⟨N + j, 0, none⟩) n cap) := by
   intro w' j n cap hj hn hsz
   have hw' := hws _ (List.mem_of_getElem? hj)
   have hl := hw'.vals.length
   refine .fz (z := ⟨w'.t, false, Den.absL N ws w'.ps w'.xs, N + rootW ws w'.b⟩) ?_ (Nat.zero_le _) (.inr rfl) rfl (by simp [absL_length]) (fun i h1 h2 => ?_) hn
   ·unfold zetW
    rw [if_neg (by omega), Nat.add_sub_cancel_left, hj]; rfl
   ·simp only [List.drop_zero, List.getElem_take]
    rw [absL_get i h1 (by omega)]
    exact VP.absV hws m (hsz _ (List.getElem_mem h1)) (F2.idx hw'.vals i _ _)
  cases h with
  | v h => exact .v (atom_one h)
  | @fz0 t a =>
   simp only [Den.absV]
   cases a with
   | none => exact .fz0 fun _ h => by cases h
   | some a =>
    simp only [winV]
    split
    ·rename_i h
     obtain ⟨hs, w, h1, h2, h3, h4, h5⟩ := h.choose_spec
     have := key (n := 0) (cap := 0) h1 (Nat.le_refl _) (by rw [h5]; simp)
     rw [h4, h5] at this
     exact this
    ·exact .fz0 fun _ h => by cases h; rfl
  | @fz w n cap hw hn =>
   simp only [Den.absV, winV]
   rw [dif_pos (winAt_of hw)]
   obtain ⟨_, w', h1, h2, h3, h4, h5⟩ := (winAt_of hw).choose_spec
   have := key h1 hn (fun q hq => by
    rw [h5] at hq
    have := List.sizeOf_lt_of_mem hq
    simp only [PV.fz.sizeOf_spec] at hm
    omega)
   rw [h4, h5] at this
   exact this
  | @agg a a' h1 h2 =>
   simp only [Den.absV]
   refine .agg (by simp [absL_length]) (fun i hi hi' => ?_)
   simp only [List.getElem_toArray]
   rw [absL_get i hi (by simp; omega)]
   have := List.sizeOf_lt_of_mem (List.getElem_mem hi)
   simp only [PV.agg.sizeOf_spec] at hm
   have := VP.absV hws m (by omega) (h2 i hi (by omega))
   simpa using this
theorem VPL.absL (hws : ∀ w ∈ ws, WinOk P hp ws w) {ps : List PV} {xs : List Value} (h : RdL ws ps xs) : VPL (fun _ => none) (zetW N ws) ps (Den.absL N ws ps xs) :=
 F2.of_idx absL_length.symm fun i h1 h2 => by
  rw [absL_get i h1 (by have := h.length; omega)]
  exact VP.absV hws _ (Nat.lt_succ_self _) (F2.idx h i h1 (by have := h.length; omega))
end Go.Den
/- Cls, part B: the abstract heap is that of the machine; a call. -/
namespace Go.Den
variable {N : Nat} {ws : List Win} {P : Program} {hp : Array Obj} {gl : Nat → Bool}
theorem rowsW_low {k : Nat} {z : Zr} (hk : k < N) (hz : glZ k = some z) : rowsW N ws k = some (.cells z.cs z.t true z.ex z.r z.r z.r) := by
 unfold rowsW; rw [if_pos hk, hz]; rfl
theorem rowsW_high {i : Nat} {w : Win} (hw : ws[i]? = some w) : rowsW N ws (N + i) = some (.cells (absL N ws w.ps w.xs) w.t true false (N + rootW ws w.b) (N + rootW ws w.b) (N + ws.length)) := by
 unfold rowsW; rw [if_neg (by omega), Nat.add_sub_cancel_left, hw]; rfl
theorem rowsW_cases {k : Nat} {o : AObj} (h : rowsW N ws k = some o) : (k < N ∧ ∃ z, glZ k = some z ∧ o = .cells z.cs z.t true z.ex z.r z.r z.r) ∨
  ∃ i w, k = N + i ∧ ws[i]? = some w ∧ o = .cells (absL N ws w.ps w.xs) w.t true false (N + rootW ws w.b) (N + rootW ws w.b) (N + ws.length) := by
 unfold rowsW at h
 split at h
 ·rename_i hk
  obtain ⟨z, h1, h2⟩ := Option.map_eq_some_iff.1 h
  exact .inl ⟨hk, z, h1, h2.symm⟩
 ·rename_i hk
  obtain ⟨w, h1, h2⟩ := Option.map_eq_some_iff.1 h
  exact .inr ⟨k - N, w, by omega, h1, h2.symm⟩
theorem sigW_cases {k : Nat} {p : Place} (h : sigW P hp N ws k = some p) : (k < N ∧ ∃ z, glZ k = some z ∧ p = ⟨k, 0, blkSize hp k, 0⟩) ∨
  ∃ i w, k = N + i ∧ ws[i]? = some w ∧ p = ⟨w.b, w.o, blkSize hp w.b, (szOf P w.t).getD 0⟩ := by
 unfold sigW at h
 split at h
 ·rename_i hk
  obtain ⟨z, h1, h2⟩ := Option.map_eq_some_iff.1 h
  exact .inl ⟨hk, z, h1, h2.symm⟩
 ·rename_i hk
  obtain ⟨w, h1, h2⟩ := Option.map_eq_some_iff.1 h
  exact .inr ⟨k - N, w, by omega, h1, h2.symm⟩
theorem lt_ix {i : Nat} {w : Win} (h : ws[i]? = some w) : i < ws.length := (List.getElem?_eq_some_iff.1 h).1
theorem blkSize_at {b : Nat} {ccs : Array Value} {ct : TypeId} {fr : Nat × Nat} (h : hp[b]? = some (.cells ccs ct fr)) : blkSize hp b = ccs.size := by unfold blkSize; rw [h]
theorem VL.atoms {σ : Ren} {xs : List Value} (h : xs.all atom = true) : VL σ xs xs :=
 F2.of_idx rfl fun i h1 h2 => .atom σ (List.all_eq_true.1 h _ (List.getElem_mem h1))
theorem HR.heapW (hg : GlOk hp N) (hws : ∀ w ∈ ws, WinOk P hp ws w) (hs : ws.Pairwise fun a b => a.o + a.xs.length ≤ b.o + b.xs.length) : HR gl P (sigW P hp N ws) (heapW N ws) hp := by
 have hmem : ∀ {i w}, ws[i]? = some w → WinOk P hp ws w := fun h => hws _ (List.mem_of_getElem? h)
 refine ⟨fun k o hk => ?_, fun k cs t ro ex root thr tip hk => ?_, fun k p hk => ?_, fun k p hk => ?_, fun k p cs t ro ex root thr tip hk hgk => ?_, fun k l pk pl hk hl hlt hlk hll hb => ?_⟩
 ·rw [heapW_get] at hk
  rcases rowsW_cases hk with ⟨h1, _⟩ | ⟨i, w, rfl, h1, _⟩
  ·show k < N + ws.length; omega
  ·have := lt_ix h1; show N + i < N + ws.length; omega
 ·rw [heapW_get] at hk
  rcases rowsW_cases hk with ⟨h1, z, h2, h3⟩ | ⟨i, w, rfl, h1, h3⟩
  ·cases h3
   obtain ⟨e1, e2, e3, _, _⟩ := hg k z h2
   rw [e2]
   refine ⟨Nat.le_refl _, fun _ => rfl, z.cs, z.t, true, z.ex, k, k, ?_, Nat.le_refl _, fun _ => rfl, ?_⟩
   ·rw [heapW_get, rowsW_low h1 h2, e2]
   ·show k ≤ N + ws.length; omega
  ·cases h3
   obtain ⟨w0, h4, h5⟩ := rootW_at h1
   have h6 := rootW_le h1
   refine ⟨by omega, fun h => by (cases h), absL N ws w0.ps w0.xs, w0.t, true, false, N + rootW ws w.b, N + ws.length, ?_, ?_, fun h => by (cases h), Nat.le_refl _⟩
   ·rw [heapW_get, rowsW_high h4, h5]
   ·have := lt_ix h1; omega
 ·rcases sigW_cases hk with ⟨h1, z, h2, rfl⟩ | ⟨i, w, rfl, h1, rfl⟩
  ·obtain ⟨e1, e2, e3, _, ccs, ct, fr, e4, _⟩ := hg k z h2
   exact ⟨by show k < N + ws.length; omega, lt_of_some e4⟩
  ·obtain ⟨ccs, ct, fr, e4, _⟩ := (hmem h1).at_
   exact ⟨by have := lt_ix h1; show N + i < N + ws.length; omega, lt_of_some e4⟩
 ·unfold ObjOk
  rw [heapW_get]
  rcases sigW_cases hk with ⟨h1, z, h2, rfl⟩ | ⟨i, w, rfl, h1, rfl⟩
  ·rw [rowsW_low h1 h2]
   obtain ⟨e1, e2, e3, e6, ccs, ct, fr, e4, e5, e7⟩ := hg k z h2
   refine fun _ => ⟨⟨ccs, ct, fr.1, fr.2, e4, blkSize_at e4, by simpa using e5, ?_, fun h => by cases h⟩, fun _ => rfl, fun h => by rw [e3] at h; cases h⟩
   simp only [List.drop_zero, e7]
   exact VL.atoms e6
  ·rw [rowsW_high h1]
   have hw := hmem h1
   obtain ⟨ccs, ct, fr, e4, e5, e6⟩ := hw.at_
   obtain ⟨n, n1, n2⟩ := hw.sz
   have hl := hw.vals.length
   refine fun _ => ⟨⟨ccs, ct, fr.1, fr.2, e4, blkSize_at e4, by simp only [absL_length]; omega, ?_, fun h => by cases h⟩, (fun h => by cases h), fun _ => by simp [n2, n1]⟩
   simp only [absL_length, hl, e6]
   exact VL.absL hw.vals
 ·rw [heapW_get] at hgk
  rcases sigW_cases hk with ⟨h1, z, h2, rfl⟩ | ⟨i, w, rfl, h1, rfl⟩
  ·rw [rowsW_low h1 h2] at hgk
   cases hgk
   obtain ⟨e1, e2, e3, _⟩ := hg k z h2
   exact ⟨fun _ => rfl, fun h => by rw [e3] at h; cases h⟩
  ·rw [rowsW_high h1] at hgk
   cases hgk
   obtain ⟨n, n1, n2⟩ := (hmem h1).sz
   exact ⟨fun h => (by cases h), fun _ => (by simp [n2, n1])⟩
 ·rcases sigW_cases hk with ⟨h1, z, h2, rfl⟩ | ⟨i, w, rfl, h1, rfl⟩ <;> rcases sigW_cases hl with ⟨g1, y, g2, rfl⟩ | ⟨j, v, rfl, g1, rfl⟩
  ·simp only at hb; omega
  ·simp only at hb
   have := (hmem g1).apart
   rw [← hb, h2] at this; cases this
  ·omega
  ·simp only at hb
   have hij : i < j := by omega
   refine ⟨⟨N + rootW ws w.b, ?_, ?_⟩, ?_⟩
   ·unfold AH.famOf; rw [heapW_get, rowsW_high h1]
   ·unfold AH.famOf; rw [heapW_get, rowsW_high g1, hb]
   ·unfold AH.lenOf
    rw [heapW_get, heapW_get, rowsW_high h1, rowsW_high g1]
    simp only [absL_length]
    have h3 := (hmem h1).vals.length
    have h4 := (hmem g1).vals.length
    obtain ⟨a1, rfl⟩ := List.getElem?_eq_some_iff.1 h1
    obtain ⟨a2, rfl⟩ := List.getElem?_eq_some_iff.1 g1
    have := List.pairwise_iff_getElem.1 hs i j a1 a2 hij
    omega
theorem Prot.heapW (b : Nat) : Prot (sigW P hp N ws) (heapW N ws) b := by
 intro k p hk _
 refine .inr ?_
 unfold AH.roOf
 rw [heapW_get]
 rcases sigW_cases hk with ⟨h1, z, h2, rfl⟩ | ⟨i, w, rfl, h1, rfl⟩
 ·rw [rowsW_low h1 h2]
 ·rw [rowsW_high h1]
theorem GlR.heapW (hg : GlOk hp N) (hgl : ∀ g, gl g = true → (glZ g).isSome = true) : GlR gl (sigW P hp N ws) := by
 intro g h
 obtain ⟨z, hz⟩ := Option.isSome_iff_exists.1 (hgl g h)
 obtain ⟨h1, _⟩ := hg g z hz
 exact ⟨⟨g, 0, blkSize hp g, 0⟩, by unfold sigW; rw [if_pos h1, hz]; rfl, rfl, rfl⟩
theorem GZ.heapW (hg : GlOk hp N) : GZ (zetW N ws) := by
 intro k z hz
 obtain ⟨h1, _⟩ := hg k z hz
 unfold zetW; rw [if_pos h1, hz]
theorem RH.heapW (hg : GlOk hp N) : RH (N + ws.length ≤ ·) (fun _ => none) (zetW N ws) [] (heapW N ws) := by
 refine ⟨fun _ _ => 0, fun i o hi => by simp at hi, fun r => by simp [sumN], fun k z hz => ⟨?_, by simp [sumN]⟩, fun r _ => by simp [sumN], fun j hj => hj, fun i k hk => by (cases hk), fun j o hj => ?_⟩
 ·unfold zetW at hz
  split at hz
  ·rename_i hk
   obtain ⟨h1, h2, _⟩ := hg k z hz
   refine ⟨by show k < N + ws.length; omega, by omega, ⟨true, z.r, z.r, by rw [heapW_get, rowsW_low hk hz]⟩, ?_⟩
   rw [h2]
   exact ⟨z.cs, z.t, true, z.ex, k, k, by rw [heapW_get, rowsW_low hk hz, h2], Nat.le_refl _⟩
  ·rename_i hk
   obtain ⟨w, h1, h2⟩ := Option.map_eq_some_iff.1 hz
   subst h2
   obtain ⟨i, rfl⟩ : ∃ i, k = N + i := ⟨k - N, by omega⟩
   rw [Nat.add_sub_cancel_left] at h1
   obtain ⟨w0, h4, h5⟩ := rootW_at h1
   have h6 := rootW_le h1
   refine ⟨by have := lt_ix h1; show N + i < N + ws.length; omega, by simp only; omega, ⟨true, _, _, by rw [heapW_get, rowsW_high h1]⟩, absL N ws w0.ps w0.xs, w0.t, true, false, N + rootW ws w.b, N + ws.length, ?_, by omega⟩
   simp only
   rw [heapW_get, rowsW_high h4, h5]
 ·rw [heapW_get] at hj
  rcases rowsW_cases hj with ⟨h1, _⟩ | ⟨i, w, rfl, h1, _⟩
  ·show j < N + ws.length; omega
  ·have := lt_ix h1; show N + i < N + ws.length; omega
theorem calls_of_inv {inv : Inv} (hinv : InvOk gl P inv) {f : FuncId} {Fn : Func} (hf : P.funcs[f]? = some Fn) (hn : (Fn.name == "runtime.NumGoroutine") = false) (hb : Fn.body.isNone = false) {dargs : List Value} {H H' : AH} {out : Out} {σ : Ren} {W : World} {args : Array Value}
  (h : inv (.func (.func f) #[] #[]) dargs H = some (out, H')) (hr : HR gl P σ H W.heap) (hgl : GlR gl σ) (ha : VL σ dargs args.toList) : Calls P f args W (EndP gl P σ H W out H') := by
 have hv : VR σ (.func (.func f) #[] #[]) (.func (.func f) #[] #[]) := VR.func_iff.2 ⟨_, _, _, rfl, .func f, .nil, .nil⟩
 have key := hinv.func f #[] #[] dargs H out H' σ W (.func f) #[] #[] args h hr hgl hv ha
 unfold CallOk at key
 rw [run_ofValue] at key
 simp only [invoke, Array.empty_append, Array.append_empty] at key
 rw [run_enter hf hn hb] at key
 rcases key with ⟨f', as, h1, h2⟩ | ⟨_, c, w', h1, _⟩
 ·cases h1; exact h2
 ·cases h1
structure Still (W w' : World) : Prop where
 os : w'.os = W.os
 out : w'.output = W.output
 size : W.heap.size ≤ w'.heap.size
 blk : ∀ b, b < W.heap.size → w'.heap[b]? = W.heap[b]?
theorem FrW.still {σ σ' : Ren} {H H' : AH} {W w' : World} (h : FrW σ H W σ' H' w') (hp : ∀ b, Prot σ H b) : Still W w' :=
 ⟨h.os, h.out, h.size, fun b hb => (h.prot b hb (hp b)).1⟩
theorem cls_calls {F : FuncId → Option IFunc} {X0 X : Ext} (hm : P.follows .mixedOrders = true) (hF : FOk gl P F) (hE : EOk gl P X0) (hX : XOk gl P X) (hEK : ExtK X0) (hXK : ExtK X) (hgl : ∀ g, gl g = true → (glZ g).isSome = true)
  {f : FuncId} {Fn : Func} (hf : P.funcs[f]? = some Fn) (hn : (Fn.name == "runtime.NumGoroutine") = false) (hb : Fn.body.isNone = false) {pvs : List PV} {v : PV} (h : PP F X0 X (.fn f [] []) pvs v)
  {W : World} {args : Array Value} (hg : GlOk W.heap N) (hws : ∀ w ∈ ws, WinOk P W.heap ws w) (hrd : RdL ws pvs args.toList) :
  Calls P f args W fun e w' => ∃ c, e = .returned c ∧ (∃ ρ ζ σ d, VP ρ ζ v d ∧ VR σ d c) ∧ Still W w' := by
 let le := fun a b : Win => decide (a.o + a.xs.length ≤ b.o + b.xs.length)
 let vs := ws.mergeSort le
 have hmem : ∀ w, w ∈ vs ↔ w ∈ ws := fun w => List.mem_mergeSort
 have hpw : vs.Pairwise fun a b => a.o + a.xs.length ≤ b.o + b.xs.length :=
  (List.pairwise_mergeSort (le := le) (fun a b c h1 h2 => by simp only [le, decide_eq_true_eq] at *; omega) (fun a b => by simp only [le, Bool.or_eq_true, decide_eq_true_eq]; omega) ws).imp fun h => by simpa [le] using h
 have hvs : ∀ w ∈ vs, WinOk P W.heap vs w := fun w hw => (hws w ((hmem w).1 hw)).mono fun x hx => (hmem x).2 hx
 have hrd' : RdL vs pvs args.toList := hrd.mono fun x hx => (hmem x).2 hx
 have hHR := HR.heapW (gl := gl) hg hvs hpw
 obtain ⟨d, H', hev, ρ', ζ', v', L', _, _, _, hvp, _, _, _, rfl, _⟩ := h true [] _ _ _ (heapW N vs) (.func (.func f) #[] #[]) (absL N vs pvs args.toList) (GZ.heapW hg) (RH.heapW hg)
  (.fn rfl (fun i h => by simp at h) rfl (fun i h => by simp at h)) (VPL.absL hvs hrd')
 obtain ⟨m, hev⟩ := hev
 refine (calls_of_inv (den_sound hm hF hE hX hEK hXK m) hf hn hb (hev m (Nat.le_refl m)) hHR (GlR.heapW hg hgl) (VL.absL hrd')).mono fun e w' he => ?_
 cases e with
 | returned c =>
  obtain ⟨d', σ', h1, h2, _, h4⟩ := he
  cases h1
  exact ⟨c, rfl, ⟨ρ', ζ', σ', d, hvp, h2⟩, h4.still Prot.heapW⟩
 | panicked chain => obtain ⟨_, _, _, h1, _⟩ := he; cases h1
 | outgrown => exact he.elim
end Go.Den
/- Cls, part C: a function that is settled by running it: its contract. -/
namespace Go.Den
variable {N : Nat} {P : Program} {gl : Nat → Bool}
theorem HR.still {σ : Ren} {H : AH} {hp hp' : Array Obj} (h : HR gl P σ H hp) (hs : hp.size ≤ hp'.size) (hb : ∀ b, b < hp.size → hp'[b]? = hp[b]?) : HR gl P σ H hp' := by
 refine ⟨h.lt, h.fam, fun k p hk => ⟨(h.sig k p hk).1, Nat.lt_of_lt_of_le (h.sig k p hk).2 hs⟩, fun k p hk => ?_, h.typ, h.dis⟩
 have h1 := h.obj k p hk
 have h2 := hb p.b (h.sig k p hk).2
 unfold ObjOk at *
 cases hg : H.get k with
 | none => trivial
 | some o =>
  rw [hg] at h1
  cases o with
  | cells cs t ro ex root thr tip =>
   intro ha
   obtain ⟨⟨ccs, t', lo, hi, h3, h4⟩, h5⟩ := h1 ha
   exact ⟨⟨ccs, t', lo, hi, h2.trans h3, h4⟩, h5⟩
  | map es c => obtain ⟨ces, h3, h4⟩ := h1; exact ⟨ces, h2.trans h3, h4⟩
  | iter s pos => exact ⟨h1.1, h2.trans h1.2⟩
  | loop e ps as bd st pend => obtain ⟨r, h3, h4⟩ := h1; exact ⟨r, h2.trans h3, h4⟩
  | gone => trivial
theorem FrW.of_still {σ : Ren} {H : AH} {W w' : World} (h : Still W w') : FrW σ H W σ H w' :=
 ⟨⟨.refl σ, Nat.le_refl _, fun _ _ => rfl, h.size, fun b hb hp => ⟨h.blk b hb, hp⟩, fun b l hl => ⟨l, (h.blk b (lt_of_some hl)).trans hl⟩⟩, h.os, h.out⟩
def glN : Nat := 2
theorem glZ_lt {k : Nat} {z : Zr} (h : glZ k = some z) : k < glN := by
 rcases glZ_cases h with ⟨rfl, _⟩ | ⟨rfl, _⟩ <;> decide
theorem glZ_atom {k : Nat} {z : Zr} (h : glZ k = some z) : z.cs.all atom = true := by
 rcases glZ_cases h with ⟨_, rfl⟩ | ⟨_, rfl⟩
 ·show bruCells.all atom = true
  kernel_rfl
 ·show spaceCells.all atom = true
  kernel_rfl
theorem glOk_mem {hp : Array Obj} (h : ∀ k z, glZ k = some z → ∃ ccs ct fr, hp[k]? = some (.cells ccs ct fr) ∧ z.cs.length ≤ ccs.size ∧ ccs.toList.take z.cs.length = z.cs) : GlOk hp glN :=
 fun k z hz => ⟨glZ_lt hz, (glZ_self hz).1, (glZ_self hz).2, glZ_atom hz, h k z hz⟩
theorem VL.atoms_eq {σ : Ren} {xs ys : List Value} (h : xs.all atom = true) (hv : VL σ xs ys) : ys = xs := by
 induction hv with
 | nil => rfl
 | cons h1 _ ih =>
  simp only [List.all_cons, Bool.and_eq_true] at h
  rw [h1.atom_eq h.1, ih h.2]
def saysTrue : Option (Out × AH) → Bool
 | some (.ret (.bool true), _) => true
 | _ => false
theorem saysTrue_some {x : Option (Out × AH)} (h : saysTrue x = true) : ∃ H', x = some (.ret (.bool true), H') := by
 unfold saysTrue at h
 split at h
 ·exact ⟨_, rfl⟩
 ·cases h
def XO : Ext := fun _ => none
theorem awake_calls {FA : FuncId → Option IFunc} (hm : P.follows .mixedOrders = true) (hF : FOk gl P FA) (hgl : ∀ g, gl g = true → (glZ g).isSome = true) {f : FuncId} {Fn : Func} (hf : P.funcs[f]? = some Fn) (hn : (Fn.name == "runtime.NumGoroutine") = false) (hb : Fn.body.isNone = false) {n : Nat}
  (hrun : saysTrue (den FA XO XO n (.func (.func f) #[] #[]) [] (heapW N [])) = true) {W : World} (hg : GlOk W.heap N) :
  Calls P f #[] W fun e w' => e = .returned (.bool true) ∧ Still W w' := by
 obtain ⟨H', hd⟩ := saysTrue_some hrun
 have hHR := HR.heapW (gl := gl) (P := P) (ws := []) hg (fun w hw => by simp at hw) List.Pairwise.nil
 refine (calls_of_inv (den_sound hm hF (fun f g h => by cases h) (fun f g h => by cases h) (fun f g h => by cases h) (fun f g h => by cases h) n) hf hn hb hd hHR (GlR.heapW hg hgl) (args := #[]) .nil).mono fun e w' he => ?_
 cases e with
 | returned c =>
  obtain ⟨d', σ', h1, h2, _, h4⟩ := he
  cases h1
  cases h2
  exact ⟨rfl, h4.still Prot.heapW⟩
 | panicked chain => obtain ⟨_, _, _, h1, _⟩ := he; cases h1
 | outgrown => exact he.elim
theorem eok_awake (hglS : ∀ k z, glZ k = some z → gl k = true) {Fn : Func} (hf : P.funcs[8]? = some Fn) (hn : (Fn.name == "runtime.NumGoroutine") = false) (hb : Fn.body.isNone = false)
  (h : ∀ {W : World}, GlOk W.heap glN → Calls P 8 #[] W fun e w' => e = .returned (.bool true) ∧ Still W w') : EOk gl P XA := by
 intro f g hfg
 unfold XA at hfg
 split at hfg
 case isFalse => cases hfg
 rename_i hf8
 subst hf8
 cases hfg
 refine ⟨⟨Fn, hf, hn, hb⟩, fun args H out H' σ w cargs hx hr hgl ha => ?_⟩
 unfold xAwake at hx
 split at hx
 case h_2 => cases hx
 split at hx
 case isFalse => cases hx
 rename_i hs
 cases hx
 have hca : cargs = #[] := by
  have := ha.nil_left
  simpa using this
 subst hca
 have hG : GlOk w.heap glN := glOk_mem fun k z hz => by
  obtain ⟨p, hp1, hp2, hp3⟩ := hgl _ (hglS k z hz)
  obtain ⟨ro, thr, tip, hs1, hs2⟩ := hs k z hz
  have hob := hr.obj _ _ hp1
  unfold ObjOk at hob
  rw [hs1] at hob
  obtain ⟨⟨ccs, ct, lo, hi, h3, h4⟩, _⟩ := hob (AH.alive_iff.2 ⟨_, _, _, _, _, _, _, hs1, hs2⟩)
  rw [hp2] at h3
  have hv := h4.vals
  rw [hp3, List.drop_zero] at hv
  have hfit := h4.fits
  rw [hp3] at hfit
  exact ⟨_, _, _, h3, by omega, hv.atoms_eq (glZ_atom hz)⟩
 refine (h hG).mono fun e w' he => ?_
 obtain ⟨rfl, hst⟩ := he
 exact ⟨_, σ, rfl, .bool true, hr.still hst.size hst.blk, .of_still hst⟩
theorem extK_awake : ExtK XA := by
 intro f g hfg args H out H' hx
 unfold XA at hfg
 split at hfg
 case isFalse => cases hfg
 cases hfg
 unfold xAwake at hx
 split at hx
 case h_2 => cases hx
 split at hx
 case isFalse => cases hx
 cases hx
 exact .refl _
end Go.Den
/- Cls, part D: from the row's reading of an argument to trees. -/
namespace Go.Den
variable {P : Program} {w : World} {H : Type} {enc : TypeId × Value → H} {held : Bool}
def inRow (P : Program) : Nat → Nat → List Field → Bool
 | o, n, [] => o == n
 | o, n, f :: fs => f.offset == o && inRow P (o + P.cellsOf f.type) n fs
def plainT (P : Program) : Nat → TypeId → Bool
 | 0, _ => false
 | d + 1, t => match P.underlying t with
  | some .bool | some .string => true
  | some (.int k) => k != .u8
  | some (.slice e) => plainT P d e && Nat.blt 0 (P.cellsOf e) && szOf P e == some (P.cellsOf e) && Nat.blt 0 (P.bytesOf e)
  | some (.struct fs) => fs.toList.all (fun f => plainT P d f.type) && inRow P 0 (P.cellsOf t) fs.toList
  | _ => false
inductive Shp (P : Program) : TypeId → List PV → Prop
 | bool {t : TypeId} {b : Bool} : P.underlying t = some .bool → Shp P t [.v (.bool b)]
 | int {t : TypeId} {k : IntKind} {n : Int} : P.underlying t = some (.int k) → (Lit.int k n).wf = true → Shp P t [.v (.int k n)]
 | string {t : TypeId} {s : ByteArray} : P.underlying t = some .string → s.size ≤ reachBytes → Shp P t [.v (.string s)]
 | slice {t e : TypeId} {pss : List (List PV)} : P.underlying t = some (.slice e) → pss.length ≤ reachBytes → (∀ i (h : i < pss.length), Shp P e pss[i]) → Shp P t [.fz e pss.length pss.flatten]
 | struct {t : TypeId} {fs : Array Field} {pss : List (List PV)} : P.underlying t = some (.struct fs) → (hl : pss.length = fs.size) → (∀ i (h : i < pss.length) (h' : i < fs.size), Shp P fs[i].type pss[i]) → Shp P t pss.flatten
def isU8 : Value → Bool
 | .int .u8 _ => true
 | _ => false
def BytesAt (hp : Array Obj) : Prop := ∀ b, (glZ b).isSome = true → ∀ ccs ct fr, hp[b]? = some (.cells ccs ct fr) → ∀ c ∈ ccs.toList, isU8 c = true
theorem cells?_run {a : Addr} {n : Nat} {cs : List Value} (h : w.cells? 0 a n = some cs) : cs.length = n ∧ (0 < n → a.spot = none ∧ ∃ ccs ct fr, w.heap[a.block]? = some (.cells ccs ct fr) ∧ a.off + n ≤ ccs.size ∧ cs = (ccs.toList.drop a.off).take n) := by
 unfold World.cells? at h
 rw [if_pos (Nat.zero_le _)] at h
 have hl := mapM_some_length h
 simp only [List.length_range] at hl
 refine ⟨hl, fun hn => ?_⟩
 have hg : ∀ i, i < n → w.cell? (a.add i) = cs[i]? := fun i hi => mapM_some_get h i i (by simp [hi])
 have h0 := hg 0 hn
 rw [List.getElem?_eq_getElem (by omega)] at h0
 have hs : a.spot = none := by
  have := World.cell?_spot h0
  simpa [Addr.add] using this
 refine ⟨hs, ?_⟩
 have hcell : ∀ i, i < n → ∃ ccs ct fr, w.heap[a.block]? = some (.cells ccs ct fr) ∧ ccs[a.off + i]? = cs[i]? := by
  intro i hi
  have h1 := hg i hi
  have h2 : (a.add i).block = a.block ∧ (a.add i).off = a.off + i ∧ (a.add i).spot = none := by
   unfold Addr.add
   split
   ·rename_i h; subst h; exact ⟨rfl, rfl, hs⟩
   ·exact ⟨rfl, rfl, rfl⟩
  unfold World.cell? at h1
  rw [h2.1, h2.2.1, h2.2.2] at h1
  rw [List.getElem?_eq_getElem (by omega)] at h1 ⊢
  split at h1
  ·rename_i c t fr hb
   exact ⟨c, t, fr, hb, by simpa using h1⟩
  ·cases h1
 obtain ⟨ccs, ct, fr, hb, _⟩ := hcell 0 hn
 refine ⟨ccs, ct, fr, hb, ?_, ?_⟩
 ·obtain ⟨ccs', ct', fr', hb', hc⟩ := hcell (n - 1) (by omega)
  rw [hb] at hb'
  cases hb'
  rw [List.getElem?_eq_getElem (by omega)] at hc
  have := (Array.getElem?_eq_some_iff.1 hc).1
  omega
 ·refine List.ext_getElem? fun i => ?_
  rw [List.getElem?_take]
  by_cases hi : i < n
  ·rw [if_pos hi, List.getElem?_drop]
   obtain ⟨ccs', ct', fr', hb', hc⟩ := hcell i hi
   rw [hb] at hb'
   cases hb'
   exact hc.symm.trans Array.getElem?_toList.symm
  ·rw [if_neg hi, List.getElem?_eq_none (by omega)]
theorem F2.flatten {α β : Type} {R : α → β → Prop} : ∀ {as : List (List α)} {bs : List (List β)}, as.length = bs.length → (∀ i (h : i < as.length) (h' : i < bs.length), F2 R as[i] bs[i]) → F2 R as.flatten bs.flatten
 | [], [], _, _ => .nil
 | a :: as, b :: bs, hl, h => by
  simp only [List.flatten_cons]
  exact (h 0 (by simp) (by simp)).append (F2.flatten (by simpa using hl) fun i h1 h2 => h (i + 1) (Nat.succ_lt_succ h1) (Nat.succ_lt_succ h2))
 | [], _ :: _, hl, _ => by simp at hl
 | _ :: _, [], hl, _ => by simp at hl
theorem flatten_cut {α : Type} (l : List α) (o k : Nat) : ∀ n, o + n * k ≤ l.length → ((List.range n).map fun i => (l.drop (o + i * k)).take k).flatten = (l.drop o).take (n * k)
 | 0, _ => by simp
 | n + 1, h => by
  rw [Nat.succ_mul] at h
  rw [List.range_succ, List.map_append, List.flatten_append, flatten_cut l o k n (by omega)]
  simp only [List.map_cons, List.map_nil, List.flatten_cons, List.flatten_nil, List.append_nil]
  rw [Nat.succ_mul, List.take_add, List.drop_drop]
theorem fields_cut (P : Program) (cs : List Value) : ∀ {fs : List Field} {o n : Nat}, inRow P o n fs = true → cs.length = n → o ≤ n → (fs.map fun f => (cs.drop f.offset).take (P.cellsOf f.type)).flatten = cs.drop o
 | [], o, n, h, hl, ho => by
  simp only [inRow, beq_iff_eq] at h
  subst h
  rw [List.drop_of_length_le (by omega)]; rfl
 | f :: fs, o, n, h, hl, ho => by
  simp only [inRow, Bool.and_eq_true, beq_iff_eq] at h
  obtain ⟨h1, h2⟩ := h
  subst h1
  simp only [List.map_cons, List.flatten_cons]
  by_cases hlt : f.offset + P.cellsOf f.type ≤ n
  ·rw [fields_cut P cs h2 hl hlt, ← List.drop_drop, List.take_append_drop]
  ·exfalso
   have : ∀ (fs : List Field) (o : Nat), inRow P o n fs = true → o ≤ n := by
    intro fs
    induction fs with
    | nil => intro o h; simp only [inRow, beq_iff_eq] at h; omega
    | cons f fs ih =>
     intro o h
     simp only [inRow, Bool.and_eq_true, beq_iff_eq] at h
     have := ih _ h.2
     omega
   exact hlt (this _ _ h2)
def Got (P : Program) (w : World) (t : TypeId) (cs : List Value) : Prop :=
 ∃ ws pvs, RdL ws pvs cs ∧ (∀ v ∈ ws, WinOk P w.heap ws v) ∧ Shp P t pvs ∧ ∀ c ∈ cs, isU8 c = false
theorem Got.all {n : Nat} {t : Nat → TypeId} {cs : Nat → List Value} (h : ∀ i, i < n → Got P w (t i) (cs i)) :
  ∃ ws, ∃ pss : List (List PV), pss.length = n ∧ (∀ v ∈ ws, WinOk P w.heap ws v) ∧ ∀ i (hi : i < pss.length), RdL ws pss[i] (cs i) ∧ Shp P (t i) pss[i] := by
 induction n with
 | zero => exact ⟨[], [], rfl, fun v hv => by simp at hv, fun i hi => absurd hi (by simp)⟩
 | succ n ih =>
  obtain ⟨ws, pss, h1, h2, h3⟩ := ih fun i hi => h i (by omega)
  obtain ⟨ws', pvs, g1, g2, g3, _⟩ := h n (by omega)
  refine ⟨ws ++ ws', pss ++ [pvs], by simp [h1], fun v hv => ?_, fun i hi => ?_⟩
  ·rcases List.mem_append.1 hv with hv | hv
   ·exact (h2 v hv).mono fun x hx => List.mem_append_left _ hx
   ·exact (g2 v hv).mono fun x hx => List.mem_append_right _ hx
  ·by_cases hlt : i < pss.length
   ·rw [List.getElem_append_left hlt]
    exact ⟨(h3 i hlt).1.mono fun x hx => List.mem_append_left _ hx, (h3 i hlt).2⟩
   ·have hie : i = pss.length := by simp at hi; omega
    subst hie
    rw [List.getElem_append_right (Nat.le_refl _)]
    simp only [Nat.sub_self, List.getElem_cons_zero]
    rw [h1]
    exact ⟨g1.mono fun x hx => List.mem_append_right _ hx, g3⟩
theorem weightsAll_mem {P : Program} {e : TypeId} {n : Nat} : ∀ {ds : List (DataW H)} {d : DataW H}, d ∈ ds → n ∈ d.weights P e → n ∈ DataW.weightsAll P e ds
 | a :: ds, d, hd, hn => by
  unfold DataW.weightsAll
  rcases List.mem_cons.1 hd with rfl | hd
  ·exact List.mem_append_left _ hn
  ·exact List.mem_append_right _ (weightsAll_mem hd hn)
theorem got_of_trod (hby : BytesAt w.heap) : ∀ (d : Nat) {fuel : Nat} {t : TypeId} {cs : List Value} {x : DataW H × List MemPlace}, plainT P d t = true → (∀ n ∈ x.1.weights P t, n ≤ reachBytes) → DataW.trod enc P w 0 (fun _ => true) held fuel t cs = some x → Got P w t cs
 | 0, _, _, _, _, hp, _, _ => by simp [plainT] at hp
 | d + 1, fuel, t, cs, x, hp, hwt, h => by
  unfold plainT at hp
  split at hp
  ·rename_i ht
   obtain ⟨b, rfl, _⟩ := DataW.trod_bool ht h
   exact ⟨[], [.v (.bool b)], .cons (.v rfl) .nil, fun v hv => by simp at hv, .bool ht, fun c hc => by simp at hc; subst hc; rfl⟩
  ·rename_i ht
   obtain ⟨s, rfl, rfl, _⟩ := DataW.trod_string ht h
   have hs : s.size ≤ reachBytes := by
    exact hwt s.data.toList.length (by rw [DataW.weights]; exact List.mem_cons_self ..)
   exact ⟨[], [.v (.string s)], .cons (.v rfl) .nil, fun v hv => by simp at hv, .string ht hs, fun c hc => by simp at hc; subst hc; rfl⟩
  ·rename_i k ht
   obtain ⟨n, rfl, _, hn⟩ := DataW.trod_int ht h
   refine ⟨[], [.v (.int k n)], .cons (.v rfl) .nil, fun v hv => by simp at hv, .int ht hn, fun c hc => ?_⟩
   simp only [List.mem_singleton] at hc
   subst hc
   cases k <;> first | rfl | (simp at hp)
  ·rename_i e ht
   simp only [Bool.and_eq_true, Nat.blt_eq, beq_iff_eq] at hp
   obtain ⟨⟨⟨hp1, hp2⟩, hp3⟩, hp4⟩ := hp
   rcases DataW.trod_slice ht h with ⟨rfl, _⟩ | ⟨a, len, cap, elems, rest, n, _, rfl, hx, _, hlc, hcm, hel0, he, hr, _⟩
   ·refine ⟨[], [.fz e 0 []], .cons .fz0 .nil, fun v hv => by simp at hv, ?_, fun c hc => by simp at hc; subst hc; rfl⟩
    have := Shp.slice (P := P) (pss := []) ht (Nat.zero_le _) (fun i h => by simp at h)
    exact this
   obtain ⟨hr1, hr2⟩ := hr rfl
   subst hx
   have hwe : ∀ y ∈ elems ++ rest, ∀ n ∈ y.1.weights P e, n ≤ reachBytes := fun y hy n hn => hwt n (by
    have hu : (DataW.slice (elems.map (·.1)) (rest.map (·.1)) : DataW H).weights P t = ((elems.map (·.1)).length + (rest.map (·.1)).length) * P.bytesOf e :: (DataW.weightsAll P e (elems.map (·.1)) ++ DataW.weightsAll P e (rest.map (·.1))) := by rw [DataW.weights, ht]
    rw [hu]
    refine List.mem_cons_of_mem _ ?_
    rcases List.mem_append.1 hy with hy | hy
    ·exact List.mem_append_left _ (weightsAll_mem (List.mem_map.2 ⟨y, hy, rfl⟩) hn)
    ·exact List.mem_append_right _ (weightsAll_mem (List.mem_map.2 ⟨y, hy, rfl⟩) hn))
   have hcapr : cap ≤ reachBytes := by
    have := hwt ((elems.length + rest.length) * P.bytesOf e) (by
     have hu : (DataW.slice (elems.map (·.1)) (rest.map (·.1)) : DataW H).weights P t = ((elems.map (·.1)).length + (rest.map (·.1)).length) * P.bytesOf e :: (DataW.weightsAll P e (elems.map (·.1)) ++ DataW.weightsAll P e (rest.map (·.1))) := by rw [DataW.weights, ht]
     rw [hu]; simp)
    have h5 : elems.length + rest.length = cap := by omega
    rw [h5] at this
    exact Nat.le_trans (Nat.le_mul_of_pos_right _ hp4) this
   -- all elements up to the capacity
   have hall : ∀ i, i < cap → ∃ cs', w.cells? 0 (a.add (i * P.cellsOf e)) (P.cellsOf e) = some cs' ∧ Got P w e cs' := by
    intro i hi
    have key : ∀ {o : Option (DataW H × List MemPlace)}, o.isSome = true → (∀ y, o = some y → y ∈ elems ++ rest) → (w.cells? 0 (a.add (i * P.cellsOf e)) (P.cellsOf e)).bind (DataW.trod enc P w 0 (fun _ => true) held n e) = o → ∃ cs', w.cells? 0 (a.add (i * P.cellsOf e)) (P.cellsOf e) = some cs' ∧ Got P w e cs' := by
     intro o ho hmm hb
     obtain ⟨y, rfl⟩ := Option.isSome_iff_exists.1 ho
     obtain ⟨cs', h1, h2⟩ := Option.bind_eq_some_iff.1 hb
     exact ⟨cs', h1, got_of_trod hby d hp1 (hwe y (hmm y rfl)) h2⟩
    by_cases hil : i < len
    ·exact key (by rw [List.getElem?_eq_getElem (by omega)]; rfl) (fun y hy => List.mem_append_left _ (List.mem_of_getElem? hy)) (he i hil)
    ·have := hr2 (i - len) (by omega)
     rw [show len + (i - len) = i by omega] at this
     exact key (by rw [List.getElem?_eq_getElem (by omega)]; rfl) (fun y hy => List.mem_append_right _ (List.mem_of_getElem? hy)) this
   by_cases hc0 : cap = 0
   ·subst hc0
    obtain rfl : len = 0 := by omega
    refine ⟨[], [.fz e 0 []], .cons .fz0 .nil, fun v hv => by simp at hv, ?_, fun c hc => by simp at hc; subst hc; rfl⟩
    exact Shp.slice (P := P) (pss := []) ht (Nat.zero_le _) (fun i h => by simp at h)
   -- the block
   obtain ⟨c0, h0, g0⟩ := hall 0 (by omega)
   simp only [Nat.zero_mul, Addr.add, if_true] at h0
   obtain ⟨hl0, hz0⟩ := cells?_run h0
   obtain ⟨hs, ccs, ct, fr, hb, hf0, hc0'⟩ := hz0 hp2
   have hel : ∀ i, i < cap → (a.off + i * P.cellsOf e) + P.cellsOf e ≤ ccs.size ∧ Got P w e ((ccs.toList.drop (a.off + i * P.cellsOf e)).take (P.cellsOf e)) := by
    intro i hi
    obtain ⟨cs', h1, h2⟩ := hall i hi
    obtain ⟨_, hz⟩ := cells?_run h1
    obtain ⟨_, ccs', ct', fr', hb', hf', hc'⟩ := hz hp2
    have h3 : (a.add (i * P.cellsOf e)).block = a.block ∧ (a.add (i * P.cellsOf e)).off = a.off + i * P.cellsOf e := by
     unfold Addr.add
     split
     ·rename_i h; rw [h]; exact ⟨rfl, rfl⟩
     ·exact ⟨rfl, rfl⟩
    rw [h3.1, hb] at hb'
    cases hb'
    rw [h3.2] at hf' hc'
    exact ⟨hf', hc' ▸ h2⟩
   have hap : glZ a.block = none := by
    cases hg : glZ a.block with
    | none => rfl
    | some z =>
     exfalso
     obtain ⟨_, _, _, _, _, hu⟩ := g0
     have hmem : c0[0]'(by omega) ∈ ccs.toList := by
      have h9 : ∀ y ∈ c0, y ∈ ccs.toList := fun y hy => by rw [hc0'] at hy; exact List.mem_of_mem_drop (List.mem_of_mem_take hy)
      exact h9 _ (List.getElem_mem _)
     have h1 := hby a.block (by rw [hg]; rfl) ccs ct fr hb _ hmem
     have h2 := hu (c0[0]'(by omega)) (List.getElem_mem _)
     rw [h1] at h2; cases h2
   obtain ⟨ws, pss, p1, p2, p3⟩ := Got.all (P := P) (w := w) (n := len) (t := fun _ => e) (cs := fun i => (ccs.toList.drop (a.off + i * P.cellsOf e)).take (P.cellsOf e)) fun i hi => (hel i (by omega)).2
   have hfit : a.off + len * P.cellsOf e ≤ ccs.toList.length := by
    rcases Nat.eq_zero_or_pos len with h | h
    ·subst h; simp; omega
    ·have := (hel (len - 1) (by omega)).1
     obtain ⟨m, rfl⟩ : ∃ m, len = m + 1 := ⟨len - 1, by omega⟩
     rw [Nat.add_sub_cancel] at this
     rw [Nat.succ_mul]; simp; omega
   let v : Win := ⟨a.block, a.off, e, pss.flatten, (ccs.toList.drop a.off).take (len * P.cellsOf e)⟩
   have hvx : v.xs.length = len * P.cellsOf e := by
    show ((ccs.toList.drop a.off).take (len * P.cellsOf e)).length = _
    rw [List.length_take, List.length_drop]; omega
   have hsub : ∀ x ∈ ws, x ∈ v :: ws := fun x hx => List.mem_cons_of_mem _ hx
   have hv : WinOk P w.heap (v :: ws) v := by
    refine ⟨⟨ccs, ct, fr, hb, ?_, ?_⟩, ?_, ⟨_, hp2, hp3⟩, hap⟩
    ·rw [hvx]; simpa using hfit
    ·rw [hvx]
    ·show RdL (v :: ws) pss.flatten ((ccs.toList.drop a.off).take (len * P.cellsOf e))
     rw [← flatten_cut _ _ _ len hfit]
     refine F2.flatten (by simp [p1]) fun i h1 h2 => ?_
     simp only [List.getElem_map, List.getElem_range]
     exact (p3 i h1).1.mono hsub
   refine ⟨v :: ws, [.fz e len pss.flatten], .cons ?_ .nil, fun x hx => ?_, ?_, fun c hc => by simp at hc; subst hc; rfl⟩
   ·obtain ⟨ab, ao, as⟩ := a
    simp only at hs
    subst hs
    exact .fz (w := v) (List.mem_cons_self ..) hlc
   ·rcases List.mem_cons.1 hx with rfl | hx
    ·exact hv
    ·exact (p2 x hx).mono hsub
   ·subst p1
    exact .slice ht (by omega) fun i hi => (p3 i hi).2
  ·rename_i fs ht
   simp only [Bool.and_eq_true, List.all_eq_true] at hp
   obtain ⟨hp1, hp2⟩ := hp
   obtain ⟨xs, n, _, hxx, hl, hxl, hx⟩ := DataW.trod_struct ht h
   subst hxx
   have hgi : ∀ i (hi : i < fs.size), Got P w fs[i].type ((cs.drop fs[i].offset).take (P.cellsOf fs[i].type)) := by
    intro i hi
    have h1 := hx i fs[i] (Array.getElem?_eq_getElem hi)
    rw [List.getElem?_eq_getElem (by omega)] at h1
    refine got_of_trod hby d (hp1 _ (by simp)) (fun n hn => hwt n ?_) h1
    have hu : (DataW.agg (xs.map (·.1)) : DataW H).weights P t = DataW.weightsEach P (fs.toList.map (·.type)) (xs.map (·.1)) := by rw [DataW.weights, ht]
    rw [hu]
    exact DataW.weights_mem_each (j := i) (t := fs[i].type) (d := xs[i].1) (by simp [hi]) (by simp [show i < xs.length by omega]) n hn
   obtain ⟨ws, pss, p1, p2, p3⟩ := Got.all (P := P) (w := w) (n := fs.size) (t := fun i => (fs.getD i default).type) (cs := fun i => (cs.drop (fs.getD i default).offset).take (P.cellsOf (fs.getD i default).type)) fun i hi => by
    simp only [Array.getD, hi, dite_true]
    exact hgi i hi
   have hcs : ((fs.toList.map fun f => (cs.drop f.offset).take (P.cellsOf f.type))).flatten = cs := by
    rw [fields_cut P cs hp2 hl (Nat.zero_le _), List.drop_zero]
   refine ⟨ws, pss.flatten, ?_, p2, ?_, fun c hc => ?_⟩
   ·rw [← hcs]
    refine F2.flatten (by simp [p1]) fun i h1 h2 => ?_
    have := (p3 i h1).1
    have hi : i < fs.size := by omega
    simp only [Array.getD, hi, dite_true] at this
    simpa using this
   ·refine .struct ht p1 fun i h1 h2 => ?_
    have := (p3 i h1).2
    simp only [Array.getD, h2, dite_true] at this
    exact this
   ·rw [← hcs, List.mem_flatten] at hc
    obtain ⟨l, hl1, hl2⟩ := hc
    obtain ⟨f, hf1, rfl⟩ := List.mem_map.1 hl1
    obtain ⟨i, hi, rfl⟩ := List.getElem_of_mem hf1
    obtain ⟨_, _, _, _, _, hu⟩ := hgi i (by simpa using hi)
    exact hu c (by simpa using hl2)
  ·cases hp
end Go.Den
