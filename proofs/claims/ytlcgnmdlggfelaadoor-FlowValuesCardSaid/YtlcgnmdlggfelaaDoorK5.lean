/- Part 5 of the proof: an executor over a compiled form of the functions of this program, that it is right, and what it computes (see the last part). -/
import Derived.Test.YtlcgnmdlggfelaaDoorK4
set_option linter.all false
/- Right instructions, by the program: all of it. -/
namespace Go.Den
open IrD
attribute [local irreducible] T.get T.set
def cText : ICode := match ir78.body with | .seq _ (.seq _ (.seq _ (.seq _ (.seq c _)))) => c | _ => .skip
theorem okByte_t {x : UInt8} (h : x.toNat = 0 ∨ (32 ≤ x.toNat ∧ x.toNat ≤ 126)) : okByte x = true := by
 simp only [okByte, Bool.or_eq_true, Bool.and_eq_true, decide_eq_true_eq]; omega
theorem okByte_f {x : UInt8} (h : ¬ (x.toNat = 0 ∨ (32 ≤ x.toNat ∧ x.toNat ≤ 126))) : okByte x = false := by
 cases hh : okByte x with
 | false => rfl
 | true => exfalso; simp only [okByte, Bool.or_eq_true, Bool.and_eq_true, decide_eq_true_eq] at hh; omega
set_option maxRecDepth 8000 in
set_option maxHeartbeats 4000000 in
theorem right_text {c : FCode} {b : FBody} {i : FIns} {E : PEnv} {n : Nat} (hop : i.op = n) (hn : n < 38) (hi : (i.op = 21 ∨ i.op = 27) → 0 ≤ i.b ∧ i.b < c.bodies.length) (hb : big i.list.length) (hbt : big i.text.length)
  (h : Has E (RgBase c b i)) : PC FD XA XN 0 (.seq cText cRight) (RgQ (textS i && listS c b i)) E [] := by
 refine PC_seq (PW_ok _ ?_)
 obtain ⟨e3, e4, e5, e7, -⟩ := h
 have hop' : i.op.toNat = n := by omega
 rw [hop'] at e7
 have hd5 : List.drop 5 (encI i) = [pstr i.text, ints 3 i.list] := rfl
 have hd0 : encI i = pin i.op :: (encI i).tail := rfl
 have hr5 : List.drop 5 (encR (ruleN n)) = [pstr (ruleN n).texts] := rfl
 have last : ∀ {E' : PEnv}, E'.get 3 = some (.fp (encC c)) → E'.get 4 = some (.fp (encBo b)) → E'.get 5 = some (.fp (encI i)) → textS i = true → PC FD XA XN 0 cRight (RgQ (textS i && listS c b i)) E' [] := fun a1 a2 a3 a4 => by
  rw [a4, Bool.true_and]
  exact right_end hi hb ⟨a1, a2, a3, trivial⟩
 have stop : textS i = false → (textS i && listS c b i) = false := fun h => by rw [h]; rfl
 by_cases h36 : i.op = 36
 ·have hts : textS i = i.text.all okByte := by simp only [textS, h36, if_true]
  have hn36 : n = 36 := by omega
  subst hn36
  simp [cText, ir78, e3, e4, e5, e7, hd5, h36, encI]
  refine PC_loopG (RgJ2 c b i) ?_ (k := i.text.length) ⟨0, by simp, rfl, by simp [e3, e4, e5, e7, hop', encI, h36], fun x hx => by simp at hx⟩
  clear e3 e4 e5 e7
  rintro m E L ⟨k, hkm, rfl, ⟨e3, e4, e5, e7, e44, e45, -⟩, hk⟩
  by_cases hkl : k < i.text.length
  case neg =>
   have hke : k = i.text.length := by omega
   subst hke
   rw [List.take_length] at hk
   simp [e3, e4, e5, e7, e44, e45]
   refine last (by simp [e3]) (by simp [e4]) (by simp [e5]) ?_
   rw [hts, List.all_eq_true]
   intro x hx
   simpa using hk x hx
  have hw := wrap_inc hkl hbt
  have hbad : okByte i.text[k] = false → (textS i && listS c b i) = false := fun h => stop (by rw [hts, List.all_eq_false]; exact ⟨_, List.getElem_mem hkl, by rw [h]; simp⟩)
  have hgo : ∀ {E' : PEnv}, okByte i.text[k] = true → Has E' [(3, .fp (encC c)), (4, .fp (encBo b)), (5, .fp (encI i)), (7, .fp (encR (ruleN i.op.toNat))), (44, pin i.text.length), (45, pin (k + 1 : Nat))] → GoOn (RgJ2 c b i) m E' [] := fun h hh =>
   GoOn.same (m - 1) (by omega) ⟨k + 1, by omega, rfl, hh, take_next (p := fun x => !okByte x) hkl hk (by show (!okByte i.text[k]) = false; simp only [h, Bool.not_true])⟩
  generalize hx : i.text[k] = x at *
  by_cases x0 : x.toNat = 0
  ·have x0' : (x.toNat : Int) = 0 := by omega
   simp [e3, e4, e5, e7, e44, e45, hkl, hd5, hx, x0, x0', hw]
   exact hgo (okByte_t (.inl x0)) (by simp [e3, e4, e5, e7, e44])
  have x0' : ¬ (x.toNat : Int) = 0 := by omega
  by_cases x1 : x.toNat < 32
  ·have x1' : (x.toNat : Int) < 32 := by omega
   rw [hbad (okByte_f (by omega))]
   simp [e3, e4, e5, e7, e44, e45, hkl, hd5, hx, x0, x0', x1, x1', RgQ, ir78]
   exact .same rfl
  have x1' : ¬ (x.toNat : Int) < 32 := by omega
  by_cases x2 : 126 < x.toNat
  ·have x2' : 126 < (x.toNat : Int) := by omega
   rw [hbad (okByte_f (by omega))]
   simp [e3, e4, e5, e7, e44, e45, hkl, hd5, hx, x0, x0', x1, x1', x2, x2', RgQ, ir78]
   exact .same rfl
  have x2' : ¬ 126 < (x.toNat : Int) := by omega
  simp [e3, e4, e5, e7, e44, e45, hkl, hd5, hx, x0, x0', x1, x1', x2, x2', hw]
  exact hgo (okByte_t (by omega)) (by simp [e3, e4, e5, e7, e44])
 cases he : (textN n).isEmpty with
 | true =>
  have hts : textS i = decide (i.text = []) := by simp only [textS, h36, if_false, hop', he, if_true]
  have hrt := texts_nil hn he
  by_cases ht : i.text = []
  ·simp [cText, ir78, e3, e4, e5, e7, hd5, hr5, h36, hrt, ht, encI, arithStr, lit_toList]
   exact last (by simp [e3]) (by simp [e4]) (by simp [e5, encI, ht]) (by rw [hts, ht]; rfl)
  ·rw [stop (by rw [hts, decide_eq_false ht])]
   have hte : i.text.isEmpty = false := by simpa using ht
   simp [cText, ir78, e3, e4, e5, e7, hd5, hr5, h36, hrt, ht, hte, encI, arithStr, lit_toList, RgQ]
   exact .same rfl
 | false =>
  have hts : textS i = decide (i.text ∈ textN n) := by simp only [textS, h36, if_false, hop', he, if_true]; rfl
  have hrt : (ruleN n).texts.isEmpty = false := by simpa using texts_cons hn he
  simp [cText, ir78, e3, e4, e5, e7, hd5, hr5, h36, hrt, encI, arithStr, lit_toList]
  refine (split_ok hn he).runj ?_
  simp [hd5, e3, e4, e5, e7]
  refine (containsS_ok (t := 9) (l := textN n) (s := i.text) (by have := texts_len hn; unfold big; omega)).runk ?_
  by_cases ht : i.text ∈ textN n
  ·simp [ht, e3, e4, e5, e7]
   exact last (by simp [e3]) (by simp [e4]) (by simp [e5, encI]) (by rw [hts, decide_eq_true ht])
  ·rw [stop (by rw [hts, decide_eq_false ht])]
   simp [ht, RgQ, ir78, e3, e4, e5, e7]
   exact .same rfl
set_option maxRecDepth 8000 in
set_option maxHeartbeats 4000000 in
theorem right_ok {c : FCode} {b : FBody} {i : FIns} (hb : big i.list.length) (hbt : big i.text.length) : PPd (.fn 78 [] []) [.agg (encC c), .agg (encBo b), .agg (encI i)] (pbool (rightS c b i)) := by
 refine PP_code rfl rfl rfl (by simp) (by simp [noId]) (by simp) ?_
 by_cases hop : 1 ≤ i.op ∧ i.op ≤ 37
 case neg =>
  refine PW_ok _ ?_
  have hs : rightS c b i = false := by
   simp only [rightS]
   by_cases h : 1 ≤ i.op
   ·have : ¬ i.op ≤ 37 := fun hh => hop ⟨h, hh⟩
    simp [this]
   ·simp [h]
  rw [hs]
  simp [ir78, encI, encC, encBo, recs, ints]
  refine (ruleOf_no (n := i.op) (by omega)).runk ?_
  simp [encR]
  exact .same rfl
 obtain ⟨n, hn⟩ : ∃ n : Nat, i.op = n := ⟨i.op.toNat, by omega⟩
 have hn1 : 1 ≤ n := by omega
 have hn2 : n ≤ 37 := by omega
 have hop' : i.op.toNat = n := by omega
 have hs : rightS c b i = (kindsB c b i && textS i && listS c b i) := by simp only [rightS, hop.1, hop.2, decide_true, Bool.true_and]
 rw [hs]
 have hi0 : (encI i)[0]? = some (pin n) := by rw [← hn]; rfl
 have hps : psplice [PV.v (S []), PV.v (I 0), PV.v (I 0), PV.v (I 0), PV.v (I 0), PV.v (S [])] 0 (encR (ruleN n)) = encR (ruleN n) := psplice_full rfl
 refine PC_seq (PW_ok _ ?_)
 simp
 refine PC_seq (PW_ok _ ?_)
 simp [hi0]
 refine (ruleOf_ok hn1 hn2).runk ?_
 simp [hps]
 refine PC_seq (PW_ok _ ?_)
 simp
 refine PC_seq (PW_ok _ ?_)
 have hcc : cut (encR (ruleN n)) 0 6 = encR (ruleN n) := cut_all rfl
 have hci : cut (encI i) 0 7 = encI i := cut_all rfl
 simp [hcc, hci]
 refine (ruleFields_ok (r := ruleN n) (i := i)).runk ?_
 simp
 refine PC.abs (Abs.dropAll [(3, .fp (encC c)), (4, .fp (encBo b)), (5, .fp (encI i)), (7, .fp (encR (ruleN n))), (25, .agg (rowOf (ruleN n) i)), (26, pin (0 : Nat))] ?_) ?_
 ·simp
  refine ⟨?_, ?_, ?_, ?_, .same (by simp [noId, noIdL, rowOf]), .same rfl⟩
  all_goals exact .fzp (by simp) rfl (by simp) (by simp) rfl rfl (fun j a b => .same (noIdL_get (by simp) j a))
 refine PC_loopG (RgJ1 c b i) ?_ (k := 4) ⟨0, by simp, rfl, by rw [hop']; exact Has.env (by simp), fun j hj => by omega⟩
 rintro m E L ⟨k, hkm, rfl, ⟨e3, e4, e5, e7, e25, e26, -⟩, hk⟩
 rw [hop'] at e7 e25 hk
 by_cases hk4 : k < 4
 case neg =>
  have hke : k = 4 := by omega
  subst hke
  have hkk : kindsB c b i = true := by
   simp only [kindsB, hop', Bool.and_eq_true]
   exact ⟨⟨⟨hk 0 (by omega), hk 1 (by omega)⟩, hk 2 (by omega)⟩, hk 3 (by omega)⟩
  simp [e3, e4, e5, e7, e25, e26]
  rw [hkk, Bool.true_and]
  refine right_text (n := n) hn (by omega) ?_ hb hbt ?_
  ·intro h
   have h1 := hk 1 (by omega)
   rcases h with h | h
   ·have hn21 : n = 21 := by omega
    subst hn21
    have h2 : kindB c b 8 i.b = true := h1
    simpa [kindB] using h2
   ·have hn27 : n = 27 := by omega
    subst hn27
    have h2 : kindB c b 8 i.b = true := h1
    simpa [kindB] using h2
  ·rw [RgBase, hop']
   simp [e3, e4, e5, e7]
 have hcut := cutRow (r := ruleN n) (i := i) hk4
 have hk4' : (k : Int) < 4 := by omega
 obtain ⟨ha0, ha1⟩ := kindAt_le (n := n) (by omega) hk4
 have hw : IntKind.wrap .i64 ((k : Int) + 1) = ((k + 1 : Nat) : Int) := by rw [wrap64 (by omega) (by omega)]; simp
 have ht : List.take 2 (encC c) = encC c := rfl
 have ht4 : List.take 4 (encBo b) = encBo b := rfl
 simp [e3, e4, e5, e7, e25, e26, hk4, hk4', hcut, ht, ht4]
 refine (field_ok (c := c) (b := b) (n := numAt i k) ha0 ha1).runk ?_
 cases hkd : kindB c b (kindAt (ruleN n) k) (numAt i k) with
 | false =>
  have hkk : kindsB c b i = false := by
   simp only [kindsB, hop']
   match k, hk4, hkd with
   | 0, _, h => simp only [show kindB c b (ruleN n).a i.a = false from h, Bool.false_and]
   | 1, _, h => simp only [show kindB c b (ruleN n).b i.b = false from h, Bool.and_false, Bool.false_and]
   | 2, _, h => simp only [show kindB c b (ruleN n).c i.c = false from h, Bool.and_false, Bool.false_and]
   | 3, _, h => simp only [show kindB c b (ruleN n).d i.d = false from h, Bool.and_false]
  rw [hkk]
  simp [e3, e4, e5, e7, e25, e26, ir78]
  exact .same rfl
 | true =>
  simp [e3, e4, e5, e7, e25, e26, hw]
  refine GoOn.drop [(3, .fp (encC c)), (4, .fp (encBo b)), (5, .fp (encI i)), (7, .fp (encR (ruleN n))), (25, .agg (rowOf (ruleN n) i)), (26, pin (k + 1 : Nat))] (m - 1) (by omega) ?_ ⟨k + 1, by omega, rfl, by rw [hop']; exact Has.env (by simp), fun j hj => ?_⟩
  ·simp [e3, e4, e5, e7, e25]
   refine ⟨.same (by simp [noId]), .same (by simp [noId]), .same (by simp [noId]), .same (by simp [noId]), .same (by simp [noId, noIdL, rowOf]), .same rfl⟩
  ·rw [hop']
   by_cases e : j = k
   ·subst e; exact hkd
   ·exact hk j (by omega)
structure OkC (c : FCode) : Prop where
 bodies : c.bodies.length ≤ 1000000
 code : ∀ b ∈ c.bodies, b.code.length ≤ 1000000
 list : ∀ b ∈ c.bodies, ∀ i ∈ b.code, i.list.length ≤ 1000000
 text : ∀ b ∈ c.bodies, ∀ i ∈ b.code, i.text.length ≤ 1000000
def lastOp (l : List FIns) : Int := match l.getLast? with | some i => i.op | none => 0
def headB (b : FBody) (k : Nat) : Bool := namedB b.name && decide (0 ≤ b.args) && decide (b.args ≤ b.regs) && (decide (k ≠ 0) || decide (b.args ≤ 0)) && !b.code.isEmpty
def bodyB (c : FCode) (b : FBody) (k : Nat) : Bool := headB b k && (decide (lastOp b.code = 22) || decide (lastOp b.code = 19)) && b.code.all (rightS c b)
def bodiesFrom (c : FCode) : Nat → List FBody → Bool
 | _, [] => true
 | k, b :: l => bodyB c b k && bodiesFrom c (k + 1) l
def totalI : List FBody → Nat
 | [] => 0
 | b :: l => b.code.length + totalI l
def countB (c : FCode) : Bool := decide (1 ≤ c.bodies.length) && decide (c.bodies.length ≤ 800) && decide (0 ≤ c.globals) && decide (c.globals ≤ 1000) && decide (totalI c.bodies ≤ 20000) && c.bodies.all fun b => decide (b.regs ≤ 5000)
def checkS (c : FCode) : Int := if countB c = true then (if bodiesFrom c 0 c.bodies = true then 0 else 190) else 5
def IbJ (t : TypeId) (l : List FBody) (fv : PV) (p : FBody → Bool) (m : Nat) (E : PEnv) (L : List LObj) : Prop := ∃ i : Nat, i + m = l.length ∧ L = [] ∧ Has E [(0, recs t encBo l), (1, fv), (7, pin l.length), (8, pin i)] ∧ ∀ x ∈ l.take i, p x = false
theorem indexBo_ok {t : TypeId} {l : List FBody} {fv : PV} {p : FBody → Bool} (hb : big l.length) (hfv : noId fv = true) (hp : ∀ x ∈ l, PPd fv [.agg (encBo x)] (pbool (p x))) : PPd (.fn 86 [] []) [recs t encBo l, fv] (pin (firstI p l)) := by
 refine PP_code rfl rfl rfl (by simp) (by simp [noId, hfv]) (by simp) (PW_ok _ ?_)
 simp [ir86, recs]
 refine PC_loopG (IbJ t l fv p) ?_ (k := l.length) ⟨0, by simp, rfl, by simp [recs], fun x hx => by simp at hx⟩
 rintro m E L ⟨i, him, rfl, ⟨e0, e1, e7, e8, -⟩, hn⟩
 by_cases hi : i < l.length
 ·have hcut := cutBo hi
  have hlen : (encBo l[i]).length = 4 := rfl
  simp [e0, e1, e7, e8, hi, recs, hcut]
  have ht : List.take 4 (encBo l[i]) = encBo l[i] := rfl
  refine (hp _ (List.getElem_mem hi)).runk ?_
  cases hx : p l[i] with
  | true =>
   rw [firstI_at hi hn hx]
   simp [e0, e1, e7, e8]
   exact .same rfl
  | false =>
   simp [e0, e1, e7, e8, wrap_inc hi hb]
   exact GoOn.same (m - 1) (by omega) ⟨i + 1, by omega, rfl, by simp [e0, e1, e7, recs], take_next hi hn hx⟩
 ·have hie : i = l.length := by omega
  subst hie
  rw [List.take_length] at hn
  rw [firstI_none hn]
  simp [e0, e1, e7, e8, recs]
  exact .same rfl
theorem containsBo_ok {t : TypeId} {l : List FBody} {fv : PV} {p : FBody → Bool} (hb : big l.length) (hfv : noId fv = true) (hp : ∀ x ∈ l, PPd fv [.agg (encBo x)] (pbool (p x))) : PPd (.fn 73 [] []) [recs t encBo l, fv] (pbool (l.any p)) := by
 refine PP_code rfl rfl rfl (by simp) (by simp [noId, hfv]) (by simp) (PW_ok _ ?_)
 simp [ir73]
 refine (indexBo_ok hb hfv hp).runk ?_
 simp
 exact .eq (by rw [firstI_any]) rfl
def IiJ (t : TypeId) (l : List FIns) (fv : PV) (p : FIns → Bool) (m : Nat) (E : PEnv) (L : List LObj) : Prop := ∃ i : Nat, i + m = l.length ∧ L = [] ∧ Has E [(0, recs t encI l), (1, fv), (7, pin l.length), (8, pin i)] ∧ ∀ x ∈ l.take i, p x = false
theorem indexIn_ok {t : TypeId} {l : List FIns} {fv : PV} {p : FIns → Bool} (hb : big l.length) (hfv : noId fv = true) (hp : ∀ x ∈ l, PPd fv [.agg (encI x)] (pbool (p x))) : PPd (.fn 89 [] []) [recs t encI l, fv] (pin (firstI p l)) := by
 refine PP_code rfl rfl rfl (by simp) (by simp [noId, hfv]) (by simp) (PW_ok _ ?_)
 simp [ir89, recs]
 refine PC_loopG (IiJ t l fv p) ?_ (k := l.length) ⟨0, by simp, rfl, by simp [recs], fun x hx => by simp at hx⟩
 rintro m E L ⟨i, him, rfl, ⟨e0, e1, e7, e8, -⟩, hn⟩
 by_cases hi : i < l.length
 ·have hcut := cutI hi
  simp [e0, e1, e7, e8, hi, recs, hcut]
  refine (hp _ (List.getElem_mem hi)).runk ?_
  cases hx : p l[i] with
  | true =>
   rw [firstI_at hi hn hx]
   simp [e0, e1, e7, e8]
   exact .same rfl
  | false =>
   simp [e0, e1, e7, e8, wrap_inc hi hb]
   exact GoOn.same (m - 1) (by omega) ⟨i + 1, by omega, rfl, by simp [e0, e1, e7, recs], take_next hi hn hx⟩
 ·have hie : i = l.length := by omega
  subst hie
  rw [List.take_length] at hn
  rw [firstI_none hn]
  simp [e0, e1, e7, e8, recs]
  exact .same rfl
theorem containsIn_ok {t : TypeId} {l : List FIns} {fv : PV} {p : FIns → Bool} (hb : big l.length) (hfv : noId fv = true) (hp : ∀ x ∈ l, PPd fv [.agg (encI x)] (pbool (p x))) : PPd (.fn 76 [] []) [recs t encI l, fv] (pbool (l.any p)) := by
 refine PP_code rfl rfl rfl (by simp) (by simp [noId, hfv]) (by simp) (PW_ok _ ?_)
 simp [ir76]
 refine (indexIn_ok hb hfv hp).runk ?_
 simp
 exact .eq (by rw [firstI_any]) rfl
theorem manyRegs_ok {b : FBody} : PPd (.fn 74 [] []) [.agg (encBo b)] (pbool (decide (5000 < b.regs))) := by
 refine PP_code rfl rfl rfl (by simp) (by simp [noId]) (by simp) (PW_ok _ ?_)
 simp [ir74, encBo, recs]
 exact .same rfl
theorem wrongIns_ok {c : FCode} {b : FBody} {i : FIns} (hb : big i.list.length) (hbt : big i.text.length) : PPd (.fn 77 [] [.fp (encC c), .fp (encBo b)]) [.agg (encI i)] (pbool (!rightS c b i)) := by
 refine PP_code rfl rfl rfl (by simp [noId]) (by simp [noId]) (by simp) (PW_ok _ ?_)
 have h2 : List.take 2 (encC c) = encC c := rfl
 have h4 : List.take 4 (encBo b) = encBo b := rfl
 have h7 : cut (encI i) 0 7 = encI i := rfl
 simp [ir77, h2, h4, h7]
 refine (right_ok (c := c) (b := b) hb hbt).runk ?_
 simp
 exact .same rfl
theorem PC_loopH {F : FuncId → Option IFunc} {X0 X : Ext} {Q : Ex → PEnv → List LObj → Prop} {E : PEnv} {L : List LObj} {c : ICode} (J : Nat → PEnv → List LObj → Prop) (round : ∀ k E L, J k E L → PC F X0 X 0 c (pnext (GoOn J k) Q) E L) {k : Nat} (h : J k E L) : PC F X0 X 0 (.loop c) Q E L :=
 PC_loop J round h
theorem totalI_le {l : List FBody} (h : ∀ b ∈ l, b.code.length ≤ 1000000) : totalI l ≤ 1000000 * l.length := by
 induction l with
 | nil => simp [totalI]
 | cons a l ih =>
  have := ih (fun b hb => h b (by simp [hb]))
  have := h a (by simp)
  simp only [totalI, List.length_cons]; omega
theorem totalI_take {l : List FBody} {i : Nat} (hi : i < l.length) : totalI (l.take (i + 1)) = totalI (l.take i) + l[i].code.length := by
 induction l generalizing i with
 | nil => simp at hi
 | cons a l ih =>
  cases i with
  | zero => simp [totalI]
  | succ i =>
   have := ih (i := i) (by simpa using hi)
   simp only [List.take_succ_cons, totalI, this, List.getElem_cons_succ]; omega
def ChJ1 (c : FCode) (m : Nat) (E : PEnv) (L : List LObj) : Prop := ∃ i : Nat, i + m = c.bodies.length ∧ L = [] ∧ Has E [(1, .fp (encC c)), (3, pin (totalI (c.bodies.take i))), (10, recs 65 encBo c.bodies), (11, pin c.bodies.length), (12, pin i)]
def ChJ3 (c : FCode) (m : Nat) (E : PEnv) (L : List LObj) : Prop := ∃ i : Nat, i + m = c.bodies.length ∧ L = [] ∧ Has E [(1, .fp (encC c)), (52, recs 65 encBo c.bodies), (53, pin c.bodies.length), (54, pin i)] ∧ bodiesFrom c 0 c.bodies = bodiesFrom c i (c.bodies.drop i)
theorem lastOp_at {l : List FIns} (h : 0 < l.length) : lastOp l = (l[l.length - 1]'(by omega)).op := by
 unfold lastOp
 rw [List.getLast?_eq_getElem?, List.getElem?_eq_getElem (by omega)]
set_option maxRecDepth 8000 in
set_option maxHeartbeats 8000000 in
theorem check_ok {c : FCode} (hc : OkC c) : PPd (.fn 63 [] []) [.agg (encC c)] (pin (checkS c)) := by
 have hbl := hc.bodies
 have hb : big c.bodies.length := by unfold big; omega
 have hd1 : List.drop 1 (encC c) = [recs 65 encBo c.bodies] := rfl
 have hres : ir63.results = [.tmp 2] := rfl
 have hE0 : encC c = [pin c.globals, recs 65 encBo c.bodies] := rfl
 refine PP_code rfl rfl rfl (by simp) (by simp [noId]) (by simp) ?_
 refine PC_seq (PW_ok _ ?_)
 simp
 refine PC_seq (PW_ok _ ?_)
 simp
 refine PC.abs (Abs.dropAll [(1, .fp (encC c)), (3, pin 0)] ?_) ?_
 ·simp
  exact ⟨.fzp (by simp) rfl (by simp) (by simp) rfl rfl (fun j a b => .same (noIdL_get (by simp) j a)), .same rfl⟩
 refine PC_seq (PW_ok _ ?_)
 simp [envC, envC_nil, hd1, recs]
 refine PC_loopG (ChJ1 c) ?_ (k := c.bodies.length) ⟨0, by simp, rfl, by simp [envC, recs, totalI]⟩
 rintro m E L ⟨i, him, rfl, ⟨e1, e3, e10, e11, e12, -⟩⟩
 by_cases hi : i < c.bodies.length
 ·have hcut := cutBo hi
  have h1 := hc.code _ (List.getElem_mem hi)
  have h2 := totalI_le (l := c.bodies.take i) (fun b hb => hc.code b (List.mem_of_mem_take hb))
  have h3 : (c.bodies.take i).length ≤ 1000000 := by simp; omega
  have hlen : (encBo c.bodies[i]).length = 4 := rfl
  have hw : IntKind.wrap .i64 ((totalI (c.bodies.take i) : Int) + (c.bodies[i].code.length : Int)) = ((totalI (c.bodies.take (i + 1)) : Nat) : Int) := by
   rw [totalI_take hi, wrap64 (by omega) (by omega)]; simp
  simp [e1, e3, e10, e11, e12, hi, recs, hcut, encBo, hw, wrap_inc hi hb]
  refine GoOn.drop [(1, .fp (encC c)), (3, pin (totalI (c.bodies.take (i + 1)))), (10, recs 65 encBo c.bodies), (11, pin c.bodies.length), (12, pin (i + 1 : Nat))] (m - 1) (by omega) ?_ ⟨i + 1, by omega, rfl, Has.env (by simp)⟩
  simp [e1, e10, e11, recs]
  exact ⟨.same (by simp [noId]), .same rfl, .same (by simp [noId]), .same rfl, .same rfl⟩
 have hie : i = c.bodies.length := by omega
 subst hie
 rw [List.take_length] at e3
 simp [e1, e3, e10, e11, e12]
 clear him
 -- the counts
 have htl := totalI_le (l := c.bodies) (fun b hb => hc.code b hb)
 have bad : countB c = false → checkS c = 5 := fun h => by simp only [checkS, h]; rfl
 refine PC_seq (PW_ok _ ?_)
 by_cases h1 : c.bodies.length = 0
 ·rw [bad (by simp only [countB, show ¬ 1 ≤ c.bodies.length by omega, decide_false, Bool.false_and])]
  have h1' : (c.bodies.length : Int) = 0 := by omega
  have h1'' : c.bodies = [] := List.eq_nil_of_length_eq_zero h1
  simp [e1, e3, hd1, recs, h1, h1', h1'', hres]
  exact .same rfl
 have h1' : ¬ (c.bodies.length : Int) = 0 := by omega
 have h1'' : c.bodies ≠ [] := fun h => h1 (by rw [h]; rfl)
 by_cases h2 : (800 : Int) < c.bodies.length
 ·rw [bad (by simp only [countB, show ¬ c.bodies.length ≤ 800 by omega, decide_false, Bool.and_false, Bool.false_and])]
  simp [e1, e3, hd1, recs, h1, h1', h1'', h2, hres]
  exact .same rfl
 by_cases h3 : (20000 : Int) < totalI c.bodies
 ·rw [bad (by simp only [countB, show ¬ totalI c.bodies ≤ 20000 by omega, decide_false, Bool.and_false, Bool.false_and])]
  simp [e1, e3, hd1, recs, h1, h1', h1'', h2, h3, hres]
  exact .same rfl
 by_cases h4 : c.globals < 0
 ·rw [bad (by simp only [countB, show ¬ 0 ≤ c.globals by omega, decide_false, Bool.and_false, Bool.false_and])]
  simp [e1, e3, hd1, hE0, recs, h1, h1', h1'', h2, h3, h4, hres]
  exact .same rfl
 by_cases h5 : 1000 < c.globals
 ·rw [bad (by simp only [countB, show ¬ c.globals ≤ 1000 by omega, decide_false, Bool.and_false, Bool.false_and])]
  simp [e1, e3, hd1, hE0, recs, h1, h1', h1'', h2, h3, h4, h5, hres]
  exact .same rfl
 have hcnt : countB c = c.bodies.all fun b => decide (b.regs ≤ 5000) := by
  simp only [countB, show 1 ≤ c.bodies.length by omega, show c.bodies.length ≤ 800 by omega, show 0 ≤ c.globals by omega, show c.globals ≤ 1000 by omega, show totalI c.bodies ≤ 20000 by omega, decide_true, Bool.true_and]
 simp [e1, e3, hd1, hE0, recs, h1, h1', h1'', h2, h3, h4, h5]
 have hrec : PV.fz 65 c.bodies.length (c.bodies.flatMap encBo) = recs 65 encBo c.bodies := rfl
 rw [hrec]
 refine (containsBo_ok (t := 65) (l := c.bodies) (p := fun b => decide (5000 < b.regs)) hb (by simp [noId]) (fun _ _ => manyRegs_ok)).runk ?_
 have hany : countB c = !(c.bodies.any fun b => decide (5000 < b.regs)) := by
  rw [hcnt, List.all_eq_not_any_not]
  congr 1
  congr 1
  funext b
  by_cases h : b.regs ≤ 5000
  ·have : ¬ 5000 < b.regs := by omega
   simp [h, this]
  ·have : 5000 < b.regs := by omega
   simp [h, this]
 cases ha : c.bodies.any fun b => decide (5000 < b.regs) with
 | true =>
  rw [ha] at hany
  rw [bad hany]
  simp [hres]
  exact .same rfl
 | false =>
  rw [ha] at hany
  have hck : checkS c = if bodiesFrom c 0 c.bodies = true then 0 else 190 := by simp only [checkS, hany]; rfl
  simp [e1]
  refine PC.abs (Abs.dropAll [(1, .fp (encC c))] ?_) ?_
  ·simp [e1, hE0, recs]
   exact .same (by simp [noId])
  clear e1 e3 e10 e11 e12
  refine PC_seq (PC_seq (PW_ok _ ?_))
  simp [envC, envC_nil, hd1, recs]
  refine PC_block (PC_loopH (ChJ3 c) ?_ (k := c.bodies.length) ⟨0, by simp, rfl, by simp [envC, recs], by simp⟩)
  rintro m E L ⟨i, him, rfl, ⟨e1, e52, e53, e54, -⟩, hf⟩
  by_cases hi : i < c.bodies.length
  case neg =>
   have hie : i = c.bodies.length := by omega
   subst hie
   rw [List.drop_length] at hf
   have : checkS c = 0 := by rw [hck, hf]; rfl
   rw [this]
   refine PW_ok _ ?_
   simp [e1, e52, e53, e54]
   refine PW_ok _ ?_
   simp [hres]
   exact .same rfl
  have hcut := cutBo hi
  have hdr : c.bodies.drop i = c.bodies[i] :: c.bodies.drop (i + 1) := List.drop_eq_getElem_cons hi
  have hfc : bodiesFrom c i (c.bodies[i] :: c.bodies.drop (i + 1)) = (bodyB c c.bodies[i] i && bodiesFrom c (i + 1) (c.bodies.drop (i + 1))) := rfl
  rw [hdr, hfc] at hf
  have k1 := hc.code _ (List.getElem_mem hi)
  have k2 := hc.list _ (List.getElem_mem hi)
  have k3 := hc.text _ (List.getElem_mem hi)
  have wi := wrap_inc hi hb
  generalize hbd : c.bodies[i] = b at *
  have stop : bodyB c b i = false → checkS c = 190 := fun h => by rw [hck, hf, h]; rfl
  have hhead : headB b i = false → bodyB c b i = false := fun h => by simp only [bodyB, h, Bool.false_and]
  refine PC_seq (PW_ok _ ?_)
  simp [e1, e52, e53, e54, hi]
  refine PC_seq (PW_ok _ ?_)
  simp
  refine PC_seq (PC_block (PC_seq (PW_ok _ ?_)))
  have hbc : encBo b = [pstr b.name, pin b.regs, pin b.args, recs 62 encI b.code] := rfl
  have hps : psplice [PV.v (S []), PV.v (I 0), PV.v (I 0), PV.v (.slice none 0 0)] 0 (encBo b) = encBo b := psplice_full rfl
  have ht4 : List.take 4 (encBo b) = encBo b := rfl
  simp [e1, e52, e53, e54, hi, recs, hcut, hbd, hps, ht4]
  refine PC.abs (Abs.dropAll [(1, .fp (encC c)), (52, recs 65 encBo c.bodies), (53, pin c.bodies.length), (54, pin i), (6, pin i), (7, .fp (encBo b))] ?_) ?_
  ·simp [e1, e52, e53, e54, recs]
   exact ⟨.same (by simp [noId]), .same (by simp [noId]), .same rfl, .same rfl, .fzp (by simp) rfl (by simp) (by simp) rfl rfl (fun j a b => .same (noIdL_get (by simp) j a))⟩
  have hq1 : List.drop 1 (encBo b) = [pin b.regs, pin b.args, recs 62 encI b.code] := rfl
  have hq2 : List.drop 2 (encBo b) = [pin b.args, recs 62 encI b.code] := rfl
  have hq3 : List.drop 3 (encBo b) = [recs 62 encI b.code] := rfl
  clear e1 e52 e53 e54
  have envE : Has (envOf [(1, .fp (encC c)), (52, recs 65 encBo c.bodies), (53, pin c.bodies.length), (54, pin i), (6, pin i), (7, .fp (encBo b))]) [(1, .fp (encC c)), (52, recs 65 encBo c.bodies), (53, pin c.bodies.length), (54, pin i), (6, pin i), (7, .fp (encBo b))] := Has.env (by simp)
  generalize envOf [(1, .fp (encC c)), (52, recs 65 encBo c.bodies), (53, pin c.bodies.length), (54, pin i), (6, pin i), (7, .fp (encBo b))] = E at envE ⊢
  obtain ⟨e1, e52, e53, e54, e6, e7, -⟩ := envE
  have e7' := e7
  rw [hbc] at e7'
  refine PC_seq (PW_ok _ ?_)
  simp [e1, e6, e7']
  refine (named_ok (s := b.name)).runk ?_
  cases n1 : namedB b.name with
  | false =>
   rw [stop (hhead (by simp only [headB, n1, Bool.false_and]))]
   simp [e1, e6, e7', hres]
   exact .same rfl
  | true =>
   by_cases a0 : b.args < 0
   ·rw [stop (hhead (by simp only [headB, show ¬ 0 ≤ b.args by omega, decide_false, Bool.false_and, Bool.and_false]))]
    simp [e1, e6, e7', hres, a0]
    exact .same rfl
   by_cases a1 : b.regs < b.args
   ·rw [stop (hhead (by simp only [headB, show ¬ b.args ≤ b.regs by omega, decide_false, Bool.false_and, Bool.and_false]))]
    simp [e1, e6, e7', hres, a0, a1]
    exact .same rfl
   by_cases a2 : i = 0 ∧ 0 < b.args
   ·obtain ⟨a2, a3⟩ := a2
    have a2' : (i : Int) = 0 := by omega
    rw [stop (hhead (by simp only [headB, a2, show ¬ b.args ≤ 0 by omega, decide_false, ne_eq, not_true_eq_false, Bool.false_or, Bool.false_and, Bool.and_false]))]
    simp [e1, e6, e7', hres, a0, a1, a2, a2', a3]
    exact .same rfl
   have a3 : (i = 0 ∧ ¬ 0 < b.args) ∨ ¬ i = 0 := by omega
   by_cases a4 : b.code.length = 0
   ·have a4' : b.code = [] := List.eq_nil_of_length_eq_zero a4
    rw [stop (hhead (by simp only [headB, a4', List.isEmpty_nil, Bool.not_true, Bool.and_false]))]
    rcases a3 with ⟨a3, a5⟩ | a3
    ·have a3' : (i : Int) = 0 := by omega
     simp [e1, e6, e7', hres, a0, a1, a3, a3', a5, a4, a4', recs]
     exact .same rfl
    ·have a3' : ¬ (i : Int) = 0 := by omega
     simp [e1, e6, e7', hres, a0, a1, a3, a3', a4, a4', recs]
     exact .same rfl
   have a4' : ¬ (b.code.length : Int) = 0 := by omega
   have a4'' : b.code ≠ [] := fun h => a4 (by rw [h]; rfl)
   have hgood : headB b i = true := by
    have : (decide (i ≠ 0) || decide (b.args ≤ 0)) = true := by simp; omega
    simp only [headB, n1, show 0 ≤ b.args by omega, show b.args ≤ b.regs by omega, this, decide_true, Bool.true_and]
    simpa using a4''
   obtain ⟨j, hj⟩ : ∃ j, b.code.length = j + 1 := ⟨b.code.length - 1, by omega⟩
   have hjl : j < b.code.length := by omega
   have hwj : IntKind.wrap .i64 ((b.code.length : Int) - 1) = j := by rw [wrap64 (by omega) (by omega)]; omega
   have hjj : (j : Int) < b.code.length := by omega
   have hcj := cutI hjl
   have hlast : lastOp b.code = b.code[j].op := by
    rw [lastOp_at (by omega)]; congr 1; congr 1; omega
   obtain ⟨tl, hx, htl⟩ : ∃ tl, encI b.code[j] = pin (lastOp b.code) :: tl ∧ tl.length = 6 := ⟨_, by rw [hlast]; rfl, rfl⟩
   rw [hx] at hcj
   have hbig : big b.code.length := by unfold big; omega
   have a5 : ∀ {E' : PEnv}, Has E' [(1, .fp (encC c)), (52, recs 65 encBo c.bodies), (53, pin c.bodies.length), (54, pin i), (6, pin i), (7, .fp (encBo b))] → True := fun _ => trivial
   rcases a3 with ⟨a3, a6⟩ | a3
   ·have a3' : (i : Int) = 0 := by omega
    simp [e1, e6, e7', hres, a0, a1, a3, a3', a6, a4, a4', a4'', recs]
    refine PC_seq (PC_seq (PW_ok _ ?_))
    simp [e1, e52, e53, e54, e6, e7', recs, hwj, hjj, hcj, htl]
    refine PW_ok _ ?_
    by_cases o1 : lastOp b.code = 22
    ·have hop : (decide (lastOp b.code = 22) || decide (lastOp b.code = 19)) = true := by simp [o1]
     simp [e1, e52, e53, e54, e6, e7', recs, o1]
     refine PW_ok _ ?_
     simp [e1, e52, e53, e54, e6, e7', recs]
     refine (containsIn_ok (t := 62) (l := b.code) (p := fun x => !rightS c b x) hbig (by simp [noId]) (fun x hx => wrongIns_ok (by have := k2 x hx; unfold big; omega) (by have := k3 x hx; unfold big; omega))).runk ?_
     cases hr : b.code.all (rightS c b) with
     | false =>
      have hr2 : (b.code.any fun x => !rightS c b x) = true := by rw [List.any_eq_not_all_not]; simpa using hr
      rw [hr2, stop (by simp only [bodyB, hr, Bool.and_false])]
      simp [e1, e52, e53, e54, e6, e7', hres]
      exact .same rfl
     | true =>
      have hr2 : (b.code.any fun x => !rightS c b x) = false := by rw [List.any_eq_not_all_not]; simpa using hr
      rw [hr2]
      have hgo : bodyB c b i = true := by simp only [bodyB, hgood, hop, hr, Bool.and_self]
      rw [hgo, Bool.true_and] at hf
      simp [e1, e52, e53, e54, e6, e7']
      refine PW_ok _ ?_
      simp [e1, e52, e53, e54, e6, e7', wi]
      refine GoOn.drop [(1, .fp (encC c)), (52, recs 65 encBo c.bodies), (53, pin c.bodies.length), (54, pin (i + 1 : Nat))] (m - 1) (by omega) ?_ ⟨i + 1, by omega, rfl, Has.env (by simp), hf⟩
      simp [e1, e52, e53, wi]
      exact ⟨.same (by simp [noId]), .same (by simp [noId]), .same rfl, .same rfl⟩
    by_cases o2 : lastOp b.code = 19
    ·have hop : (decide (lastOp b.code = 22) || decide (lastOp b.code = 19)) = true := by simp [o1, o2]
     simp [e1, e52, e53, e54, e6, e7', recs, o1, o2]
     refine PW_ok _ ?_
     simp [e1, e52, e53, e54, e6, e7', recs]
     refine (containsIn_ok (t := 62) (l := b.code) (p := fun x => !rightS c b x) hbig (by simp [noId]) (fun x hx => wrongIns_ok (by have := k2 x hx; unfold big; omega) (by have := k3 x hx; unfold big; omega))).runk ?_
     cases hr : b.code.all (rightS c b) with
     | false =>
      have hr2 : (b.code.any fun x => !rightS c b x) = true := by rw [List.any_eq_not_all_not]; simpa using hr
      rw [hr2, stop (by simp only [bodyB, hr, Bool.and_false])]
      simp [e1, e52, e53, e54, e6, e7', hres]
      exact .same rfl
     | true =>
      have hr2 : (b.code.any fun x => !rightS c b x) = false := by rw [List.any_eq_not_all_not]; simpa using hr
      rw [hr2]
      have hgo : bodyB c b i = true := by simp only [bodyB, hgood, hop, hr, Bool.and_self]
      rw [hgo, Bool.true_and] at hf
      simp [e1, e52, e53, e54, e6, e7']
      refine PW_ok _ ?_
      simp [e1, e52, e53, e54, e6, e7', wi]
      refine GoOn.drop [(1, .fp (encC c)), (52, recs 65 encBo c.bodies), (53, pin c.bodies.length), (54, pin (i + 1 : Nat))] (m - 1) (by omega) ?_ ⟨i + 1, by omega, rfl, Has.env (by simp), hf⟩
      simp [e1, e52, e53, wi]
      exact ⟨.same (by simp [noId]), .same (by simp [noId]), .same rfl, .same rfl⟩
    ·rw [stop (by simp only [bodyB, decide_eq_false o1, decide_eq_false o2, Bool.or_self, Bool.and_false, Bool.false_and])]
     simp [e1, e52, e53, e54, e6, e7', recs, o1, o2, hres]
     exact .same rfl
   ·have a3' : ¬ (i : Int) = 0 := by omega
    simp [e1, e6, e7', hres, a0, a1, a3, a3', a4, a4', a4'', recs]
    refine PC_seq (PC_seq (PW_ok _ ?_))
    simp [e1, e52, e53, e54, e6, e7', recs, hwj, hjj, hcj, htl]
    refine PW_ok _ ?_
    by_cases o1 : lastOp b.code = 22
    ·have hop : (decide (lastOp b.code = 22) || decide (lastOp b.code = 19)) = true := by simp [o1]
     simp [e1, e52, e53, e54, e6, e7', recs, o1]
     refine PW_ok _ ?_
     simp [e1, e52, e53, e54, e6, e7', recs]
     refine (containsIn_ok (t := 62) (l := b.code) (p := fun x => !rightS c b x) hbig (by simp [noId]) (fun x hx => wrongIns_ok (by have := k2 x hx; unfold big; omega) (by have := k3 x hx; unfold big; omega))).runk ?_
     cases hr : b.code.all (rightS c b) with
     | false =>
      have hr2 : (b.code.any fun x => !rightS c b x) = true := by rw [List.any_eq_not_all_not]; simpa using hr
      rw [hr2, stop (by simp only [bodyB, hr, Bool.and_false])]
      simp [e1, e52, e53, e54, e6, e7', hres]
      exact .same rfl
     | true =>
      have hr2 : (b.code.any fun x => !rightS c b x) = false := by rw [List.any_eq_not_all_not]; simpa using hr
      rw [hr2]
      have hgo : bodyB c b i = true := by simp only [bodyB, hgood, hop, hr, Bool.and_self]
      rw [hgo, Bool.true_and] at hf
      simp [e1, e52, e53, e54, e6, e7']
      refine PW_ok _ ?_
      simp [e1, e52, e53, e54, e6, e7', wi]
      refine GoOn.drop [(1, .fp (encC c)), (52, recs 65 encBo c.bodies), (53, pin c.bodies.length), (54, pin (i + 1 : Nat))] (m - 1) (by omega) ?_ ⟨i + 1, by omega, rfl, Has.env (by simp), hf⟩
      simp [e1, e52, e53, wi]
      exact ⟨.same (by simp [noId]), .same (by simp [noId]), .same rfl, .same rfl⟩
    by_cases o2 : lastOp b.code = 19
    ·have hop : (decide (lastOp b.code = 22) || decide (lastOp b.code = 19)) = true := by simp [o1, o2]
     simp [e1, e52, e53, e54, e6, e7', recs, o1, o2]
     refine PW_ok _ ?_
     simp [e1, e52, e53, e54, e6, e7', recs]
     refine (containsIn_ok (t := 62) (l := b.code) (p := fun x => !rightS c b x) hbig (by simp [noId]) (fun x hx => wrongIns_ok (by have := k2 x hx; unfold big; omega) (by have := k3 x hx; unfold big; omega))).runk ?_
     cases hr : b.code.all (rightS c b) with
     | false =>
      have hr2 : (b.code.any fun x => !rightS c b x) = true := by rw [List.any_eq_not_all_not]; simpa using hr
      rw [hr2, stop (by simp only [bodyB, hr, Bool.and_false])]
      simp [e1, e52, e53, e54, e6, e7', hres]
      exact .same rfl
     | true =>
      have hr2 : (b.code.any fun x => !rightS c b x) = false := by rw [List.any_eq_not_all_not]; simpa using hr
      rw [hr2]
      have hgo : bodyB c b i = true := by simp only [bodyB, hgood, hop, hr, Bool.and_self]
      rw [hgo, Bool.true_and] at hf
      simp [e1, e52, e53, e54, e6, e7']
      refine PW_ok _ ?_
      simp [e1, e52, e53, e54, e6, e7', wi]
      refine GoOn.drop [(1, .fp (encC c)), (52, recs 65 encBo c.bodies), (53, pin c.bodies.length), (54, pin (i + 1 : Nat))] (m - 1) (by omega) ?_ ⟨i + 1, by omega, rfl, Has.env (by simp), hf⟩
      simp [e1, e52, e53, wi]
      exact ⟨.same (by simp [noId]), .same (by simp [noId]), .same rfl, .same rfl⟩
    ·rw [stop (by simp only [bodyB, decide_eq_false o1, decide_eq_false o2, Bool.or_self, Bool.and_false, Bool.false_and])]
     simp [e1, e52, e53, e54, e6, e7', recs, o1, o2, hres]
     exact .same rfl
def kindCh (ch : UInt8) : Int :=
 if ch = 114 then 1 else if ch = 82 then 2 else if ch = 103 then 6 else if ch = 98 then 8 else if ch = 112 then 7 else if ch = 100 then 9 else if ch = 107 then 10 else if ch = 110 then 5 else 0
def okCh (ch : UInt8) : Bool := [114, 82, 103, 98, 112, 100, 107, 110, 48].contains ch
set_option maxRecDepth 8000 in
set_option maxHeartbeats 8000000 in
theorem fieldR_ok {c : FCode} {b : FBody} {ch : UInt8} {n : Int} (h : okCh ch = true) : PPd (.fn 97 [] []) [.agg (encC c), .agg (encBo b), .v (.int .u8 ch.toNat), pin n] (pbool (kindB c b (kindCh ch) n)) := by
 have hh : ch = 114 ∨ ch = 82 ∨ ch = 103 ∨ ch = 98 ∨ ch = 112 ∨ ch = 100 ∨ ch = 107 ∨ ch = 110 ∨ ch = 48 := by simpa [okCh] using h
 refine PP_code rfl rfl rfl (by simp) (by simp [noId]) (by simp) (PW_ok _ ?_)
 rcases hh with rfl | rfl | rfl | rfl | rfl | rfl | rfl | rfl | rfl
 ·by_cases h : 0 ≤ n <;> simp [ir97, kindB, kindCh, encC, encBo, recs, h] <;> exact .same rfl
 ·by_cases h : -1 ≤ n <;> simp [ir97, kindB, kindCh, encC, encBo, recs, h] <;> exact .same rfl
 ·by_cases h : 0 ≤ n <;> simp [ir97, kindB, kindCh, encC, encBo, recs, h] <;> exact .same rfl
 ·by_cases h : 0 ≤ n <;> simp [ir97, kindB, kindCh, encC, encBo, recs, h] <;> exact .same rfl
 ·by_cases h : 0 ≤ n <;> simp [ir97, kindB, kindCh, encC, encBo, recs, h] <;> exact .same rfl
 ·by_cases h : n = 0 <;> simp [ir97, kindB, kindCh, encC, encBo, recs, h] <;> exact .same rfl
 ·by_cases h : 1 ≤ n <;> simp [ir97, kindB, kindCh, encC, encBo, recs, h] <;> exact .same rfl
 ·simp [ir97, kindB, kindCh]; exact .same rfl
 ·simp [ir97, kindB, kindCh]; exact .same rfl
def normK (k : Int) : Int := if k = 3 then 1 else if k = 4 then 2 else k
theorem kindB_norm {c : FCode} {b : FBody} {k n : Int} : kindB c b (normK k) n = kindB c b k n := by
 unfold normK
 by_cases h3 : k = 3
 ·subst h3; rfl
 by_cases h4 : k = 4
 ·subst h4; rfl
 rw [if_neg h3, if_neg h4]
theorem fld_len {n : Nat} (hn : n < 38) : ∃ a b c d, fldN n = [a, b, c, d] := by
 have h : ∀ n, n < 38 → (fldN n).length = 4 := by decide
 have := h n hn
 match hf : fldN n with
 | [a, b, c, d] => exact ⟨a, b, c, d, rfl⟩
 | [] | [_] | [_, _] | [_, _, _] | _ :: _ :: _ :: _ :: _ :: _ => rw [hf] at this; simp at this
theorem fld_kind {n k : Nat} (hn : n < 38) (h1 : 1 ≤ n) (hk : k < 4) : kindCh ((fldN n).getD k 0) = normK (kindAt (ruleN n) k) ∧ okCh ((fldN n).getD k 0) = true := by
 have h : ∀ n, n < 38 → 1 ≤ n → ∀ k, k < 4 → kindCh ((fldN n).getD k 0) = normK (kindAt (ruleN n) k) ∧ okCh ((fldN n).getD k 0) = true := by decide
 exact h n hn h1 k hk
theorem texts_okB {n : Nat} (hn : n < 38) : ∀ t ∈ textN n, t.all okByte = true := by
 have h : ∀ n, n < 38 → (textN n).all (fun t => t.all okByte) = true := by decide
 have := h n hn
 rw [List.all_eq_true] at this
 exact this
theorem textS_eq {i : FIns} {n : Nat} (hop : i.op = n) (hn : n < 38) : textS i = (i.text.all okByte && (decide (i.op = 36) || (if (textN n).isEmpty then decide (i.text = []) else decide (i.text ∈ textN n)))) := by
 have hop' : i.op.toNat = n := by omega
 unfold textS
 by_cases h36 : i.op = 36
 ·simp [h36]
 ·simp only [h36, if_false, hop', decide_false, Bool.false_or]
  by_cases he : (textN n).isEmpty = true
  ·simp only [he, if_true]
   by_cases ht : i.text = []
   ·simp [ht]
   ·simp [ht]
  ·simp only [he, if_false]
   by_cases ht : i.text ∈ textN n
   ·simp [ht, texts_okB hn _ ht]
   ·simp [ht]
def InJ1 (c : FCode) (b : FBody) (i : FIns) (m : Nat) (E : PEnv) (L : List LObj) : Prop := ∃ k : Nat, k + m = i.text.length ∧ L = [] ∧
 Has E [(3, .fp (encC c)), (4, .fp (encBo b)), (5, .fp (encI i)), (8, pin k)] ∧ ∀ x ∈ i.text.take k, (!okByte x) = false
def InJ2 (c : FCode) (b : FBody) (i : FIns) (m : Nat) (E : PEnv) (L : List LObj) : Prop := ∃ k : Nat, k + m = i.list.length ∧ L = [] ∧
 Has E [(3, .fp (encC c)), (4, .fp (encBo b)), (5, .fp (encI i)), (12, pin k)] ∧ ∀ x ∈ i.list.take k, (!kindB c b 1 x) = false
theorem encI_parts (i : FIns) : List.drop 1 (encI i) = [pin i.a, pin i.b, pin i.c, pin i.d, pstr i.text, ints 3 i.list] ∧ List.drop 2 (encI i) = [pin i.b, pin i.c, pin i.d, pstr i.text, ints 3 i.list] ∧
  List.drop 3 (encI i) = [pin i.c, pin i.d, pstr i.text, ints 3 i.list] ∧ List.drop 4 (encI i) = [pin i.d, pstr i.text, ints 3 i.list] ∧ List.drop 5 (encI i) = [pstr i.text, ints 3 i.list] ∧ List.drop 6 (encI i) = [ints 3 i.list] := ⟨rfl, rfl, rfl, rfl, rfl, rfl⟩
def cList : ICode := match ir82.body with | .seq _ (.seq _ (.seq _ (.seq _ (.seq _ (.seq _ c))))) => c | _ => .skip
def InQ (p : Bool) : Ex → PEnv → List LObj → Prop := fun x E' L' => (x = .norm ∨ x = .ret) ∧ ∃ ps, press E' L' ir82.results = some ps ∧ Vw [] L' (pone1 ps) (pbool p)
set_option maxRecDepth 8000 in
set_option maxHeartbeats 8000000 in
theorem instr_list {c : FCode} {b : FBody} {i : FIns} {E : PEnv} (hi : (i.op = 21 ∨ i.op = 27) → 0 ≤ i.b) (hb : big i.list.length) (hbt : big i.text.length) (h : Has E [(3, .fp (encC c)), (4, .fp (encBo b)), (5, .fp (encI i))]) :
  PC FD XA XN 0 cList (InQ (listS c b i)) E [] := by
 obtain ⟨e3, e4, e5, -⟩ := h
 have hres : ir82.results = [.tmp 6] := rfl
 have ht : List.take 2 (encC c) = encC c := rfl
 have ht4 : List.take 4 (encBo b) = encBo b := rfl
 have ht7 : List.take 7 (encI i) = encI i := rfl
 obtain ⟨d1, d2, d3, d4, d5, d6⟩ := encI_parts i
 unfold cList
 refine PC_seq (PW_ok _ ?_)
 simp [e3, e4, e5, ht, ht7]
 refine (length_ok (c := c) (i := i) hi hbt).runk ?_
 simp [pairI]
 refine PC_seq (PW_ok _ ?_)
 by_cases h1 : (i.list.length : Int) < (lenS c i).1
 ·have hs : listS c b i = false := by simp only [listS, show ¬ (lenS c i).1 ≤ i.list.length by omega, decide_false, Bool.false_and]
  rw [hs]
  simp [e3, e4, e5, d6, ints, h1, InQ, hres]
  exact .same rfl
 by_cases h2 : (lenS c i).2 < i.list.length
 ·have hs : listS c b i = false := by simp only [listS, show ¬ (i.list.length : Int) ≤ (lenS c i).2 by omega, decide_false, Bool.and_false, Bool.false_and]
  rw [hs]
  simp [e3, e4, e5, d6, ints, h1, h2, InQ, hres]
  exact .same rfl
 have hs : listS c b i = i.list.all fun n => kindB c b 1 n := by simp only [listS, show (lenS c i).1 ≤ i.list.length by omega, show (i.list.length : Int) ≤ (lenS c i).2 by omega, decide_true, Bool.true_and]
 rw [hs]
 simp [e3, e4, e5, d6, ints, h1, h2]
 refine PW_ok _ ?_
 simp
 refine PC_loopG (InJ2 c b i) ?_ (k := i.list.length) ⟨0, by simp, rfl, by simp [e3, e4, e5], fun x hx => by simp at hx⟩
 clear e3 e4 e5
 rintro m E L ⟨k, hkm, rfl, ⟨e3, e4, e5, e12, -⟩, hk⟩
 by_cases hkl : k < i.list.length
 case neg =>
  have hke : k = i.list.length := by omega
  subst hke
  rw [List.take_length] at hk
  have : (i.list.all fun n => kindB c b 1 n) = true := by
   rw [List.all_eq_true]; intro x hx; simpa using hk x hx
  rw [this]
  simp [e3, e4, e5, e12, d6, ints, InQ, hres]
  exact .same rfl
 have hch : kindCh 114 = 1 := rfl
 have hf := (fieldR_ok (c := c) (b := b) (ch := 114) (n := i.list[k]) rfl)
 rw [hch] at hf
 simp [e3, e4, e5, e12, hkl, d6, ints, ht, ht4, cut1 hkl]
 refine hf.runk ?_
 cases hx : kindB c b 1 i.list[k] with
 | false =>
  have : (i.list.all fun n => kindB c b 1 n) = false := by rw [List.all_eq_false]; exact ⟨_, List.getElem_mem hkl, by simp [hx]⟩
  rw [this]
  simp [e3, e4, e5, e12, InQ, hres]
  exact .same rfl
 | true =>
  simp [e3, e4, e5, e12, wrap_inc hkl hb]
  exact GoOn.same (m - 1) (by omega) ⟨k + 1, by omega, rfl, by simp [e3, e4, e5], take_next (p := fun x => !kindB c b 1 x) hkl hk (by show (!kindB c b 1 i.list[k]) = false; simp only [hx, Bool.not_true])⟩
def cIText : ICode := match ir82.body with | .seq _ (.seq _ (.seq _ (.seq _ (.seq c _)))) => c | _ => .skip
def cITexts : ICode := match ir82.body with | .seq _ (.seq _ (.seq _ (.seq _ (.seq _ (.seq c _))))) => c | _ => .skip
set_option maxRecDepth 8000 in
set_option maxHeartbeats 8000000 in
theorem instr_texts {c : FCode} {b : FBody} {i : FIns} {E : PEnv} {n : Nat} {p : Bool} (hop : i.op = n) (hn : n < 38) (hi : (i.op = 21 ∨ i.op = 27) → 0 ≤ i.b) (hb : big i.list.length) (hbt : big i.text.length) (h : Has E [(3, .fp (encC c)), (4, .fp (encBo b)), (5, .fp (encI i))])
  (hp : p = (decide (i.op = 36) || (if (textN n).isEmpty then decide (i.text = []) else decide (i.text ∈ textN n)))) :
  PC FD XA XN 0 (.seq cITexts cList) (InQ (p && listS c b i)) E [] := by
 obtain ⟨e3, e4, e5, -⟩ := h
 have hres : ir82.results = [.tmp 6] := rfl
 obtain ⟨d1, d2, d3, d4, d5, d6⟩ := encI_parts i
 obtain ⟨tl, hd0⟩ : ∃ tl, encI i = pin n :: tl := ⟨_, by rw [← hop]; rfl⟩
 have last : ∀ {E' : PEnv}, E'.get 3 = some (.fp (encC c)) → E'.get 4 = some (.fp (encBo b)) → E'.get 5 = some (.fp (encI i)) → p = true → PC FD XA XN 0 cList (InQ (p && listS c b i)) E' [] := fun a1 a2 a3 a4 => by
  rw [a4, Bool.true_and]
  exact instr_list hi hb hbt ⟨a1, a2, a3, trivial⟩
 have e5' := e5
 rw [hd0] at e5'
 have hd5' : List.drop 5 (pin n :: tl) = [pstr i.text, ints 3 i.list] := by rw [← hd0]; exact d5
 have hd5'' : List.drop 4 tl = [pstr i.text, ints 3 i.list] := hd5'
 have htl : tl.length = 6 := by have := congrArg List.length hd0; simpa using this.symm
 refine PC_seq ?_
 unfold cITexts
 refine PC_seq (PW_ok _ ?_)
 simp [e3, e4, e5']
 cases he : (textN n).isEmpty with
 | true =>
  have htx := texts_ok hn
  rw [he, if_pos rfl] at htx
  rw [he, if_pos rfl] at hp
  refine htx.runk ?_
  simp
  refine PW_ok _ ?_
  by_cases h36 : n = 36
  ·subst h36
   simp [e3, e4, e5']
   exact last (by simp [e3]) (by simp [e4]) (by simp [e5', hd0]) (by simp [hp, hop])
  have h36' : ¬ (n : Int) = 36 := by omega
  have h36'' : ¬ i.op = 36 := by omega
  by_cases ht : i.text = []
  ·have hte : i.text.isEmpty = true := by simp [ht]
   simp [e3, e4, e5', h36', hd5', hd5'', hte, ht, htl, arithStr, lit_toList]
   exact last (by simp [e3]) (by simp [e4]) (by simp [e5', hd0]) (by simp [hp, ht])
  ·have hte : i.text.isEmpty = false := by simpa using ht
   have hpf : p = false := by simp [hp, h36'', ht]
   rw [hpf]
   simp [e3, e4, e5', h36', hd5', hd5'', hte, ht, htl, arithStr, lit_toList, InQ, hres]
   exact .same rfl
 | false =>
  have h36 : ¬ n = 36 := by rintro rfl; cases he
  have h36' : ¬ (n : Int) = 36 := by omega
  have h36'' : ¬ i.op = 36 := by omega
  have htx := texts_ok hn
  rw [he, if_neg (by simp)] at htx
  rw [he, if_neg (by simp)] at hp
  refine htx.runk ?_
  simp
  refine PW_ok _ ?_
  have hpos : 0 < (textN n).length := List.length_pos_iff.2 (by simpa using he)
  have hpos' : (0 : Int) < (textN n).length := by omega
  have hne : ¬ ((textN n).length : Int) = 0 := by omega
  have hne' : textN n ≠ [] := by simpa using he
  simp [e3, e4, e5', h36', hd5', hd5'', htl, hpos, hpos', hne, hne', arithStr, lit_toList, strs]
  have hs : PV.fz 9 (textN n).length ((textN n).map pstr) = strs 9 (textN n) := rfl
  rw [hs]
  refine (hasS_ok (t := 9) (l := textN n) (s := i.text) (by have := texts_len hn; unfold big; omega)).runk ?_
  by_cases ht : i.text ∈ textN n
  ·simp [ht, e3, e4, e5']
   exact last (by simp [e3]) (by simp [e4]) (by simp [e5', hd0]) (by simp [hp, ht])
  ·have hpf : p = false := by simp [hp, h36'', ht]
   rw [hpf]
   simp [ht, e3, e4, e5', InQ, hres]
   exact .same rfl
end Go.Den
/- Right instructions, by the reference: all of it. -/
namespace Go.Den
open IrD
attribute [local irreducible] T.get T.set
set_option maxRecDepth 8000 in
set_option maxHeartbeats 8000000 in
theorem instr_rest {c : FCode} {b : FBody} {i : FIns} {E : PEnv} {n : Nat} (hop : i.op = n) (hn : n < 38) (hi : (i.op = 21 ∨ i.op = 27) → 0 ≤ i.b) (hb : big i.list.length) (hbt : big i.text.length) (h : Has E [(3, .fp (encC c)), (4, .fp (encBo b)), (5, .fp (encI i))]) :
  PC FD XA XN 0 (.seq cIText (.seq cITexts cList)) (InQ (textS i && listS c b i)) E [] := by
 obtain ⟨e3, e4, e5, -⟩ := h
 have hres : ir82.results = [.tmp 6] := rfl
 have hts := textS_eq hop hn
 generalize hp : (decide (i.op = 36) || (if (textN n).isEmpty then decide (i.text = []) else decide (i.text ∈ textN n))) = p at hts
 obtain ⟨d1, d2, d3, d4, d5, d6⟩ := encI_parts i
 generalize hq : textS i = q at *
 refine PC_seq ?_
 unfold cIText
 refine PC_seq (PW_ok _ ?_)
 simp
 refine PC_block (PC_loopG (InJ1 c b i) ?_ (k := i.text.length) ⟨0, by simp, rfl, by simp [e3, e4, e5], fun x hx => by simp at hx⟩)
 clear e3 e4 e5
 rintro m E L ⟨k, hkm, rfl, ⟨e3, e4, e5, e8, -⟩, hk⟩
 by_cases hkl : k < i.text.length
 case neg =>
  have hke : k = i.text.length := by omega
  subst hke
  rw [List.take_length] at hk
  have hall : i.text.all okByte = true := by rw [List.all_eq_true]; intro x hx; simpa using hk x hx
  rw [hall, Bool.true_and] at hts
  simp [e3, e4, e5, e8, d5]
  rw [hts]
  exact instr_texts hop hn hi hb hbt ⟨by simp [e3], by simp [e4], by simp [e5], trivial⟩ hp.symm
 have hw := wrap_inc hkl hbt
 have hbad : okByte i.text[k] = false → q = false := fun h => by
  rw [hts]
  have : i.text.all okByte = false := by rw [List.all_eq_false]; exact ⟨_, List.getElem_mem hkl, by rw [h]; simp⟩
  rw [this]; rfl
 have hgo : ∀ {E' : PEnv}, okByte i.text[k] = true → Has E' [(3, .fp (encC c)), (4, .fp (encBo b)), (5, .fp (encI i)), (8, pin (k + 1 : Nat))] → GoOn (InJ1 c b i) m E' [] := fun h hh =>
  GoOn.same (m - 1) (by omega) ⟨k + 1, by omega, rfl, hh, take_next (p := fun x => !okByte x) hkl hk (by show (!okByte i.text[k]) = false; simp only [h, Bool.not_true])⟩
 generalize hx : i.text[k] = x at *
 by_cases x0 : x.toNat = 0
 ·have x0' : (x.toNat : Int) = 0 := by omega
  simp [e3, e4, e5, e8, hkl, d5, hx, x0, x0', hw]
  exact hgo (okByte_t (.inl x0)) (by simp [e3, e4, e5])
 have x0' : ¬ (x.toNat : Int) = 0 := by omega
 by_cases x1 : x.toNat < 32
 ·have x1' : (x.toNat : Int) < 32 := by omega
  rw [hbad (okByte_f (by omega))]
  simp [e3, e4, e5, e8, hkl, d5, hx, x0, x0', x1, x1', InQ, hres]
  exact .same rfl
 have x1' : ¬ (x.toNat : Int) < 32 := by omega
 by_cases x2 : 126 < x.toNat
 ·have x2' : 126 < (x.toNat : Int) := by omega
  rw [hbad (okByte_f (by omega))]
  simp [e3, e4, e5, e8, hkl, d5, hx, x0, x0', x1, x1', x2, x2', InQ, hres]
  exact .same rfl
 have x2' : ¬ 126 < (x.toNat : Int) := by omega
 simp [e3, e4, e5, e8, hkl, d5, hx, x0, x0', x1, x1', x2, x2', hw]
 exact hgo (okByte_t (by omega)) (by simp [e3, e4, e5])
set_option maxRecDepth 8000 in
set_option maxHeartbeats 8000000 in
theorem instruction_ok {c : FCode} {b : FBody} {i : FIns} (hb : big i.list.length) (hbt : big i.text.length) : PPd (.fn 82 [] []) [.agg (encC c), .agg (encBo b), .agg (encI i)] (pbool (rightS c b i)) := by
 refine PP_code rfl rfl rfl (by simp) (by simp [noId]) (by simp) ?_
 have hres : ir82.results = [.tmp 6] := rfl
 obtain ⟨d1, d2, d3, d4, d5, d6⟩ := encI_parts i
 have ht : List.take 2 (encC c) = encC c := rfl
 have ht4 : List.take 4 (encBo b) = encBo b := rfl
 obtain ⟨tl, hd0⟩ : ∃ tl, encI i = pin i.op :: tl := ⟨_, rfl⟩
 refine PC_seq (PW_ok _ ?_)
 simp
 refine PC.abs (Abs.dropAll [(3, .fp (encC c)), (4, .fp (encBo b)), (5, .fp (encI i))] ?_) ?_
 ·simp
  refine ⟨?_, ?_, ?_⟩
  all_goals exact .fzp (by simp) rfl (by simp) (by simp) rfl rfl (fun j a b => .same (noIdL_get (by simp) j a))
 have envE : Has (envOf [(3, .fp (encC c)), (4, .fp (encBo b)), (5, .fp (encI i))]) [(3, .fp (encC c)), (4, .fp (encBo b)), (5, .fp (encI i))] := Has.env (by simp)
 generalize envOf [(3, .fp (encC c)), (4, .fp (encBo b)), (5, .fp (encI i))] = E at envE ⊢
 obtain ⟨e3, e4, e5, -⟩ := envE
 have e5' := e5
 rw [hd0] at e5'
 refine PC_seq (PW_ok _ ?_)
 by_cases o1 : i.op < 1
 ·have hs : rightS c b i = false := by simp only [rightS, show ¬ 1 ≤ i.op by omega, decide_false, Bool.false_and]
  rw [hs]
  simp [e5', o1, hres]
  exact .same rfl
 by_cases o2 : 37 < i.op
 ·have hs : rightS c b i = false := by simp only [rightS, show ¬ i.op ≤ 37 by omega, decide_false, Bool.false_and, Bool.and_false]
  rw [hs]
  simp [e5', o1, o2, hres]
  exact .same rfl
 have hs : rightS c b i = (kindsB c b i && (textS i && listS c b i)) := by simp only [rightS, show 1 ≤ i.op by omega, show i.op ≤ 37 by omega, decide_true, Bool.true_and, Bool.and_assoc]
 rw [hs]
 simp [e5', o1, o2]
 obtain ⟨n, hn⟩ : ∃ n : Nat, i.op = n := ⟨i.op.toNat, by omega⟩
 have hn1 : 1 ≤ n := by omega
 have hn2 : n < 38 := by omega
 have hop' : i.op.toNat = n := by omega
 refine PC_seq (PW_ok _ ?_)
 simp [e5']
 rw [hn]
 refine (flds_ok hn2).runk ?_
 simp
 obtain ⟨f0, f1, f2, f3, hf⟩ := fld_len hn2
 have q0 := fld_kind hn2 hn1 (k := 0) (by omega)
 have q1 := fld_kind hn2 hn1 (k := 1) (by omega)
 have q2 := fld_kind hn2 hn1 (k := 2) (by omega)
 have q3 := fld_kind hn2 hn1 (k := 3) (by omega)
 rw [hf] at q0 q1 q2 q3
 have p0 := fieldR_ok (c := c) (b := b) (n := i.a) q0.2
 have p1 := fieldR_ok (c := c) (b := b) (n := i.b) q1.2
 have p2 := fieldR_ok (c := c) (b := b) (n := i.c) q2.2
 have p3 := fieldR_ok (c := c) (b := b) (n := i.d) q3.2
 rw [q0.1, kindB_norm] at p0
 rw [q1.1, kindB_norm] at p1
 rw [q2.1, kindB_norm] at p2
 rw [q3.1, kindB_norm] at p3
 have hk : kindsB c b i = (kindB c b (kindAt (ruleN n) 0) i.a && kindB c b (kindAt (ruleN n) 1) i.b && kindB c b (kindAt (ruleN n) 2) i.c && kindB c b (kindAt (ruleN n) 3) i.d) := by
  simp only [kindsB, hop', kindAt]
 rw [hf]
 refine PC_seq (PW_ok _ ?_)
 have hg0 : [f0, f1, f2, f3].getD 0 0 = f0 := rfl
 have hg1 : [f0, f1, f2, f3].getD 1 0 = f1 := rfl
 have hg2 : [f0, f1, f2, f3].getD 2 0 = f2 := rfl
 have hg3 : [f0, f1, f2, f3].getD 3 0 = f3 := rfl
 rw [hg0] at p0
 rw [hg1] at p1
 rw [hg2] at p2
 rw [hg3] at p3
 simp [e3, e4, e5, ht, ht4, d1]
 refine p0.runj ?_
 cases k0 : kindB c b (kindAt (ruleN n) 0) i.a with
 | false =>
  have : kindsB c b i = false := by rw [hk, k0]; rfl
  rw [this]
  simp [hres]
  exact .same rfl
 | true =>
  simp [e3, e4, e5, ht, ht4, d2]
  refine p1.runj ?_
  cases k1 : kindB c b (kindAt (ruleN n) 1) i.b with
  | false =>
   have : kindsB c b i = false := by rw [hk, k0, k1]; rfl
   rw [this]
   simp [hres]
   exact .same rfl
  | true =>
   simp [e3, e4, e5, ht, ht4, d3]
   refine p2.runj ?_
   cases k2 : kindB c b (kindAt (ruleN n) 2) i.c with
   | false =>
    have : kindsB c b i = false := by rw [hk, k0, k1, k2]; rfl
    rw [this]
    simp [hres]
    exact .same rfl
   | true =>
    simp [e3, e4, e5, ht, ht4, d4]
    refine p3.runk ?_
    cases k3 : kindB c b (kindAt (ruleN n) 3) i.d with
    | false =>
     have : kindsB c b i = false := by rw [hk, k0, k1, k2, k3]; rfl
     rw [this]
     simp [hres]
     exact .same rfl
    | true =>
     have : kindsB c b i = true := by rw [hk, k0, k1, k2, k3]; rfl
     rw [this, Bool.true_and]
     simp
     refine instr_rest hn hn2 ?_ hb hbt ⟨by simp [e3], by simp [e4], by simp [e5], trivial⟩
     rintro (h | h)
     ·have hn21 : n = 21 := by omega
      subst hn21
      have h2 : kindB c b 8 i.b = true := k1
      have : 0 ≤ i.b ∧ i.b < c.bodies.length := by simpa [kindB] using h2
      exact this.1
     ·have hn27 : n = 27 := by omega
      subst hn27
      have h2 : kindB c b 8 i.b = true := k1
      have : 0 ≤ i.b ∧ i.b < c.bodies.length := by simpa [kindB] using h2
      exact this.1
end Go.Den
/- Check, by the reference. -/
namespace Go.Den
open IrD
attribute [local irreducible] T.get T.set
def CrJ1 (c : FCode) (m : Nat) (E : PEnv) (L : List LObj) : Prop := ∃ i : Nat, i + m = c.bodies.length ∧ L = [] ∧ Has E [(1, .fp (encC c)), (3, pin (totalI (c.bodies.take i))), (4, pin i)] ∧ ∀ b ∈ c.bodies.take i, decide (5000 < b.regs) = false
def CrJ2 (c : FCode) (m : Nat) (E : PEnv) (L : List LObj) : Prop := ∃ i : Nat, i + m = c.bodies.length ∧ L = [] ∧ Has E [(1, .fp (encC c)), (5, pin i)] ∧ bodiesFrom c 0 c.bodies = bodiesFrom c i (c.bodies.drop i)
def CrJ3 (c : FCode) (b : FBody) (i m : Nat) (E : PEnv) (L : List LObj) : Prop := ∃ k : Nat, k + m = b.code.length ∧ L = [] ∧ Has E [(1, .fp (encC c)), (5, pin i), (6, .fp (encBo b)), (8, pin k)] ∧ ∀ x ∈ b.code.take k, (!rightS c b x) = false
set_option maxRecDepth 8000 in
set_option maxHeartbeats 8000000 in
theorem checkR_ok {c : FCode} (hc : OkC c) : PPd (.fn 70 [] []) [.agg (encC c)] (pin (checkS c)) := by
 have hbl := hc.bodies
 have hb : big c.bodies.length := by unfold big; omega
 have hd1 : List.drop 1 (encC c) = [recs 65 encBo c.bodies] := rfl
 have hres : ir70.results = [.tmp 2] := rfl
 obtain ⟨cl, hE0, hcl⟩ : ∃ cl, encC c = pin c.globals :: cl ∧ cl.length = 1 := ⟨_, rfl, rfl⟩
 have bad : countB c = false → checkS c = 5 := fun h => by simp only [checkS, h]; rfl
 have htl := totalI_le (l := c.bodies) (fun b hb => hc.code b hb)
 refine PP_code rfl rfl rfl (by simp) (by simp [noId]) (by simp) ?_
 refine PC_seq (PW_ok _ ?_)
 simp
 refine PC.abs (Abs.dropAll [(1, .fp (encC c))] ?_) ?_
 ·simp
  exact .fzp (by simp) rfl (by simp) (by simp) rfl rfl (fun j a b => .same (noIdL_get (by simp) j a))
 have envE : Has (envOf [(1, .fp (encC c))]) [(1, .fp (encC c))] := Has.env (by simp)
 generalize envOf [(1, .fp (encC c))] = E at envE ⊢
 obtain ⟨e1, -⟩ := envE
 have e1' := e1
 rw [hE0] at e1'
 have hd1' : List.drop 1 (pin c.globals :: cl) = [recs 65 encBo c.bodies] := by rw [← hE0]; rfl
 have hd1'' : cl = [recs 65 encBo c.bodies] := hd1'
 refine PC_seq (PW_ok _ ?_)
 by_cases h1 : c.bodies.length = 0
 ·rw [bad (by simp only [countB, show ¬ 1 ≤ c.bodies.length by omega, decide_false, Bool.false_and])]
  have h1' : (c.bodies.length : Int) = 0 := by omega
  have h1'' : c.bodies = [] := List.eq_nil_of_length_eq_zero h1
  simp [e1, hd1, recs, h1, h1', h1'', hres]
  exact .same rfl
 have h1' : ¬ (c.bodies.length : Int) = 0 := by omega
 have h1'' : c.bodies ≠ [] := fun h => h1 (by rw [h]; rfl)
 by_cases h2 : (800 : Int) < c.bodies.length
 ·rw [bad (by simp only [countB, show ¬ c.bodies.length ≤ 800 by omega, decide_false, Bool.and_false, Bool.false_and])]
  simp [e1, hd1, recs, h1, h1', h1'', h2, hres]
  exact .same rfl
 by_cases h4 : c.globals < 0
 ·rw [bad (by simp only [countB, show ¬ 0 ≤ c.globals by omega, decide_false, Bool.and_false, Bool.false_and])]
  simp [e1', hd1'', recs, h1, h1', h1'', h2, h4, hres]
  exact .same rfl
 by_cases h5 : 1000 < c.globals
 ·rw [bad (by simp only [countB, show ¬ c.globals ≤ 1000 by omega, decide_false, Bool.and_false, Bool.false_and])]
  simp [e1', hd1'', recs, h1, h1', h1'', h2, h4, h5, hres]
  exact .same rfl
 simp [e1', hd1'', recs, h1, h1', h1'', h2, h4, h5]
 refine PC_seq (PW_ok _ ?_)
 simp
 refine PC_seq (PC_seq (PW_ok _ ?_))
 simp
 have eqC : ∀ l, List.flatMap encBo l = List.flatMap encBo l := fun _ => rfl
 refine PC_block (PC_loopG (CrJ1 c) ?_ (k := c.bodies.length) ⟨0, by simp, rfl, by simp [e1, totalI], fun b hb => by simp at hb⟩)
 clear e1 e1'
 rintro m E L ⟨i, him, rfl, ⟨e1, e3, e4, -⟩, hn⟩
 by_cases hi : i < c.bodies.length
 ·have hcut := cutBo hi
  have k1 := hc.code _ (List.getElem_mem hi)
  have k2 := totalI_le (l := c.bodies.take i) (fun b hb => hc.code b (List.mem_of_mem_take hb))
  have k3 : (c.bodies.take i).length ≤ 1000000 := by simp; omega
  have hw : IntKind.wrap .i64 ((totalI (c.bodies.take i) : Int) + (c.bodies[i].code.length : Int)) = ((totalI (c.bodies.take (i + 1)) : Nat) : Int) := by
   rw [totalI_take hi, wrap64 (by omega) (by omega)]; simp
  by_cases hr : 5000 < c.bodies[i].regs
  ·have hcnt : countB c = false := by
    have : (c.bodies.all fun b => decide (b.regs ≤ 5000)) = false := by
     rw [List.all_eq_false]; exact ⟨_, List.getElem_mem hi, by simp; omega⟩
    simp only [countB, this, Bool.and_false]
   rw [bad hcnt]
   simp [e1, e3, e4, hi, hd1, recs, hcut, encBo, hw, hr, hres]
   exact .same rfl
  ·simp [e1, e3, e4, hi, hd1, recs, hcut, encBo, hw, hr, wrap_inc hi hb]
   exact GoOn.same (m - 1) (by omega) ⟨i + 1, by omega, rfl, by simp [e1], take_next (p := fun b => decide (5000 < b.regs)) hi hn (by simpa using hr)⟩
 have hie : i = c.bodies.length := by omega
 subst hie
 rw [List.take_length] at e3 hn
 simp [e1, e3, e4, hd1, recs]
 clear him
 refine PC_seq (PW_ok _ ?_)
 by_cases h3 : (20000 : Int) < totalI c.bodies
 ·rw [bad (by simp only [countB, show ¬ totalI c.bodies ≤ 20000 by omega, decide_false, Bool.and_false, Bool.false_and])]
  simp [e3, h3, hres]
  exact .same rfl
 have hcnt : countB c = true := by
  have : (c.bodies.all fun b => decide (b.regs ≤ 5000)) = true := by
   rw [List.all_eq_true]; intro b hb; have := hn b hb; simp at this ⊢; omega
  simp only [countB, this, show 1 ≤ c.bodies.length by omega, show c.bodies.length ≤ 800 by omega, show 0 ≤ c.globals by omega, show c.globals ≤ 1000 by omega, show totalI c.bodies ≤ 20000 by omega, decide_true, Bool.true_and]
 have hck : checkS c = if bodiesFrom c 0 c.bodies = true then 0 else 190 := by simp only [checkS, hcnt]; rfl
 simp [e3, h3]
 refine PC_seq (PC_seq (PW_ok _ ?_))
 simp
 refine PC_block (PC_loopH (CrJ2 c) ?_ (k := c.bodies.length) ⟨0, by simp, rfl, by simp [e1], by simp⟩)
 clear e1 e3 e4
 rintro m E L ⟨i, him, rfl, ⟨e1, e5, -⟩, hf⟩
 by_cases hi : i < c.bodies.length
 case neg =>
  have hie : i = c.bodies.length := by omega
  subst hie
  rw [List.drop_length] at hf
  have : checkS c = 0 := by rw [hck, hf]; rfl
  rw [this]
  refine PW_ok _ ?_
  simp [e1, e5, hd1, recs]
  refine PW_ok _ ?_
  simp [hres]
  exact .same rfl
 have hcut := cutBo hi
 have hdr : c.bodies.drop i = c.bodies[i] :: c.bodies.drop (i + 1) := List.drop_eq_getElem_cons hi
 have hfc : bodiesFrom c i (c.bodies[i] :: c.bodies.drop (i + 1)) = (bodyB c c.bodies[i] i && bodiesFrom c (i + 1) (c.bodies.drop (i + 1))) := rfl
 rw [hdr, hfc] at hf
 have k1 := hc.code _ (List.getElem_mem hi)
 have k2 := hc.list _ (List.getElem_mem hi)
 have k3 := hc.text _ (List.getElem_mem hi)
 have wi := wrap_inc hi hb
 generalize hbd : c.bodies[i] = b at *
 have stop : bodyB c b i = false → checkS c = 190 := fun h => by rw [hck, hf, h]; rfl
 have hhead : headB b i = false → bodyB c b i = false := fun h => by simp only [bodyB, h, Bool.false_and]
 have hbc : encBo b = [pstr b.name, pin b.regs, pin b.args, recs 62 encI b.code] := rfl
 have hps : psplice [PV.v (S []), PV.v (I 0), PV.v (I 0), PV.v (.slice none 0 0)] 0 (encBo b) = encBo b := psplice_full rfl
 have ht4 : List.take 4 (encBo b) = encBo b := rfl
 refine PC_seq (PW_ok _ ?_)
 simp [e1, e5, hi, hd1, recs]
 refine PC_seq ?_
 refine PC_block (PC_seq (PW_ok _ ?_))
 simp [e1, e5, hi, hd1, recs, hcut, hbd, hps, ht4]
 refine PC.abs (Abs.dropAll [(1, .fp (encC c)), (5, pin i), (6, .fp (encBo b))] ?_) ?_
 ·simp [e1, e5]
  exact ⟨.same (by simp [noId]), .same rfl, .fzp (by simp) rfl (by simp) (by simp) rfl rfl (fun j a b => .same (noIdL_get (by simp) j a))⟩
 clear e1 e5
 have envE : Has (envOf [(1, .fp (encC c)), (5, pin i), (6, .fp (encBo b))]) [(1, .fp (encC c)), (5, pin i), (6, .fp (encBo b))] := Has.env (by simp)
 generalize envOf [(1, .fp (encC c)), (5, pin i), (6, .fp (encBo b))] = E at envE ⊢
 obtain ⟨e1, e5, e6, -⟩ := envE
 have e6' := e6
 rw [hbc] at e6'
 refine PC_seq (PW_ok _ ?_)
 simp [e1, e5, e6']
 refine (namedR_ok (s := b.name)).runk ?_
 cases n1 : namedB b.name with
 | false =>
  rw [stop (hhead (by simp only [headB, n1, Bool.false_and]))]
  simp [e1, e5, e6', hres]
  exact .same rfl
 | true =>
  by_cases a0 : b.args < 0
  ·rw [stop (hhead (by simp only [headB, show ¬ 0 ≤ b.args by omega, decide_false, Bool.false_and, Bool.and_false]))]
   simp [e1, e5, e6', hres, a0]
   exact .same rfl
  by_cases a1 : b.regs < b.args
  ·rw [stop (hhead (by simp only [headB, show ¬ b.args ≤ b.regs by omega, decide_false, Bool.false_and, Bool.and_false]))]
   simp [e1, e5, e6', hres, a0, a1]
   exact .same rfl
  by_cases a2 : i = 0 ∧ 0 < b.args
  ·obtain ⟨a2, a3⟩ := a2
   have a2' : (i : Int) = 0 := by omega
   rw [stop (hhead (by simp only [headB, a2, show ¬ b.args ≤ 0 by omega, decide_false, ne_eq, not_true_eq_false, Bool.false_or, Bool.false_and, Bool.and_false]))]
   simp [e1, e5, e6', hres, a0, a1, a2, a2', a3]
   exact .same rfl
  have a3 : (i = 0 ∧ ¬ 0 < b.args) ∨ ¬ i = 0 := by omega
  by_cases a4 : b.code.length = 0
  ·have a4' : b.code = [] := List.eq_nil_of_length_eq_zero a4
   rw [stop (hhead (by simp only [headB, a4', List.isEmpty_nil, Bool.not_true, Bool.and_false]))]
   rcases a3 with ⟨a3, a5⟩ | a3
   ·have a3' : (i : Int) = 0 := by omega
    simp [e1, e5, e6', hres, a0, a1, a3, a3', a5, a4, a4', recs]
    exact .same rfl
   ·have a3' : ¬ (i : Int) = 0 := by omega
    simp [e1, e5, e6', hres, a0, a1, a3, a3', a4, a4', recs]
    exact .same rfl
  have a4' : ¬ (b.code.length : Int) = 0 := by omega
  have a4'' : b.code ≠ [] := fun h => a4 (by rw [h]; rfl)
  have hgood : headB b i = true := by
   have : (decide (i ≠ 0) || decide (b.args ≤ 0)) = true := by simp; omega
   simp only [headB, n1, show 0 ≤ b.args by omega, show b.args ≤ b.regs by omega, this, decide_true, Bool.true_and]
   simpa using a4''
  obtain ⟨j, hj⟩ : ∃ j, b.code.length = j + 1 := ⟨b.code.length - 1, by omega⟩
  have hjl : j < b.code.length := by omega
  have hwj : IntKind.wrap .i64 ((b.code.length : Int) - 1) = j := by rw [wrap64 (by omega) (by omega)]; omega
  have hjj : (j : Int) < b.code.length := by omega
  have hcj := cutI hjl
  have hlast : lastOp b.code = b.code[j].op := by
   rw [lastOp_at (by omega)]; congr 1; congr 1; omega
  obtain ⟨tl, hx, htl'⟩ : ∃ tl, encI b.code[j] = pin (lastOp b.code) :: tl ∧ tl.length = 6 := ⟨_, by rw [hlast]; rfl, rfl⟩
  rw [hx] at hcj
  have hbig : big b.code.length := by unfold big; omega
  have hq3 : List.drop 3 (encBo b) = [recs 62 encI b.code] := rfl
  rcases a3 with ⟨a3, a6⟩ | a3
  ·have a3' : (i : Int) = 0 := by omega
   simp [e1, e5, e6', hres, a0, a1, a3, a3', a6, a4, a4', a4'', recs]
   refine PC_seq (PC_seq (PW_ok _ ?_))
   simp [e1, e5, e6', recs, hwj, hjj, hcj, htl']
   refine PW_ok _ ?_
   by_cases o1 : lastOp b.code = 22
   ·have hop : (decide (lastOp b.code = 22) || decide (lastOp b.code = 19)) = true := by simp [o1]
    simp [e1, e5, e6', recs, o1]
    refine PC_seq (PW_ok _ ?_)
    simp
    refine PC_block (PC_loopG (CrJ3 c b i) ?_ (k := b.code.length) ⟨0, by simp, rfl, by simp [e1, e5, e6, hbc, recs], fun x hx => by simp at hx⟩)
    rintro m2 E2 L2 ⟨k, hkm, rfl, ⟨q1, q5, q6, q8, -⟩, hk⟩
    by_cases hkl : k < b.code.length
    case neg =>
     have hke : k = b.code.length := by omega
     subst hke
     rw [List.take_length] at hk
     have hall : b.code.all (rightS c b) = true := by rw [List.all_eq_true]; intro x hx; simpa using hk x hx
     have hgo : bodyB c b i = true := by simp only [bodyB, hgood, hop, hall, Bool.and_self]
     rw [hgo, Bool.true_and] at hf
     simp [q1, q5, q6, q8, hq3, recs]
     refine PW_ok _ ?_
     simp [q1, q5, q6, q8, wi]
     exact GoOn.same (m - 1) (by omega) ⟨i + 1, by omega, rfl, by simp [q1], hf⟩
    have hcutI := cutI hkl
    have ht2 : List.take 2 (encC c) = encC c := rfl
    have hwk := wrap_inc hkl hbig
    have z2 := k2 _ (List.getElem_mem hkl)
    have z3 := k3 _ (List.getElem_mem hkl)
    have ht7 : List.take 7 (encI b.code[k]) = encI b.code[k] := rfl
    simp [q1, q5, q6, q8, hkl, hq3, recs, hcutI, ht2, ht4, ht7]
    refine (instruction_ok (c := c) (b := b) (i := b.code[k]) (by unfold big; omega) (by unfold big; omega)).runk ?_
    cases hr : rightS c b b.code[k] with
    | false =>
     have hall : b.code.all (rightS c b) = false := by rw [List.all_eq_false]; exact ⟨_, List.getElem_mem hkl, by simp [hr]⟩
     rw [stop (by simp only [bodyB, hall, Bool.and_false])]
     simp [q1, q5, q6, q8, hres]
     exact .same rfl
    | true =>
     simp [q1, q5, q6, q8, hwk]
     exact GoOn.same (m2 - 1) (by omega) ⟨k + 1, by omega, rfl, by simp [q1, q5, q6], take_next (p := fun x => !rightS c b x) hkl hk (by show (!rightS c b b.code[k]) = false; simp only [hr, Bool.not_true])⟩
   by_cases o2 : lastOp b.code = 19
   ·have hop : (decide (lastOp b.code = 22) || decide (lastOp b.code = 19)) = true := by simp [o2]
    simp [e1, e5, e6', recs, o1, o2]
    refine PC_seq (PW_ok _ ?_)
    simp
    refine PC_block (PC_loopG (CrJ3 c b i) ?_ (k := b.code.length) ⟨0, by simp, rfl, by simp [e1, e5, e6, hbc, recs], fun x hx => by simp at hx⟩)
    rintro m2 E2 L2 ⟨k, hkm, rfl, ⟨q1, q5, q6, q8, -⟩, hk⟩
    by_cases hkl : k < b.code.length
    case neg =>
     have hke : k = b.code.length := by omega
     subst hke
     rw [List.take_length] at hk
     have hall : b.code.all (rightS c b) = true := by rw [List.all_eq_true]; intro x hx; simpa using hk x hx
     have hgo : bodyB c b i = true := by simp only [bodyB, hgood, hop, hall, Bool.and_self]
     rw [hgo, Bool.true_and] at hf
     simp [q1, q5, q6, q8, hq3, recs]
     refine PW_ok _ ?_
     simp [q1, q5, q6, q8, wi]
     exact GoOn.same (m - 1) (by omega) ⟨i + 1, by omega, rfl, by simp [q1], hf⟩
    have hcutI := cutI hkl
    have ht2 : List.take 2 (encC c) = encC c := rfl
    have hwk := wrap_inc hkl hbig
    have z2 := k2 _ (List.getElem_mem hkl)
    have z3 := k3 _ (List.getElem_mem hkl)
    have ht7 : List.take 7 (encI b.code[k]) = encI b.code[k] := rfl
    simp [q1, q5, q6, q8, hkl, hq3, recs, hcutI, ht2, ht4, ht7]
    refine (instruction_ok (c := c) (b := b) (i := b.code[k]) (by unfold big; omega) (by unfold big; omega)).runk ?_
    cases hr : rightS c b b.code[k] with
    | false =>
     have hall : b.code.all (rightS c b) = false := by rw [List.all_eq_false]; exact ⟨_, List.getElem_mem hkl, by simp [hr]⟩
     rw [stop (by simp only [bodyB, hall, Bool.and_false])]
     simp [q1, q5, q6, q8, hres]
     exact .same rfl
    | true =>
     simp [q1, q5, q6, q8, hwk]
     exact GoOn.same (m2 - 1) (by omega) ⟨k + 1, by omega, rfl, by simp [q1, q5, q6], take_next (p := fun x => !rightS c b x) hkl hk (by show (!rightS c b b.code[k]) = false; simp only [hr, Bool.not_true])⟩
   ·rw [stop (by simp only [bodyB, decide_eq_false o1, decide_eq_false o2, Bool.or_self, Bool.and_false, Bool.false_and])]
    simp [e1, e5, e6', recs, o1, o2, hres]
    exact .same rfl
  ·have a3' : ¬ (i : Int) = 0 := by omega
   simp [e1, e5, e6', hres, a0, a1, a3, a3', a4, a4', a4'', recs]
   refine PC_seq (PC_seq (PW_ok _ ?_))
   simp [e1, e5, e6', recs, hwj, hjj, hcj, htl']
   refine PW_ok _ ?_
   by_cases o1 : lastOp b.code = 22
   ·have hop : (decide (lastOp b.code = 22) || decide (lastOp b.code = 19)) = true := by simp [o1]
    simp [e1, e5, e6', recs, o1]
    refine PC_seq (PW_ok _ ?_)
    simp
    refine PC_block (PC_loopG (CrJ3 c b i) ?_ (k := b.code.length) ⟨0, by simp, rfl, by simp [e1, e5, e6, hbc, recs], fun x hx => by simp at hx⟩)
    rintro m2 E2 L2 ⟨k, hkm, rfl, ⟨q1, q5, q6, q8, -⟩, hk⟩
    by_cases hkl : k < b.code.length
    case neg =>
     have hke : k = b.code.length := by omega
     subst hke
     rw [List.take_length] at hk
     have hall : b.code.all (rightS c b) = true := by rw [List.all_eq_true]; intro x hx; simpa using hk x hx
     have hgo : bodyB c b i = true := by simp only [bodyB, hgood, hop, hall, Bool.and_self]
     rw [hgo, Bool.true_and] at hf
     simp [q1, q5, q6, q8, hq3, recs]
     refine PW_ok _ ?_
     simp [q1, q5, q6, q8, wi]
     exact GoOn.same (m - 1) (by omega) ⟨i + 1, by omega, rfl, by simp [q1], hf⟩
    have hcutI := cutI hkl
    have ht2 : List.take 2 (encC c) = encC c := rfl
    have hwk := wrap_inc hkl hbig
    have z2 := k2 _ (List.getElem_mem hkl)
    have z3 := k3 _ (List.getElem_mem hkl)
    have ht7 : List.take 7 (encI b.code[k]) = encI b.code[k] := rfl
    simp [q1, q5, q6, q8, hkl, hq3, recs, hcutI, ht2, ht4, ht7]
    refine (instruction_ok (c := c) (b := b) (i := b.code[k]) (by unfold big; omega) (by unfold big; omega)).runk ?_
    cases hr : rightS c b b.code[k] with
    | false =>
     have hall : b.code.all (rightS c b) = false := by rw [List.all_eq_false]; exact ⟨_, List.getElem_mem hkl, by simp [hr]⟩
     rw [stop (by simp only [bodyB, hall, Bool.and_false])]
     simp [q1, q5, q6, q8, hres]
     exact .same rfl
    | true =>
     simp [q1, q5, q6, q8, hwk]
     exact GoOn.same (m2 - 1) (by omega) ⟨k + 1, by omega, rfl, by simp [q1, q5, q6], take_next (p := fun x => !rightS c b x) hkl hk (by show (!rightS c b b.code[k]) = false; simp only [hr, Bool.not_true])⟩
   by_cases o2 : lastOp b.code = 19
   ·have hop : (decide (lastOp b.code = 22) || decide (lastOp b.code = 19)) = true := by simp [o2]
    simp [e1, e5, e6', recs, o1, o2]
    refine PC_seq (PW_ok _ ?_)
    simp
    refine PC_block (PC_loopG (CrJ3 c b i) ?_ (k := b.code.length) ⟨0, by simp, rfl, by simp [e1, e5, e6, hbc, recs], fun x hx => by simp at hx⟩)
    rintro m2 E2 L2 ⟨k, hkm, rfl, ⟨q1, q5, q6, q8, -⟩, hk⟩
    by_cases hkl : k < b.code.length
    case neg =>
     have hke : k = b.code.length := by omega
     subst hke
     rw [List.take_length] at hk
     have hall : b.code.all (rightS c b) = true := by rw [List.all_eq_true]; intro x hx; simpa using hk x hx
     have hgo : bodyB c b i = true := by simp only [bodyB, hgood, hop, hall, Bool.and_self]
     rw [hgo, Bool.true_and] at hf
     simp [q1, q5, q6, q8, hq3, recs]
     refine PW_ok _ ?_
     simp [q1, q5, q6, q8, wi]
     exact GoOn.same (m - 1) (by omega) ⟨i + 1, by omega, rfl, by simp [q1], hf⟩
    have hcutI := cutI hkl
    have ht2 : List.take 2 (encC c) = encC c := rfl
    have hwk := wrap_inc hkl hbig
    have z2 := k2 _ (List.getElem_mem hkl)
    have z3 := k3 _ (List.getElem_mem hkl)
    have ht7 : List.take 7 (encI b.code[k]) = encI b.code[k] := rfl
    simp [q1, q5, q6, q8, hkl, hq3, recs, hcutI, ht2, ht4, ht7]
    refine (instruction_ok (c := c) (b := b) (i := b.code[k]) (by unfold big; omega) (by unfold big; omega)).runk ?_
    cases hr : rightS c b b.code[k] with
    | false =>
     have hall : b.code.all (rightS c b) = false := by rw [List.all_eq_false]; exact ⟨_, List.getElem_mem hkl, by simp [hr]⟩
     rw [stop (by simp only [bodyB, hall, Bool.and_false])]
     simp [q1, q5, q6, q8, hres]
     exact .same rfl
    | true =>
     simp [q1, q5, q6, q8, hwk]
     exact GoOn.same (m2 - 1) (by omega) ⟨k + 1, by omega, rfl, by simp [q1, q5, q6], take_next (p := fun x => !rightS c b x) hkl hk (by show (!rightS c b b.code[k]) = false; simp only [hr, Bool.not_true])⟩
   ·rw [stop (by simp only [bodyB, decide_eq_false o1, decide_eq_false o2, Bool.or_self, Bool.and_false, Bool.false_and])]
    simp [e1, e5, e6', recs, o1, o2, hres]
    exact .same rfl
def errS (c : FCode) (body : Int) : Int := if checkS c ≠ 0 then checkS c else if body < 0 ∨ (c.bodies.length : Int) ≤ body then 250 else 0
set_option maxRecDepth 8000 in
theorem checkBody_ok {c : FCode} {body : Int} (hc : OkC c) : PPd (.fn 52 [] []) [.agg (encC c), pin body] (pin (errS c body)) := by
 have hd1 : List.drop 1 (encC c) = [recs 65 encBo c.bodies] := rfl
 have hE0 : encC c = [pin c.globals, recs 65 encBo c.bodies] := rfl
 refine PP_code rfl rfl rfl (by simp) (by simp [noId]) (by simp) (PW_ok _ ?_)
 have hcc : cut (encC c) 0 2 = encC c := rfl
 simp [ir52, hcc]
 refine (checkR_ok hc).runk ?_
 by_cases h0 : checkS c = 0
 ·by_cases h1 : body < 0
  ·have he : errS c body = 250 := by simp [errS, h0, h1]
   rw [he]
   simp [h0, h1]
   exact .same rfl
  ·by_cases h2 : (c.bodies.length : Int) ≤ body
   ·have he : errS c body = 250 := by simp [errS, h0, h2]
    rw [he]
    simp [h0, h1, h2, hE0, recs]
    exact .same rfl
   ·have he : errS c body = 0 := by simp [errS, h0, h1, h2]
    rw [he]
    simp [h0, h1, h2, hE0, recs]
    exact .same rfl
 ·have he : errS c body = checkS c := by simp [errS, h0]
  rw [he]
  simp [h0]
  exact .same rfl
def zeroBo : List PV := [PV.v (S []), PV.v (I 0), PV.v (I 0), PV.v (.slice none 0 0)]
set_option maxRecDepth 8000 in
theorem given_err {c : FCode} {body : Int} (hc : OkC c) (h : errS c body ≠ 0) : PPd (.fn 41 [] []) [.agg (encC c), pin body] (.tup [.agg zeroBo, pin (errS c body)]) := by
 have hE0 : encC c = [pin c.globals, recs 65 encBo c.bodies] := rfl
 refine PP_code rfl rfl rfl (by simp) (by simp [noId]) (by simp [zeroBo, noId, noIdL]) (PW_ok _ ?_)
 have hcc : cut (encC c) 0 2 = encC c := rfl
 simp [ir41, hcc]
 refine (check_ok hc).runk ?_
 by_cases h0 : checkS c = 0
 ·by_cases h1 : body < 0
  ·have he : errS c body = 250 := by simp [errS, h0, h1]
   rw [he]
   simp [h0, h1, zeroBo]
   exact .same rfl
  ·by_cases h2 : (c.bodies.length : Int) ≤ body
   ·have he : errS c body = 250 := by simp [errS, h0, h2]
    rw [he]
    simp [h0, h1, h2, hE0, recs, zeroBo]
    exact .same rfl
   ·exact absurd (by simp [errS, h0, h1, h2]) h
 ·have he : errS c body = checkS c := by simp [errS, h0]
  rw [he]
  simp [h0, zeroBo]
  exact .same rfl
set_option maxRecDepth 8000 in
theorem given_ok {c : FCode} {k : Nat} (hc : OkC c) (h0 : checkS c = 0) (hk : k < c.bodies.length) : PPd (.fn 41 [] []) [.agg (encC c), pin k] (.tup [.agg (encBo c.bodies[k]), pin 0]) := by
 have hE0 : encC c = [pin c.globals, recs 65 encBo c.bodies] := rfl
 refine PP_code rfl rfl rfl (by simp) (by simp [noId]) (by simp [noId, noIdL]) (PW_ok _ ?_)
 have hcc : cut (encC c) 0 2 = encC c := rfl
 simp [ir41, hcc]
 refine (check_ok hc).runk ?_
 have h1 : ¬ (k : Int) < 0 := by omega
 have h2 : ¬ (c.bodies.length : Int) ≤ k := by omega
 have h2' : ¬ c.bodies.length ≤ k := by omega
 have hcut := cutBo hk
 have hps : psplice zeroBo 0 (encBo c.bodies[k]) = encBo c.bodies[k] := psplice_full rfl
 have ht4 : List.take 4 (encBo c.bodies[k]) = encBo c.bodies[k] := rfl
 have hc4 : cut (encBo c.bodies[k]) 0 4 = encBo c.bodies[k] := rfl
 unfold zeroBo at hps
 simp [h0, h1, h2, h2', hE0, recs, hk, hcut, hps, ht4, hc4]
 exact .same (by simp [noId, noIdL])
def succI (x : FIns) (i : Nat) : List Int := if x.op = 22 then [] else if x.op = 19 then [x.c] else if x.op = 20 then [((i + 1 : Nat) : Int), x.c] else [((i + 1 : Nat) : Int)]
def followI (x : FIns) (i : Nat) : List Int := if x.op = 22 then [] else if x.op = 19 then [x.c] else if x.op = 20 then putL [((i + 1 : Nat) : Int)] x.c else [((i + 1 : Nat) : Int)]
set_option maxRecDepth 8000 in
theorem follow_ok {l : List FIns} {i : Nat} (hi : i < l.length) (hl : l.length ≤ 1000000) : PPd (.fn 53 [] []) [recs 62 encI l, pin i] (ints 3 (followI l[i] i)) := by
 refine PP_code rfl rfl rfl (by simp) (by simp [noId]) (by simp) ?_
 have hres : ir53.results = [.tmp 4] := rfl
 have hcut := cutI hi
 have hw := wrap_inc hi (show big l.length by unfold big; omega)
 have hw' : IntKind.wrap .i64 ((i : Int) + 1) = (i : Int) + 1 := by rw [hw]; simp
 have hx : encI l[i] = [pin l[i].op, pin l[i].a, pin l[i].b, pin l[i].c, pin l[i].d, pstr l[i].text, ints 3 l[i].list] := rfl
 generalize l[i] = x at *
 rw [hx] at hcut
 by_cases h22 : x.op = 22
 ·refine PW_ok _ ?_
  simp [ir53, recs, ints, hi, hcut, h22, followI]
  exact .nil
 by_cases h19 : x.op = 19
 ·refine PW_ok _ ?_
  simp [ir53, recs, ints, hi, hcut, h22, h19, followI]
  exact Vw.frz rfl (by simp) (by simp [noIdL, noId]) rfl
 by_cases h20 : x.op = 20
 ·have hp := (put_ok (l := [((i + 1 : Nat) : Int)]) (n := x.c) (by simp))
  have hfo : followI x i = putL [((i + 1 : Nat) : Int)] x.c := by simp only [followI, h22, h19, h20, if_true, if_false]; rfl
  rw [hfo]
  refine PC_seq (PW_ok _ ?_)
  simp
  refine PC_seq (PW_ok _ ?_)
  simp [recs, ints, hi, hcut]
  refine PC_seq (PC_seq (PW_ok _ ?_))
  simp
  refine PC_block (PC_seq (PW_ok _ ?_))
  simp [h22]
  refine PC_cond (t := false) (by simp) ?_
  rw [if_neg (by simp)]
  refine PC_seq (PW_ok _ ?_)
  simp [h19]
  refine PC_cond (t := false) (by simp) ?_
  rw [if_neg (by simp)]
  refine PC_seq (PW_ok _ ?_)
  simp [h20]
  refine PC_cond (t := true) (by simp) ?_
  rw [if_pos rfl]
  refine PC_seq (PC_opsSplit 5 (PW_ok _ ?_))
  simp [hw']
  refine PC.abs (Abs.dropAll [(23, ints 3 [((i + 1 : Nat) : Int)]), (25, pin x.c)] ?_) ?_
  ·simp [hw]
   exact ⟨Vw.frz rfl (by simp) (by simp [noIdL, noId]) rfl, .same rfl⟩
  refine PW_ok _ ?_
  simp [envC, envC_nil]
  have hcs : ((i : Int) + 1) = ((i + 1 : Nat) : Int) := by simp
  rw [hcs]
  refine hp.runk ?_
  simp
  refine PW_ok _ ?_
  simp [hres]
  exact .same (by simp)
 ·refine PW_ok _ ?_
  simp [ir53, recs, ints, hi, hcut, h22, h19, h20, followI, hw, hw']
  exact Vw.frz rfl (by simp) (by simp [noIdL, noId]) rfl
def lists2 (t : TypeId) (ls : List (List Int)) : PV := .fz t ls.length (ls.map (ints 3))
@[simp] theorem lists2_noId {t : TypeId} {ls : List (List Int)} : noId (lists2 t ls) = true := by simp [lists2, noId]
def succsL (l : List FIns) : List (List Int) := l.mapIdx fun i x => succI x i
theorem succsL_len {l : List FIns} : (succsL l).length = l.length := by simp [succsL]
theorem succsL_take {l : List FIns} {i : Nat} (hi : i < l.length) : ((succsL l).map (ints 3)).take (i + 1) = ((succsL l).map (ints 3)).take i ++ [ints 3 (succI l[i] i)] := by
 rw [List.take_succ_eq_append_getElem (by rw [List.length_map, succsL_len]; exact hi)]
 simp [succsL]
def ScJ (l : List FIns) (m : Nat) (E : PEnv) (L : List LObj) : Prop := ∃ i : Nat, i + m = l.length ∧ L = [.row 24 (((succsL l).map (ints 3)).take i)] ∧
 Has E [(3, .slc 0 0 i i), (6, recs 62 encI l), (7, pin l.length), (8, pin i)]
theorem GoOn.keep {J : Nat → PEnv → List LObj → Prop} {k : Nat} {E : PEnv} {L L' : List LObj} (τ : List Nat) (l : List (Nat × PV)) (k' : Nat) (hk : k' < k) (hnd : τ.Nodup) (hlt : ∀ i ∈ τ, i < L.length) (hL : F2 (fun i o' => ∃ o, L[i]? = some o ∧ VwO τ L o o') τ L')
  (hv : HasV τ E L l) (hj : J k' (envOf l) L') : GoOn J k E L := ⟨k', _, _, hk, Abs.keep τ l hnd hlt hL hv, hj⟩
theorem VwL.snoc {τ : List Nat} {L : List LObj} {cs : List PV} {p p' : PV} (h : noIdL cs = true) (hp : Vw τ L p p') : VwL τ L (cs ++ [p]) (cs ++ [p']) := (VwL.same h).append (.cons hp .nil)
set_option maxRecDepth 8000 in
set_option maxHeartbeats 4000000 in
theorem successors_ok {l : List FIns} (hl : l.length ≤ 1000000) : PPd (.fn 42 [] []) [recs 62 encI l] (lists2 24 (succsL l)) := by
 have hb : big l.length := by unfold big; omega
 refine PP_code rfl rfl rfl (by simp) (by simp [noId]) (by simp) (PW_ok _ ?_)
 simp [ir42, recs]
 refine PC.abs ((Abs.addNil 0 _ []).trans (Abs.keep [0] [(3, .slc 0 0 0 0), (6, recs 62 encI l), (7, pin l.length), (8, pin (0 : Nat))] (L' := [.row 24 []]) (by simp) (by simp) (.cons ⟨_, rfl, .nilr⟩ .nil) ?_)) ?_
 ·simp [recs]
  exact ⟨.nilr rfl rfl, .same (by simp [noId]), .same rfl, .same rfl⟩
 refine PC_loopG (ScJ l) ?_ (k := l.length) ⟨0, by simp, by simp, Has.env (by simp)⟩
 rintro m E L ⟨i, him, rfl, ⟨e3, e6, e7, e8, -⟩⟩
 by_cases hi : i < l.length
 case neg =>
  have hie : i = l.length := by omega
  subst hie
  simp [e3, e6, e7, e8]
  refine Vw.frz rfl (by rw [List.take_of_length_le (by simp [succsL_len])]; simp [ints]) (by rw [List.take_of_length_le (by simp [succsL_len])]; simp) ?_
  rw [List.take_of_length_le (by simp [succsL_len]), lists2, succsL_len]
 have hcut := cutI hi
 have hw := wrap_inc hi hb
 have hw' : IntKind.wrap .i64 ((i : Int) + 1) = (i : Int) + 1 := by rw [hw]; simp
 have hx : encI l[i] = [pin l[i].op, pin l[i].a, pin l[i].b, pin l[i].c, pin l[i].d, pstr l[i].text, ints 3 l[i].list] := rfl
 have htk := succsL_take hi
 have rr : roomy (i + 1) 24 := roomy_of (by omega) (by omega)
 have hle : i ≤ (succsL l).length := by rw [succsL_len]; omega
 generalize l[i] = x at *
 rw [hx] at hcut
 have go : ∀ {E' : PEnv} {L' : List LObj} {j : Nat} {p : PV}, E'.get 3 = some (.slc j 0 (i + 1) (i + 1)) → E'.get 6 = some (recs 62 encI l) → E'.get 7 = some (pin l.length) → E'.get 8 = some (pin (i + 1 : Nat)) → L'[j]? = some (.row 24 (((succsL l).map (ints 3)).take i ++ [p])) → Vw [j] L' p (ints 3 (succI x i)) → GoOn (ScJ l) m E' L' := by
  intro E' L' j p a3 a6 a7 a8 hj hp
  refine GoOn.keep [j] [(3, .slc 0 0 (i + 1) (i + 1)), (6, recs 62 encI l), (7, pin l.length), (8, pin (i + 1 : Nat))] (m - 1) (by omega) (by simp) (by simpa using (List.getElem?_eq_some_iff.1 hj).1) (.cons ⟨_, hj, .row (VwL.snoc (p' := ints 3 (succI x i)) (noIdL_take (by simp)) hp)⟩ .nil) ?_ ⟨i + 1, by omega, by rw [htk], Has.env (by simp)⟩
  simp only [HasV_cons, HasV_nil, and_true]
  exact ⟨⟨_, a3, .slc rfl⟩, ⟨_, a6, .same (by simp)⟩, ⟨_, a7, .same rfl⟩, ⟨_, a8, .same rfl⟩⟩
 by_cases h22 : x.op = 22
 ·have hs : succI x i = [] := by simp only [succI, h22, if_true]
  simp [e3, e6, e7, e8, hi, recs, ints, hcut, h22, hle, rr, hw, hw']
  exact go (j := 3) (by simp) (by simp [e6, recs]) (by simp [e7]) (by simp) (by simp; rfl) (by rw [hs]; exact .nil)
 by_cases h19 : x.op = 19
 ·have hs : succI x i = [x.c] := by simp only [succI, h22, h19, if_true, if_false]; rfl
  simp [e3, e6, e7, e8, hi, recs, ints, hcut, h22, h19, hle, rr, hw, hw']
  exact go (j := 4) (by simp) (by simp [e6, recs]) (by simp [e7]) (by simp) (by simp; rfl) (by rw [hs]; exact .fzs (cs'' := [pin x.c]) (by simp) rfl (by simp) (by simp) rfl rfl (fun j a b => .same (noIdL_get (l := [pin x.c]) rfl j a)))
 by_cases h20 : x.op = 20
 ·have hs : succI x i = [((i + 1 : Nat) : Int), x.c] := by simp only [succI, h22, h19, h20, if_true, if_false]; rfl
  simp [e3, e6, e7, e8, hi, recs, ints, hcut, h22, h19, h20, hle, rr, hw, hw']
  exact go (j := 4) (by simp) (by simp [e6, recs]) (by simp [e7]) (by simp) (by simp; rfl) (by rw [hs]; exact .fzs (cs'' := [pin ((i + 1 : Nat) : Int), pin x.c]) (by simp) rfl (by simp) (by simp) rfl rfl (fun j a b => .same (noIdL_get (l := [pin ((i + 1 : Nat) : Int), pin x.c]) rfl j a)))
 have hs : succI x i = [((i + 1 : Nat) : Int)] := by simp only [succI, h22, h19, h20, if_false]
 simp [e3, e6, e7, e8, hi, recs, ints, hcut, h22, h19, h20, hle, rr, hw, hw']
 exact go (j := 4) (by simp) (by simp [e6, recs]) (by simp [e7]) (by simp) (by simp; rfl) (by rw [hs]; exact .fzs (cs'' := [pin ((i + 1 : Nat) : Int)]) (by simp) rfl (by simp) (by simp) rfl rfl (fun j a b => .same (noIdL_get (l := [pin ((i + 1 : Nat) : Int)]) rfl j a)))
theorem set_mid {A ys : List PV} {y z : PV} {n : Nat} (h : A.length = n) : (A ++ y :: ys).set n z = A ++ z :: ys := by
 subst h; simp
theorem isM1_ok {n : Int} : PPd (.fn 68 [] []) [pin n] (pbool (decide (n = -1))) := by
 refine PP_code rfl rfl rfl (by simp) (by simp [noId]) (by simp) (PW_ok _ ?_)
 simp [ir68]
 exact .same rfl
def DxJ (cs : List PV) (l : List Int) (m : Nat) (E : PEnv) (L : List LObj) : Prop := ∃ i : Nat, i + m = l.length ∧ L = [.row 3 cs] ∧ Has E [(0, .slc 0 0 l.length l.length), (1, .fn 68 [] []), (7, pin l.length), (8, pin i)] ∧ ∀ x ∈ l.take i, decide (x = -1) = false
set_option maxRecDepth 8000 in
set_option maxHeartbeats 4000000 in
theorem indexM1_ok {l : List Int} {K : PV → List LObj → Prop} (hb : big l.length) (hk : K (pin (firstI (fun x => decide (x = -1)) l)) [.row 3 (l.map pin)]) :
  PF FD XA XN false (.fn 80 [] []) [.slc 0 0 l.length l.length, .fn 68 [] []] [.row 3 (l.map pin)] K := by
 refine PF_code0 rfl rfl rfl (PW_ok _ ?_)
 simp [ir80]
 refine PC_loop0 (DxJ (l.map pin) l) ?_ (k := l.length) ⟨0, by simp, rfl, by simp, fun x hx => by simp at hx⟩
 rintro m E L ⟨i, him, rfl, ⟨e0, e1, e7, e8, -⟩, hn⟩
 by_cases hi : i < l.length
 ·have hg : (l.map pin)[i]? = some (pin l[i]) := by simp [hi]
  have hg' : l[i]? = some l[i] := List.getElem?_eq_getElem hi
  simp [e0, e1, e7, e8, hi, hg, hg']
  refine isM1_ok.runk ?_
  by_cases hx : l[i] = -1
  ·rw [firstI_at hi hn (by simp [hx])] at hk
   simp [e0, e1, e7, e8, hx]
   exact hk
  ·simp [e0, e1, e7, e8, hx, wrap_inc hi hb]
   exact ⟨m - 1, by omega, i + 1, by omega, rfl, by simp [e0, e1, e7], take_next (p := fun x => decide (x = -1)) hi hn (by simp [hx])⟩
 ·have hie : i = l.length := by omega
  subst hie
  rw [List.take_length] at hn
  rw [firstI_none hn] at hk
  simp [e0, e1, e7, e8]
  exact hk
def keepL (l : List Int) : List Int := l.filter fun x => !decide (x = -1)
def DlJ (l : List Int) (m : Nat) (E : PEnv) (L : List LObj) : Prop := ∃ (j : Nat) (mid : List PV), j + m = l.length ∧ (keepL (l.take j)).length + mid.length = j ∧ 1 ≤ mid.length ∧
 L = [.row 3 ((keepL (l.take j)).map pin ++ mid ++ (l.drop j).map pin)] ∧ Has E [(0, .slc 0 0 l.length l.length), (1, .fn 68 [] []), (5, pin (keepL (l.take j)).length), (6, pin j)]
theorem keepL_snoc {l : List Int} {j : Nat} (hj : j < l.length) : keepL (l.take (j + 1)) = if l[j] = -1 then keepL (l.take j) else keepL (l.take j) ++ [l[j]] := by
 rw [List.take_succ_eq_append_getElem hj]
 unfold keepL
 rw [List.filter_append]
 by_cases h : l[j] = -1
 ·simp [h]
 ·simp [h]
set_option maxRecDepth 8000 in
set_option maxHeartbeats 4000000 in
theorem delete_ok {l : List Int} {K : PV → List LObj → Prop} (hb : big l.length) (hk : ∀ zs : List PV, allNl zs → noIdL zs = true → (keepL l).length + zs.length = l.length → K (.slc 0 0 (keepL l).length l.length) [.row 3 ((keepL l).map pin ++ zs)]) :
  PF FD XA XN false (.fn 67 [] []) [.slc 0 0 l.length l.length, .fn 68 [] []] [.row 3 (l.map pin)] K := by
 refine PF_code0 rfl rfl rfl ?_
 refine PC_seq (PW_ok _ ?_)
 simp
 refine PC_seq (PW_ok _ ?_)
 simp
 unfold PFk
 refine (indexM1_ok hb (K := fun v L => v = pin (firstI (fun x => decide (x = -1)) l) ∧ L = [.row 3 (l.map pin)]) ⟨rfl, rfl⟩).mono ?_
 rintro v L ⟨rfl, rfl⟩
 simp
 have hres : ir67.results = [.tmp 4] := rfl
 cases hany : l.any (fun x => decide (x = -1)) with
 | false =>
  rw [List.any_eq_false] at hany
  have hf : firstI (fun x => decide (x = -1)) l = -1 := firstI_none (fun x hx => by simpa using hany x hx)
  have hkl : keepL l = l := by
   unfold keepL; rw [List.filter_eq_self]; intro x hx; simpa using hany x hx
  rw [hf]
  refine PW_ok _ ?_
  simp [hres]
  have := hk [] (by simp) rfl (by simp [hkl])
  rw [hkl] at this
  simpa using this
 | true =>
  obtain ⟨x, hx, hp⟩ := List.any_eq_true.1 hany
  cases hf0 : l.findIdx? (fun x => decide (x = -1)) with
  | none => rw [List.findIdx?_eq_none_iff] at hf0; rw [hf0 x hx] at hp; cases hp
  | some a =>
   have hf : firstI (fun x => decide (x = -1)) l = a := by simp [firstI, hf0]
   rw [List.findIdx?_eq_some_iff_getElem] at hf0
   obtain ⟨ha, ha1, ha2⟩ := hf0
   have ha1' : l[a] = -1 := by simpa using ha1
   have hka : keepL (l.take a) = l.take a := by
    unfold keepL; rw [List.filter_eq_self]
    intro y hy
    obtain ⟨j, hj, rfl⟩ := List.mem_take_iff_getElem.1 hy
    have := ha2 j (by omega)
    simpa using this
   have hka1 : keepL (l.take (a + 1)) = l.take a := by rw [keepL_snoc ha, if_pos ha1', hka]
   have hne : ¬ (a : Int) = -1 := by omega
   rw [hf]
   refine PC_seq (PW_ok _ ?_)
   simp [hne]
   refine PC_seq (PC_seq (PW_ok _ ?_))
   simp [wrap_inc ha hb]
   refine PC_block (PC_loop0 (DlJ l) ?_ (k := l.length - (a + 1)) ⟨a + 1, [pin l[a]], by omega, by rw [hka1]; simp; omega, by simp, ?_, by simp [hka1]; omega⟩)
   ·rintro m E L ⟨j, mid, hjm, hlen, hmid, rfl, ⟨e0, e1, e5, e6, -⟩⟩
    by_cases hj : j < l.length
    ·have hkl := keepL_snoc hj
     have hdr : l.drop j = l[j] :: l.drop (j + 1) := List.drop_eq_getElem_cons hj
     have hcl : ((keepL (l.take j)).map pin ++ mid ++ (l.drop j).map pin).length = l.length := by simp; omega
     have hgj : ((keepL (l.take j)).map pin ++ mid ++ (l.drop j).map pin)[j]? = some (pin l[j]) := by
      rw [List.getElem?_append_right (by simp; omega), hdr]
      have : j - ((keepL (l.take j)).map pin ++ mid).length = 0 := by simp; omega
      rw [this]; rfl
     have hij : (keepL (l.take j)).length < l.length := by omega
     have hset : ((keepL (l.take j)).map pin ++ mid ++ (l.drop j).map pin).set (keepL (l.take j)).length (pin l[j]) = (keepL (l.take j) ++ [l[j]]).map pin ++ (mid.tail ++ [pin l[j]]) ++ (l.drop (j + 1)).map pin := by
      obtain ⟨y, ys, rfl⟩ : ∃ y ys, mid = y :: ys := by
       cases mid with
       | nil => simp at hmid
       | cons y ys => exact ⟨y, ys, rfl⟩
      rw [hdr, List.append_assoc, List.cons_append, set_mid (by simp)]
      simp only [List.map_append, List.map_cons, List.map_nil, List.tail_cons, List.append_assoc, List.cons_append, List.nil_append]
     have hws : wrap_inc hij hb = wrap_inc hij hb := rfl
     have hwi := wrap_inc hij hb
     have hwj := wrap_inc hj hb
     generalize hcs : (keepL (l.take j)).map pin ++ mid ++ (l.drop j).map pin = cs at *
     simp [e0, e1, e5, e6, hj, hgj]
     refine isM1_ok.runk ?_
     by_cases hx : l[j] = -1
     ·rw [if_pos hx] at hkl
      simp [e0, e1, e5, e6, hx, hwj]
      refine ⟨l.length - (j + 1), by omega, j + 1, mid ++ [pin l[j]], by omega, by rw [hkl]; simp; omega, by simp, ?_, by simp [e0, e1, e5, hkl]⟩
      rw [hkl, ← hcs, hdr]; simp only [List.map_cons, List.append_assoc, List.cons_append, List.nil_append]
     ·rw [if_neg hx] at hkl
      simp [e0, e1, e5, e6, hx, hwj, hwi, hij, hcl]
      refine ⟨l.length - (j + 1), by omega, j + 1, mid.tail ++ [pin l[j]], by omega, by rw [hkl]; simp; omega, by simp, ?_, by simp [e0, e1, hkl]⟩
      rw [hkl, hset]
    ·have hje : j = l.length := by omega
     subst hje
     rw [List.take_length] at hlen e5
     rw [List.take_length, List.drop_length]
     have hkle : (keepL l).length ≤ l.length := by omega
     have hps : ∀ Z : List PV, Z.length = mid.length → psplice ((keepL l).map pin ++ mid ++ ([] : List Int).map pin) (keepL l).length Z = (keepL l).map pin ++ Z := by
      intro Z hZ
      unfold psplice
      simp [List.take_append, List.drop_append, hZ]
     have hZ : ((repl [I 0] (l.length - (keepL l).length)).map PV.v).length = mid.length := by
      rw [List.length_map, repl_length]; simp; omega
     have hps1 := hps _ hZ
     have hcl : ((keepL l).map pin ++ mid ++ ([] : List Int).map pin).length = l.length := by simp; omega
     have hk1 := hk ((repl [I 0] (l.length - (keepL l).length)).map PV.v) (by simp) (by simp [noIdL_iff, noId]) (by rw [hZ]; omega)
     generalize hcs : (keepL l).map pin ++ mid ++ ([] : List Int).map pin = cs at *
     have hz : ¬ l.length - (keepL l).length = 0 := by omega
     have hle2 : (keepL l).length + (l.length - (keepL l).length) ≤ cs.length := by omega
     have c1 : ((keepL l).length : Int) ≤ l.length := by omega
     simp [e0, e1, e5, e6]
     refine PC_seq (PW_ok _ ?_)
     have hle3 : l.length ≤ cs.length := by omega
     simp [e0, e1, e5, e6, c1, hkle, hz, hle2, hle3, hps1, one]
     refine PW_ok _ ?_
     simp [e0, e1, e5, e6, c1, hkle, hres]
     exact hk1
   ·rw [hka1]
    have hdr : l.drop a = l[a] :: l.drop (a + 1) := List.drop_eq_getElem_cons ha
    have : l.map pin = (l.take a).map pin ++ (l.drop a).map pin := by rw [← List.map_append, List.take_append_drop]
    rw [this, hdr]
    simp only [List.map_cons, List.append_assoc, List.cons_append, List.nil_append]
def readK (r : FRule) (i : FIns) (k : Nat) : List Int := if kindAt r k = 1 ∨ kindAt r k = 2 then [numAt i k] else []
def readsTo (r : FRule) (i : FIns) : Nat → List Int
 | 0 => []
 | k + 1 => readsTo r i k ++ readK r i k
def writeTo (r : FRule) (i : FIns) : Nat → Int
 | 0 => -1
 | k + 1 => if kindAt r k = 3 ∨ kindAt r k = 4 then numAt i k else writeTo r i k
def readsS (i : FIns) : List Int := if 1 ≤ i.op ∧ i.op ≤ 37 then keepL (readsTo (ruleN i.op.toNat) i 4 ++ i.list) else []
def writesS (i : FIns) : Int := if 1 ≤ i.op ∧ i.op ≤ 37 then writeTo (ruleN i.op.toNat) i 4 else -1
theorem readsTo_len {r : FRule} {i : FIns} : ∀ k, (readsTo r i k).length ≤ k := by
 intro k
 induction k with
 | zero => simp [readsTo]
 | succ k ih =>
  have : (readK r i k).length ≤ 1 := by unfold readK; split <;> simp
  simp only [readsTo, List.length_append]; omega
def usesV (i : FIns) : PV := .tup [ints 3 (readsS i), pin (writesS i)]
def UsJ (i : FIns) (r : FRule) (m : Nat) (E : PEnv) (L : List LObj) : Prop := ∃ k : Nat, k + m = 4 ∧ L = [.row 3 ((readsTo r i k).map pin)] ∧
 Has E [(1, .fp (encI i)), (2, .slc 0 0 (readsTo r i k).length (readsTo r i k).length), (3, pin (writeTo r i k)), (18, .agg (rowOf r i)), (19, pin k)]
set_option maxRecDepth 8000 in
set_option maxHeartbeats 8000000 in
theorem uses_ok {i : FIns} (hl : i.list.length ≤ 1000000) : PPd (.fn 48 [] []) [.agg (encI i)] (usesV i) := by
 refine PP_code rfl rfl rfl (by simp) (by simp [noId]) (by simp [usesV, noId, noIdL]) ?_
 have hres : ir48.results = [.tmp 2, .tmp 3] := rfl
 obtain ⟨d1, d2, d3, d4, d5, d6⟩ := encI_parts i
 refine PC_seq (PW_ok _ ?_)
 simp
 by_cases hop : 1 ≤ i.op ∧ i.op ≤ 37
 case neg =>
  have hr : readsS i = [] := by simp only [readsS, hop, if_false]
  have hw : writesS i = -1 := by simp only [writesS, hop, if_false]
  have h0 : (encI i)[0]? = some (pin i.op) := rfl
  refine PW_ok _ ?_
  simp [h0]
  refine (ruleOf_no (n := i.op) (by omega)).runk ?_
  simp [encR, hres, usesV, hr, hw]
  exact .tup rfl (fun j a b => by
   match j, a, b with
   | 0, _, _ => exact .nil
   | 1, _, _ => exact .same rfl)
 obtain ⟨n, hn⟩ : ∃ n : Nat, i.op = n := ⟨i.op.toNat, by omega⟩
 have hn1 : 1 ≤ n := by omega
 have hn2 : n ≤ 37 := by omega
 have hop' : i.op.toNat = n := by omega
 have hrd : readsS i = keepL (readsTo (ruleN n) i 4 ++ i.list) := by simp only [readsS, hop, and_self, if_true, hop']
 have hwr : writesS i = writeTo (ruleN n) i 4 := by simp only [writesS, hop, and_self, if_true, hop']
 have hi0 : (encI i)[0]? = some (pin n) := by rw [← hn]; rfl
 have hps : psplice [PV.v (S []), PV.v (I 0), PV.v (I 0), PV.v (I 0), PV.v (I 0), PV.v (S [])] 0 (encR (ruleN n)) = encR (ruleN n) := psplice_full rfl
 refine PC_seq (PW_ok _ ?_)
 simp [hi0]
 refine (ruleOf_ok hn1 hn2).runk ?_
 simp [hps]
 refine PC_seq (PW_ok _ ?_)
 simp
 refine PC_seq (PW_ok _ ?_)
 simp
 refine PC.abs ((Abs.addNil 0 _ _).trans (Abs.keep [2] [(1, .fp (encI i)), (2, .slc 0 0 0 0), (3, pin (-1)), (4, .fp (encR (ruleN n)))] (L' := [.row 3 []]) (by simp) (by simp) (.cons ⟨_, rfl, .nilr⟩ .nil) ?_)) ?_
 ·simp
  exact ⟨.fzp (by simp) rfl (by simp) (by simp) rfl rfl (fun j a b => .same (noIdL_get (by simp) j a)), .nilr rfl rfl, .same rfl, .fzp (by simp) rfl (by simp) (by simp) rfl rfl (fun j a b => .same (noIdL_get (by simp) j a))⟩
 have envE : Has (envOf [(1, .fp (encI i)), (2, .slc 0 0 0 0), (3, pin (-1)), (4, .fp (encR (ruleN n)))]) [(1, .fp (encI i)), (2, .slc 0 0 0 0), (3, pin (-1)), (4, .fp (encR (ruleN n)))] := Has.env (by simp)
 generalize envOf [(1, .fp (encI i)), (2, .slc 0 0 0 0), (3, pin (-1)), (4, .fp (encR (ruleN n)))] = E at envE ⊢
 obtain ⟨e1, e2, e3, e4, -⟩ := envE
 refine PC_seq (PC_seq (PW_ok _ ?_))
 have ht6 : List.take 6 (encR (ruleN n)) = encR (ruleN n) := rfl
 have ht7 : List.take 7 (encI i) = encI i := rfl
 simp [e1, e2, e3, e4, ht6, ht7]
 refine (ruleFields_ok (r := ruleN n) (i := i)).runk ?_
 simp
 generalize ruleN n = r at *
 refine PC_block (PC_loopG (UsJ i r) ?_ (k := 4) ⟨0, by simp, rfl, by simp [e1, e2, e3, readsTo, writeTo]⟩)
 ·clear e1 e2 e3 e4
  rintro m E L ⟨k, hkm, rfl, ⟨e1, e2, e3, e18, e19, -⟩⟩
  by_cases hk4 : k < 4
  case neg =>
   have hke : k = 4 := by omega
   subst hke
   simp [e1, e2, e3, e18, e19]
   have hrl := readsTo_len (r := r) (i := i) 4
   have rr : roomy ((readsTo r i 4).length + i.list.length) 8 := roomy_of (by omega) (by omega)
   refine PC_seq (PC_opsSplit 4 (PW_ok _ ?_))
   simp [e1, e2, e3, d6, ints, rr]
   have hlen : (readsTo r i 4 ++ i.list).length = (readsTo r i 4).length + i.list.length := by simp
   refine PC.abs (Abs.keep [1] [(3, pin (writeTo r i 4)), (41, .slc 0 0 (readsTo r i 4 ++ i.list).length (readsTo r i 4 ++ i.list).length)] (L' := [.row 3 ((readsTo r i 4 ++ i.list).map pin)]) (by simp) (by simp) (.cons ⟨_, rfl, .row (by rw [List.map_append]; exact VwL.same (by simp))⟩ .nil) ?_) ?_
   ·rw [hlen]
    simp [e3]
    exact ⟨.same rfl, .slc rfl⟩
   refine PW_ok _ ?_
   generalize readsTo r i 4 ++ i.list = l at *
   simp [envC, envC_nil]
   unfold PFk
   refine delete_ok (l := l) (by unfold big; omega) (fun zs z1 z2 z3 => ?_)
   simp [envC, envC_nil]
   refine PW_ok _ ?_
   simp [envC, envC_nil, hres, usesV, hrd, hwr]
   exact .tup rfl (fun j a b => by
    match j, a, b with
    | 0, _, _ => exact .fzs (cs'' := (keepL l).map pin) (by simp) rfl (by simp [z1]) (by simp) (by simp) rfl (fun j a b => .same (noIdL_get (by simp) j a))
    | 1, _, _ => exact .same rfl)
  have hcut := cutRow (r := r) (i := i) hk4
  have hk4' : (k : Int) < 4 := by omega
  have hw : IntKind.wrap .i64 ((k : Int) + 1) = ((k + 1 : Nat) : Int) := by rw [wrap64 (by omega) (by omega)]; simp
  have hrl := readsTo_len (r := r) (i := i) k
  have rr : roomy ((readsTo r i k).length + 1) 8 := roomy_of (by omega) (by omega)
  by_cases k1 : kindAt r k = 1 ∨ kindAt r k = 2
  ·have hrt : readsTo r i (k + 1) = readsTo r i k ++ [numAt i k] := by simp only [readsTo, readK, k1, if_true]
   have hwt : writeTo r i (k + 1) = writeTo r i k := by
    have : ¬ (kindAt r k = 3 ∨ kindAt r k = 4) := by omega
    simp only [writeTo, this, if_false]
   have fin : ∀ {E' : PEnv} {L' : List LObj}, E'.get 1 = some (.fp (encI i)) → E'.get 2 = some (.slc 3 0 ((readsTo r i k).length + 1) ((readsTo r i k).length + 1)) → E'.get 3 = some (pin (writeTo r i k)) → E'.get 18 = some (.agg (rowOf r i)) → E'.get 19 = some (pin (k + 1 : Nat)) → L'[3]? = some (.row 3 ((readsTo r i k).map pin ++ [pin (numAt i k)])) → GoOn (UsJ i r) m E' L' := by
    intro E' L' a1 a2 a3 a18 a19 hj
    refine GoOn.keep [3] [(1, .fp (encI i)), (2, .slc 0 0 (readsTo r i (k + 1)).length (readsTo r i (k + 1)).length), (3, pin (writeTo r i (k + 1))), (18, .agg (rowOf r i)), (19, pin (k + 1 : Nat))] (m - 1) (by omega) (by simp) (by simpa using (List.getElem?_eq_some_iff.1 hj).1) (.cons ⟨_, hj, .row (VwL.same (by simp))⟩ .nil) ?_ ⟨k + 1, by omega, by rw [hrt]; simp, Has.env (by simp)⟩
    rw [hrt, hwt]
    simp only [HasV_cons, HasV_nil, and_true, List.length_append, List.length_cons, List.length_nil]
    exact ⟨⟨_, a1, .same (by simp [noId])⟩, ⟨_, a2, .slc rfl⟩, ⟨_, a3, .same rfl⟩, ⟨_, a18, .same (by simp [noId, noIdL, rowOf])⟩, ⟨_, a19, .same rfl⟩⟩
   rcases k1 with k1 | k1
   ·simp [e1, e2, e3, e18, e19, hk4, hk4', hcut, k1, rr, hw]
    exact fin (by simp [e1]) (by simp) (by simp [e3]) (by simp [e18]) (by simp) (by simp)
   ·simp [e1, e2, e3, e18, e19, hk4, hk4', hcut, k1, rr, hw]
    exact fin (by simp [e1]) (by simp) (by simp [e3]) (by simp [e18]) (by simp) (by simp)
  ·have hrt : readsTo r i (k + 1) = readsTo r i k := by simp only [readsTo, readK, k1, if_false, List.append_nil]
   have fin : ∀ {E' : PEnv} {L' : List LObj}, E'.get 1 = some (.fp (encI i)) → E'.get 2 = some (.slc 0 0 (readsTo r i k).length (readsTo r i k).length) → E'.get 3 = some (pin (writeTo r i (k + 1))) → E'.get 18 = some (.agg (rowOf r i)) → E'.get 19 = some (pin (k + 1 : Nat)) → L'[0]? = some (.row 3 ((readsTo r i k).map pin)) → GoOn (UsJ i r) m E' L' := by
    intro E' L' a1 a2 a3 a18 a19 hj
    refine GoOn.keep [0] [(1, .fp (encI i)), (2, .slc 0 0 (readsTo r i (k + 1)).length (readsTo r i (k + 1)).length), (3, pin (writeTo r i (k + 1))), (18, .agg (rowOf r i)), (19, pin (k + 1 : Nat))] (m - 1) (by omega) (by simp) (by simpa using (List.getElem?_eq_some_iff.1 hj).1) (.cons ⟨_, hj, .row (VwL.same (by simp))⟩ .nil) ?_ ⟨k + 1, by omega, by rw [hrt], Has.env (by simp)⟩
    rw [hrt]
    simp only [HasV_cons, HasV_nil, and_true]
    exact ⟨⟨_, a1, .same (by simp [noId])⟩, ⟨_, a2, .slc rfl⟩, ⟨_, a3, .same rfl⟩, ⟨_, a18, .same (by simp [noId, noIdL, rowOf])⟩, ⟨_, a19, .same rfl⟩⟩
   simp only [not_or] at k1
   by_cases k3 : kindAt r k = 3
   ·have hwt : writeTo r i (k + 1) = numAt i k := by simp only [writeTo, k3, true_or, if_true]
    simp [e1, e2, e3, e18, e19, hk4, hk4', hcut, k1, k3, hw]
    exact fin (by simp [e1]) (by simp [e2]) (by simp [hwt]) (by simp [e18]) (by simp) (by simp)
   by_cases k4 : kindAt r k = 4
   ·have hwt : writeTo r i (k + 1) = numAt i k := by simp only [writeTo, k4, or_true, if_true]
    simp [e1, e2, e3, e18, e19, hk4, hk4', hcut, k1, k3, k4, hw]
    exact fin (by simp [e1]) (by simp [e2]) (by simp [hwt]) (by simp [e18]) (by simp) (by simp)
   ·have hwt : writeTo r i (k + 1) = writeTo r i k := by simp only [writeTo, k3, k4, or_self, if_false]
    simp [e1, e2, e3, e18, e19, hk4, hk4', hcut, k1, k3, k4, hw]
    exact fin (by simp [e1]) (by simp [e2]) (by simp [e3, hwt]) (by simp [e18]) (by simp) (by simp)
end Go.Den
/- Sets of numbers as lists of words of 64 bits: the plain law. -/
namespace Go.Den
abbrev W64 := BitVec 64
def hasW (ws : List W64) (n : Nat) : Bool := (ws.getD (n / 64) 0).getLsbD (n % 64)
def bitW (n : Nat) : W64 := 1#64 <<< (n % 64)
def putW (ws : List W64) (n : Nat) : List W64 := ws.set (n / 64) (ws.getD (n / 64) 0 ||| bitW n)
def dropW (ws : List W64) (n : Nat) : List W64 := ws.set (n / 64) (ws.getD (n / 64) 0 &&& ~~~ bitW n)
theorem putW_len {ws : List W64} {n : Nat} : (putW ws n).length = ws.length := by simp [putW]
theorem dropW_len {ws : List W64} {n : Nat} : (dropW ws n).length = ws.length := by simp [dropW]
theorem bitW_get {n j : Nat} (hj : j < 64) : (bitW n).getLsbD j = decide (j = n % 64) := by
 unfold bitW
 rw [BitVec.getLsbD_shiftLeft]
 by_cases h : j < n % 64
 ·simp [h]; omega
 ·simp only [hj, h, decide_true, decide_false, Bool.not_false, Bool.true_and, BitVec.getLsbD_one]
  by_cases e : j = n % 64
  ·simp [e]
  ·simp [e]; omega
theorem getD_set {ws : List W64} {i j : Nat} {x : W64} (h : i < ws.length) : (ws.set i x).getD j 0 = if j = i then x else ws.getD j 0 := by
 simp only [List.getD_eq_getElem?_getD, List.getElem?_set]
 by_cases e : i = j
 ·subst e; simp [h]
 ·rw [if_neg e, if_neg (Ne.symm e)]
theorem hasW_put {ws : List W64} {n m : Nat} (h : n / 64 < ws.length) : hasW (putW ws n) m = (hasW ws m || decide (m = n)) := by
 unfold hasW putW
 rw [getD_set h]
 by_cases e : m / 64 = n / 64
 ·rw [if_pos e, BitVec.getLsbD_or, bitW_get (Nat.mod_lt _ (by omega)), e]
  congr 1
  by_cases e2 : m % 64 = n % 64
  ·have : m = n := by omega
   simp [this]
  ·have : m ≠ n := by rintro rfl; exact e2 rfl
   simp [e2, this]
 ·rw [if_neg e]
  have : m ≠ n := by rintro rfl; exact e rfl
  simp [this]
theorem hasW_drop {ws : List W64} {n m : Nat} (h : n / 64 < ws.length) : hasW (dropW ws n) m = (hasW ws m && !decide (m = n)) := by
 unfold hasW dropW
 rw [getD_set h]
 have hm := Nat.mod_lt m (show 64 > 0 by omega)
 by_cases e : m / 64 = n / 64
 ·rw [if_pos e, BitVec.getLsbD_and, BitVec.getLsbD_not, bitW_get hm, e]
  simp only [hm, decide_true, Bool.true_and]
  congr 2
  by_cases e2 : m % 64 = n % 64
  ·have : m = n := by omega
   simp [this]
  ·have : m ≠ n := by rintro rfl; exact e2 rfl
   simp [e2, this]
 ·rw [if_neg e]
  have : m ≠ n := by rintro rfl; exact e rfl
  simp [this]
def lowB (x : W64) : Nat := ((List.range 64).find? fun j => x.getLsbD j).getD 64
theorem lowB_spec {x : W64} (h : x ≠ 0) : lowB x < 64 ∧ x.getLsbD (lowB x) = true ∧ ∀ j, j < lowB x → x.getLsbD j = false := by
 unfold lowB
 cases hf : (List.range 64).find? (fun j => x.getLsbD j) with
 | none =>
  exfalso; apply h
  apply BitVec.eq_of_getLsbD_eq
  intro i hi
  rw [List.find?_eq_none] at hf
  simpa using hf i (by simpa using hi)
 | some j =>
  have h1 := List.find?_some hf
  have h2 := List.mem_of_find?_eq_some hf
  refine ⟨by simpa using h2, h1, fun k hk => ?_⟩
  rw [List.find?_range_eq_some] at hf
  have := hf.2.2 k (by simpa using hk)
  simpa using this
theorem low_nat {x : Nat} {b : Nat} (h1 : x.testBit b = true) (h2 : ∀ j, j < b → x.testBit j = false) : ∃ m, x = 2 ^ b * (2 * m + 1) := by
 have h3 : x % 2 ^ b = 0 := by
  apply Nat.eq_of_testBit_eq
  intro i
  rw [Nat.testBit_mod_two_pow]
  by_cases hi : i < b
  ·simp [hi, h2 i hi]
  ·simp [hi]
 have h4 : x = 2 ^ b * (x / 2 ^ b) := by have := Nat.div_add_mod x (2 ^ b); omega
 have h5 : (x / 2 ^ b) % 2 = 1 := by
  have : (x / 2 ^ b).testBit 0 = true := by rw [Nat.testBit_div_two_pow]; simpa using h1
  simpa [Nat.testBit_zero] using this
 refine ⟨x / 2 ^ b / 2, ?_⟩
 have h6 : 2 * (x / 2 ^ b / 2) + 1 = x / 2 ^ b := by omega
 rw [h6]; exact h4
theorem pred_bit {b m j : Nat} : (2 ^ b * (2 * m + 1) - 1).testBit j = if j < b then true else if j = b then false else (2 ^ b * (2 * m + 1)).testBit j := by
 have hp : 0 < 2 ^ b := Nat.two_pow_pos b
 have e1 : 2 ^ b * (2 * m + 1) - 1 = 2 ^ b * (2 * m) + (2 ^ b - 1) := by rw [Nat.mul_add]; omega
 rw [e1, Nat.testBit_two_pow_mul_add _ (by omega)]
 by_cases h : j < b
 ·simp [h, Nat.testBit_two_pow_sub_one]
 ·rw [if_neg h, if_neg h, Nat.testBit_two_pow_mul]
  by_cases e : j = b
  ·subst e; simp
  ·rw [if_neg e]
   obtain ⟨k, hk⟩ : ∃ k, j - b = k + 1 := ⟨j - b - 1, by omega⟩
   rw [hk, Nat.testBit_succ, Nat.testBit_succ]
   have : b ≤ j := by omega
   simp [this]
   congr 1; omega
theorem sub1_nat {x : W64} (h : x ≠ 0) : (x - 1).toNat = x.toNat - 1 := by
 have h0 : x.toNat ≠ 0 := fun e => h (BitVec.eq_of_toNat_eq (by simpa using e))
 rw [BitVec.toNat_sub]
 have := x.isLt
 show (2 ^ 64 - 1 + x.toNat) % 2 ^ 64 = _
 omega
theorem sub1_bit {x : W64} (h : x ≠ 0) {j : Nat} : (x - 1).getLsbD j = if j < lowB x then true else if j = lowB x then false else x.getLsbD j := by
 obtain ⟨h1, h2, h3⟩ := lowB_spec h
 obtain ⟨m, hm⟩ := low_nat (x := x.toNat) (b := lowB x) h2 h3
 show (x - 1).toNat.testBit j = if j < lowB x then true else if j = lowB x then false else x.toNat.testBit j
 rw [sub1_nat h]
 rw [hm]
 exact pred_bit
theorem clear_bit {x : W64} (h : x ≠ 0) {j : Nat} : (x &&& (x - 1)).getLsbD j = (x.getLsbD j && !decide (j = lowB x)) := by
 rw [BitVec.getLsbD_and, sub1_bit h]
 obtain ⟨h1, h2, h3⟩ := lowB_spec h
 by_cases c : j < lowB x
 ·rw [if_pos c, h3 j c]; simp
 ·rw [if_neg c]
  by_cases e : j = lowB x
  ·simp [e]
  ·simp [e]
theorem neg_low {x : W64} (h : x ≠ 0) : x &&& (-x) = bitW (lowB x) := by
 obtain ⟨h1, h2, h3⟩ := lowB_spec h
 apply BitVec.eq_of_getLsbD_eq
 intro j hj
 have hn : -x = ~~~ (x - 1) := by
  have := BitVec.neg_eq_not_add (x - 1)
  have h5 : x - 1 = x + -1 := BitVec.sub_eq_add_neg x 1
  apply BitVec.eq_of_toNat_eq
  rw [BitVec.toNat_neg, BitVec.toNat_not, sub1_nat h]
  have h0 : x.toNat ≠ 0 := fun e => h (BitVec.eq_of_toNat_eq (by simpa using e))
  have := x.isLt
  omega
 rw [hn, BitVec.getLsbD_and, BitVec.getLsbD_not, sub1_bit h, bitW_get hj, Nat.mod_eq_of_lt h1]
 simp only [hj, decide_true, Bool.true_and]
 by_cases c : j < lowB x
 ·simp [c, h3 j c]; omega
 ·rw [if_neg c]
  by_cases e : j = lowB x
  ·simp [e, h2]
  ·simp [e]
def bitsOf (x : W64) : List Nat := (List.range 64).filter fun j => x.getLsbD j
theorem bitsOf_zero : bitsOf 0 = [] := by simp [bitsOf]
theorem pw_ext : ∀ {l l' : List Nat}, l.Pairwise (· < ·) → l'.Pairwise (· < ·) → (∀ x, x ∈ l ↔ x ∈ l') → l = l' := by
 intro l
 induction l with
 | nil =>
  intro l' _ _ h
  cases l' with
  | nil => rfl
  | cons a l' => exact absurd ((h a).2 (by simp)) (by simp)
 | cons a l ih =>
  intro l' h1 h2 h
  cases l' with
  | nil => exact absurd ((h a).1 (by simp)) (by simp)
  | cons b l' =>
   rw [List.pairwise_cons] at h1 h2
   have hab : a = b := by
    rcases List.mem_cons.1 ((h a).1 (by simp)) with e | e
    ·exact e
    ·rcases List.mem_cons.1 ((h b).2 (by simp)) with e2 | e2
     ·exact e2.symm
     ·have := h1.1 b e2; have := h2.1 a e; omega
   subst hab
   congr 1
   refine ih h1.2 h2.2 fun x => ⟨fun hx => ?_, fun hx => ?_⟩
   ·rcases List.mem_cons.1 ((h x).1 (List.mem_cons_of_mem _ hx)) with e | e
    ·subst e; have := h1.1 x hx; omega
    ·exact e
   ·rcases List.mem_cons.1 ((h x).2 (List.mem_cons_of_mem _ hx)) with e | e
    ·subst e; have := h2.1 x hx; omega
    ·exact e
theorem bitsOf_asc (x : W64) : (bitsOf x).Pairwise (· < ·) := List.Pairwise.filter _ List.pairwise_lt_range
theorem bitsOf_mem {x : W64} {j : Nat} : j ∈ bitsOf x ↔ x.getLsbD j = true := by
 unfold bitsOf
 rw [List.mem_filter, List.mem_range]
 exact ⟨fun h => h.2, fun h => ⟨Nat.lt_of_not_le (fun hh => by rw [BitVec.getLsbD_of_ge x j hh] at h; cases h), h⟩⟩
theorem bitsOf_step {x : W64} (h : x ≠ 0) : bitsOf x = lowB x :: bitsOf (x &&& (x - 1)) := by
 obtain ⟨h1, h2, h3⟩ := lowB_spec h
 refine pw_ext (bitsOf_asc x) ?_ fun j => ?_
 ·rw [List.pairwise_cons]
  refine ⟨fun j hj => ?_, bitsOf_asc _⟩
  rw [bitsOf_mem, clear_bit h] at hj
  simp only [Bool.and_eq_true, Bool.not_eq_true', decide_eq_false_iff_not] at hj
  rcases Nat.lt_or_ge j (lowB x) with c | c
  ·rw [h3 j c] at hj; exact absurd hj.1 (by simp)
  ·omega
 ·rw [List.mem_cons, bitsOf_mem, bitsOf_mem, clear_bit h]
  by_cases e : j = lowB x
  ·simp [e, h2]
  ·simp [e]
def listW : List W64 → Nat → List Nat
 | [], _ => []
 | x :: ws, i => (bitsOf x).map (64 * i + ·) ++ listW ws (i + 1)
theorem listW_ge {ws : List W64} {i n : Nat} (h : n ∈ listW ws i) : 64 * i ≤ n := by
 induction ws generalizing i with
 | nil => simp [listW] at h
 | cons x ws ih =>
  simp only [listW, List.mem_append, List.mem_map] at h
  rcases h with ⟨j, _, rfl⟩ | h
  ·omega
  ·have := ih h; omega
theorem listW_asc {ws : List W64} {i : Nat} : (listW ws i).Pairwise (· < ·) := by
 induction ws generalizing i with
 | nil => exact .nil
 | cons x ws ih =>
  simp only [listW]
  rw [List.pairwise_append]
  refine ⟨?_, ih, fun a ha b hb => ?_⟩
  ·rw [List.pairwise_map]; exact (bitsOf_asc x).imp (by omega)
  ·obtain ⟨j, hj, rfl⟩ := List.mem_map.1 ha
   have := listW_ge hb
   have : j < 64 := Nat.lt_of_not_le fun hh => by rw [bitsOf_mem, BitVec.getLsbD_of_ge x j hh] at hj; cases hj
   omega
theorem listW_mem {ws : List W64} {i n : Nat} : n ∈ listW ws i ↔ 64 * i ≤ n ∧ hasW ws (n - 64 * i) = true := by
 induction ws generalizing i with
 | nil => simp [listW, hasW]
 | cons x ws ih =>
  simp only [listW, List.mem_append, List.mem_map, ih]
  constructor
  ·rintro (⟨j, hj, rfl⟩ | ⟨h1, h2⟩)
   ·rw [bitsOf_mem] at hj
    have : j < 64 := Nat.lt_of_not_le fun hh => by rw [BitVec.getLsbD_of_ge x j hh] at hj; cases hj
    refine ⟨by omega, ?_⟩
    unfold hasW
    rw [show 64 * i + j - 64 * i = j by omega, show j / 64 = 0 by omega, show j % 64 = j by omega]
    exact hj
   ·refine ⟨by omega, ?_⟩
    unfold hasW at h2 ⊢
    obtain ⟨d, hd⟩ : ∃ d, n = 64 * (i + 1) + d := ⟨n - 64 * (i + 1), by omega⟩
    subst hd
    rw [show 64 * (i + 1) + d - 64 * (i + 1) = d by omega] at h2
    rw [show 64 * (i + 1) + d - 64 * i = d + 64 by omega, show (d + 64) / 64 = d / 64 + 1 by omega, show (d + 64) % 64 = d % 64 by omega]
    exact h2
  ·rintro ⟨h1, h2⟩
   obtain ⟨d, hd⟩ : ∃ d, n = 64 * i + d := ⟨n - 64 * i, by omega⟩
   subst hd
   rw [show 64 * i + d - 64 * i = d by omega] at h2
   unfold hasW at h2
   by_cases c : d < 64
   ·refine .inl ⟨d, ?_, rfl⟩
    rw [show d / 64 = 0 by omega, show d % 64 = d by omega] at h2
    rw [bitsOf_mem]; exact h2
   ·refine .inr ⟨by omega, ?_⟩
    unfold hasW
    rw [show 64 * i + d - 64 * (i + 1) = d - 64 by omega, show (d - 64) / 64 = d / 64 - 1 by omega, show (d - 64) % 64 = d % 64 by omega]
    obtain ⟨k, hk⟩ : ∃ k, d / 64 = k + 1 := ⟨d / 64 - 1, by omega⟩
    rw [hk] at h2 ⊢
    exact h2
end Go.Den
/- Sets of words: put, drop, add, the lowest bit. -/
namespace Go.Den
open IrD
attribute [local irreducible] T.get T.set
abbrev pw (x : W64) : PV := .v (.int .u64 (x.toNat : Int))
theorem ofInt_nat (x : W64) : BitVec.ofInt (IntKind.bits .u64) (x.toNat : Int) = x := by
 show BitVec.ofInt 64 (x.toNat : Int) = x
 rw [BitVec.ofInt_natCast, BitVec.ofNat_toNat]; simp
theorem wrapU (x : W64) : IntKind.wrap .u64 (x.toNat : Int) = (x.toNat : Int) := by
 have := x.isLt
 unfold IntKind.wrap
 simp [IntKind.signed, IntKind.bits, IntKind.max]
 omega
theorem bitsU (f : BitVec (IntKind.bits .u64) → BitVec (IntKind.bits .u64) → BitVec (IntKind.bits .u64)) (a b : W64) : bits .u64 f (a.toNat : Int) (b.toNat : Int) = .int .u64 ((f a b : W64).toNat : Int) := by
 unfold bits
 rw [ofInt_nat, ofInt_nat]
 exact congrArg _ (wrapU (f a b))
theorem shlU (n : Nat) : IntKind.wrap .u64 (2 ^ (min (n % 64) (IntKind.bits .u64))) = ((bitW n).toNat : Int) := by
 have h := Nat.mod_lt n (show 64 > 0 by omega)
 have : min (n % 64) (IntKind.bits .u64) = n % 64 := by show min (n % 64) 64 = _; omega
 rw [this, ← wrapU (bitW n)]
 congr 1
 have h2 : 2 ^ (n % 64) < 2 ^ 64 := Nat.pow_lt_pow_right (by omega) h
 simp [bitW, BitVec.toNat_shiftLeft, Nat.shiftLeft_eq, Nat.mod_eq_of_lt h2]
theorem divN (n : Nat) (h : n < 2 ^ 62) : IntKind.wrap .i64 ((n : Int) / 64) = ((n / 64 : Nat) : Int) := by
 have : (n : Int) / 64 = ((n / 64 : Nat) : Int) := by omega
 rw [this, wrap64 (by omega) (by omega)]
theorem modN (n : Nat) : (n : Int).tmod 64 = ((n % 64 : Nat) : Int) := by rw [Int.tmod_eq_emod_of_nonneg (by omega)]; omega
theorem shl_at (n : Nat) : arithShift .shl .u64 1 ((n % 64 : Nat) : Int) = some (.int .u64 ((bitW n).toNat : Int)) := by
 have := shlU n
 unfold arithShift
 rw [if_neg (by omega)]
 simp only [Int.toNat_natCast, Int.one_mul, this]
theorem getD_at {ws : List W64} {k : Nat} (h : k < ws.length) : ws.getD k 0 = ws[k] := by simp [List.getD_eq_getElem?_getD, h]
set_option maxRecDepth 8000 in
set_option maxHeartbeats 4000000 in
theorem put_w {t : TypeId} {i n : Nat} {ws : List W64} {L : List LObj} {K : PV → List LObj → Prop} (hL : L[i]? = some (.row t (ws.map pw))) (hb : n < 2 ^ 62) (hn : n / 64 < ws.length)
  (hk : K (.tup []) (L.set i (.row t ((putW ws n).map pw)))) : PF FD XA XN false (.fn 50 [] []) [.slc i 0 ws.length ws.length, pin n] L K := by
 refine PF_code0 rfl rfl rfl (PW_ok _ ?_)
 have h1 := divN n hb
 have h2 := modN n
 have h6 := shl_at n
 have h7 : putW ws n = ws.set (n / 64) (ws[n / 64] ||| bitW n) := by rw [← getD_at hn]; rfl
 rw [h7] at hk
 generalize hxx : ws[n / 64] = x at hk
 generalize bitW n = y at *
 generalize n / 64 = q at *
 generalize n % 64 = r at *
 have h4 : (q : Int) < ws.length := by omega
 have h8 : psplice (ws.map pw) q [pw (x ||| y)] = (ws.map pw).set q (pw (x ||| y)) := psplice_one (by simpa using hn)
 simp [ir50, h1, h2, hL, hn, h4, h6, bitsU, h8, hxx]
 rw [List.map_set] at hk
 exact hk
set_option maxRecDepth 8000 in
set_option maxHeartbeats 4000000 in
theorem drop_w {t : TypeId} {i n : Nat} {ws : List W64} {L : List LObj} {K : PV → List LObj → Prop} (hL : L[i]? = some (.row t (ws.map pw))) (hb : n < 2 ^ 62) (hn : n / 64 < ws.length)
  (hk : K (.tup []) (L.set i (.row t ((dropW ws n).map pw)))) : PF FD XA XN false (.fn 49 [] []) [.slc i 0 ws.length ws.length, pin n] L K := by
 refine PF_code0 rfl rfl rfl (PW_ok _ ?_)
 have h1 := divN n hb
 have h2 := modN n
 have h6 := shl_at n
 have h7 : dropW ws n = ws.set (n / 64) (ws[n / 64] &&& ~~~ bitW n) := by rw [← getD_at hn]; rfl
 rw [h7] at hk
 generalize hxx : ws[n / 64] = x at hk
 generalize bitW n = y at *
 generalize n / 64 = q at *
 generalize n % 64 = r at *
 have h4 : (q : Int) < ws.length := by omega
 have h8 : psplice (ws.map pw) q [pw (x &&& ~~~ y)] = (ws.map pw).set q (pw (x &&& ~~~ y)) := psplice_one (by simpa using hn)
 simp [ir49, h1, h2, hL, hn, h4, h6, bitsU, h8, hxx]
 rw [List.map_set] at hk
 exact hk
theorem bru_at : ∀ b : Nat, b < 64 → bruTab[(((1#64 <<< b) * 285870213051353865#64) >>> 58).toNat]? = some (b : Int) := by decide
theorem bru_cell {k : Nat} {n : Int} (h : bruTab[k]? = some n) : bruCells[k]? = some (.int .u8 n) := by simp [bruCells, h]
theorem neg_u (x : W64) : IntKind.wrap .u64 (-(x.toNat : Int)) = ((-x).toNat : Int) := by
 have := x.isLt
 rw [BitVec.toNat_neg]
 simp [IntKind.wrap, IntKind.signed, IntKind.bits]
 omega
theorem mul_u (x : W64) (c : W64) : IntKind.wrap .u64 ((x.toNat : Int) * (c.toNat : Int)) = ((x * c).toNat : Int) := by
 rw [BitVec.toNat_mul]
 simp [IntKind.wrap, IntKind.signed, IntKind.bits]
theorem mul_c (x : W64) : IntKind.wrap .u64 ((x.toNat : Int) * 285870213051353865) = ((x * 285870213051353865#64).toNat : Int) := by
 rw [← mul_u]
 congr 2
theorem shr_u (x : W64) : (x.toNat : Int).fdiv (2 ^ 58) = ((x >>> 58).toNat : Int) := by
 rw [BitVec.toNat_ushiftRight, Int.fdiv_eq_ediv_of_nonneg _ (by decide), Nat.shiftRight_eq_div_pow]
 simp
theorem shr_at (x : W64) : arithShift .shr .u64 (x.toNat : Int) 58 = some (.int .u64 ((x >>> 58).toNat : Int)) := by
 have := shr_u x
 unfold arithShift
 rw [if_neg (by omega)]
 have h : min (Int.toNat 58) (IntKind.bits .u64) = 58 := by decide
 rw [h]
 simp only [this]
theorem tz_facts {x : W64} (hx : x ≠ 0) : ∃ nx b m z : W64, IntKind.wrap .u64 (-(x.toNat : Int)) = (nx.toNat : Int) ∧ bits .u64 (· &&& ·) (x.toNat : Int) (nx.toNat : Int) = .int .u64 (b.toNat : Int) ∧
  IntKind.wrap .u64 ((b.toNat : Int) * 285870213051353865) = (m.toNat : Int) ∧ arithShift .shr .u64 (m.toNat : Int) 58 = some (.int .u64 (z.toNat : Int)) ∧ bruTab[z.toNat]? = some (lowB x : Int) := by
 obtain ⟨h1, h2, h3⟩ := lowB_spec hx
 have hbw : bitW (lowB x) = 1#64 <<< lowB x := by unfold bitW; rw [Nat.mod_eq_of_lt h1]
 refine ⟨-x, bitW (lowB x), bitW (lowB x) * 285870213051353865#64, (bitW (lowB x) * 285870213051353865#64) >>> 58, neg_u x, ?_, mul_c _, shr_at _, ?_⟩
 ·rw [bitsU, ← neg_low hx]; rfl
 ·have := bru_at (lowB x) h1
  rw [hbw]; exact this
theorem bru_len : bruTab.length = 64 := rfl
theorem bru_drop {k : Nat} {n : Int} (h : bruTab[k]? = some n) : bruCells.drop k = .int .u8 n :: bruCells.drop (k + 1) := by
 obtain ⟨h5, h6⟩ := List.getElem?_eq_some_iff.1 (bru_cell h)
 rw [← h6]; exact List.drop_eq_getElem_cons h5
theorem tz_ok {x : W64} (hx : x ≠ 0) : PPd (.fn 69 [] []) [pw x] (pin (lowB x)) := by
 refine PP_code rfl rfl rfl (by simp) (by simp [noId]) (by simp) (PW_ok _ ?_)
 obtain ⟨h1, _, _⟩ := lowB_spec hx
 have hx0 : ¬ x.toNat = 0 := fun e => hx (BitVec.eq_of_toNat_eq (by simpa using e))
 obtain ⟨nx, b, m, z, hn, hba, hm, hs, hz⟩ := tz_facts hx
 have hd := bru_drop hz
 have hlt : (z.toNat : Int) < 64 := by have := (List.getElem?_eq_some_iff.1 hz).1; rw [bru_len] at this; omega
 have hle : z.toNat ≤ bruCells.length := by have := (List.getElem?_eq_some_iff.1 (bru_cell hz)).1; omega
 have hw : IntKind.wrap .i64 (lowB x : Int) = lowB x := wrap64 (by omega) (by omega)
 generalize lowB x = r at *
 generalize bruCells.drop (z.toNat + 1) = rest at hd
 simp [ir69, hx0, hn, hba, hm, hs, hlt, glZ_0, hle, hd, hw]
 exact .same rfl
end Go.Den
/- Unions of sets of words; what is left out; the law of a flow of sets. -/
namespace Go.Den
def orW (s t : List W64) : List W64 := List.zipWith (· ||| ·) s t
theorem orW_len {s t : List W64} (h : s.length = t.length) : (orW s t).length = s.length := by simp [orW, h]
theorem hasW_or {s t : List W64} (h : s.length = t.length) {n : Nat} : hasW (orW s t) n = (hasW s n || hasW t n) := by
 unfold hasW orW
 simp only [List.getD_eq_getElem?_getD, List.getElem?_zipWith]
 by_cases hn : n / 64 < s.length
 ·have hn' : n / 64 < t.length := by omega
  simp [hn, hn']
 ·have hn' : ¬ n / 64 < t.length := by omega
  simp [hn, hn']
theorem hasW_ext {s t : List W64} (hl : s.length = t.length) (h : ∀ n, hasW s n = hasW t n) : s = t := by
 refine List.ext_getElem hl fun i h1 h2 => ?_
 apply BitVec.eq_of_getLsbD_eq
 intro j hj
 have := h (64 * i + j)
 unfold hasW at this
 rw [show (64 * i + j) / 64 = i by omega, show (64 * i + j) % 64 = j by omega] at this
 simpa [List.getD_eq_getElem?_getD, h1, h2] using this
theorem hasW_ge {s : List W64} {n : Nat} (h : 64 * s.length ≤ n) : hasW s n = false := by
 unfold hasW
 rw [List.getD_eq_getElem?_getD, List.getElem?_eq_none (by omega)]
 simp
def missW (s : List W64) : Nat := (List.range (64 * s.length)).countP fun n => !hasW s n
theorem countP_le' {p q : Nat → Bool} {l : List Nat} (h : ∀ x ∈ l, p x = true → q x = true) : l.countP p ≤ l.countP q := List.countP_mono_left h
theorem countP_lt' {p q : Nat → Bool} {l : List Nat} {a : Nat} (h : ∀ x, p x = true → q x = true) (ha : a ∈ l) (hq : q a = true) (hp : p a = false) : l.countP p < l.countP q := by
 induction l with
 | nil => simp at ha
 | cons b l ih =>
  simp only [List.countP_cons]
  rcases List.mem_cons.1 ha with rfl | ha
  ·have := countP_le' (p := p) (q := q) (l := l) (fun x _ => h x)
   simp [hq, hp]; omega
  ·have := ih ha
   by_cases hb : p b = true
   ·simp [hb, h b hb]; omega
   ·simp only [hb]
    simp only [Bool.false_eq_true, if_false]
    split <;> omega
theorem missW_or {s t : List W64} (h : s.length = t.length) (hne : orW s t ≠ s) : missW (orW s t) < missW s := by
 unfold missW
 rw [orW_len h]
 have : ∃ n, hasW (orW s t) n ≠ hasW s n := by
  refine Classical.byContradiction fun hh => hne (hasW_ext (orW_len h) fun n => ?_)
  exact Classical.byContradiction fun h2 => hh ⟨n, h2⟩
 obtain ⟨n, hn⟩ := this
 rw [hasW_or h] at hn
 have hs : hasW s n = false := by cases hx : hasW s n <;> simp_all
 have ht : hasW t n = true := by cases hx : hasW t n <;> simp_all
 have hlt : n < 64 * s.length := Nat.lt_of_not_le fun hh => by rw [h] at hh; rw [hasW_ge hh] at ht; cases ht
 refine countP_lt' (a := n) (fun x hx => ?_) (by simpa using hlt) (by simp [hs]) (by simp [hasW_or h, ht])
 rw [hasW_or h] at hx
 cases hh : hasW s x <;> simp_all
def missL (st : List (List W64)) : Nat := (st.map missW).sum
theorem sum_set {l : List Nat} {k a : Nat} (hk : k < l.length) : (l.set k a).sum + l[k] = l.sum + a := by
 induction l generalizing k with
 | nil => simp at hk
 | cons b l ih =>
  cases k with
  | zero => simp; omega
  | succ k => have := ih (k := k) (by simpa using hk); simp; omega
theorem missL_set {st : List (List W64)} {k : Nat} (hk : k < st.length) {t : List W64} (h : st[k].length = t.length) (hne : orW st[k] t ≠ st[k]) : missL (st.set k (orW st[k] t)) < missL st := by
 unfold missL
 rw [List.map_set]
 have h1 := sum_set (l := st.map missW) (k := k) (a := missW (orW st[k] t)) (by simpa using hk)
 have h2 := missW_or h hne
 simp only [List.getElem_map] at h1
 omega
structure Df where
 n : Nat
 near : Nat → List Nat
 gen : Nat → Nat → Bool
 kill : Nat → Nat → Bool
 init : Nat → Nat → Bool
inductive Df.D (d : Df) : Nat → Nat → Prop
 | init {k x : Nat} : d.init k x = true → d.D k x
 | gen {k m x : Nat} : m ∈ d.near k → d.gen m x = true → d.D k x
 | pass {k m x : Nat} : m ∈ d.near k → d.D m x → d.kill m x = false → d.D k x
def Df.thr (d : Df) (m : Nat) (s : Nat → Bool) (x : Nat) : Bool := d.gen m x || (s x && !d.kill m x)
structure Df.St (d : Df) (w : Nat) (st : List (List W64)) : Prop where
 len : st.length = d.n
 wid : ∀ s ∈ st, s.length = w
 sound : ∀ k (h : k < st.length) x, hasW st[k] x = true → d.D k x
 init : ∀ k (h : k < st.length) x, d.init k x = true → hasW st[k] x = true
def Df.closedAt (d : Df) (st : List (List W64)) (k m : Nat) : Prop := ∀ x, d.thr m (hasW (st.getD m [])) x = true → hasW (st.getD k []) x = true
theorem Df.done {d : Df} {w : Nat} {st : List (List W64)} (hn : ∀ k, k < d.n → ∀ m ∈ d.near k, m < d.n) (h : d.St w st) (hc : ∀ k, k < d.n → ∀ m ∈ d.near k, d.closedAt st k m) {k : Nat} (hk : k < d.n) (x : Nat) : hasW (st.getD k []) x = true ↔ d.D k x := by
 constructor
 ·intro hx
  have hk' : k < st.length := by rw [h.len]; exact hk
  rw [List.getD_eq_getElem?_getD, List.getElem?_eq_getElem hk'] at hx
  exact h.sound k hk' x hx
 ·intro hd
  induction hd with
  | @init k x hi =>
   have hk' : k < st.length := by rw [h.len]; exact hk
   rw [List.getD_eq_getElem?_getD, List.getElem?_eq_getElem hk']
   exact h.init k hk' x hi
  | @gen k m x hm hg => exact hc k hk m hm x (by simp [Df.thr, hg])
  | @pass k m x hm _ hkl ih => exact hc k hk m hm x (by unfold Df.thr; rw [ih (hn k hk m hm), hkl]; simp)
theorem Df.St.add {d : Df} {w : Nat} {st : List (List W64)} (h : d.St w st) {k m : Nat} (hk : k < st.length) (hm : m < st.length) (hmk : m ∈ d.near k) {t : List W64} (ht : t.length = w) (hthr : ∀ x, hasW t x = d.thr m (hasW st[m]) x) : d.St w (st.set k (orW st[k] t)) := by
 have hl : st[k].length = t.length := by rw [h.wid _ (List.getElem_mem hk), ht]
 refine ⟨by simpa using h.len, fun s hs => ?_, fun k' hk' x hx => ?_, fun k' hk' x hx => ?_⟩
 ·rcases List.mem_or_eq_of_mem_set hs with h1 | rfl
  ·exact h.wid s h1
  ·rw [orW_len hl]; exact h.wid _ (List.getElem_mem hk)
 ·rw [List.length_set] at hk'
  rw [List.getElem_set] at hx
  by_cases e : k = k'
  ·subst e
   rw [if_pos rfl, hasW_or hl, hthr] at hx
   rw [Bool.or_eq_true] at hx
   rcases hx with h1 | h1
   ·exact h.sound k hk' x h1
   ·unfold Df.thr at h1
    rw [Bool.or_eq_true] at h1
    rcases h1 with h2 | h2
    ·exact .gen hmk h2
    ·simp only [Bool.and_eq_true, Bool.not_eq_true'] at h2
     exact .pass hmk (h.sound m hm x h2.1) h2.2
  ·rw [if_neg e] at hx; exact h.sound k' hk' x hx
 ·rw [List.length_set] at hk'
  rw [List.getElem_set]
  by_cases e : k = k'
  ·subst e; rw [if_pos rfl, hasW_or hl, h.init k hk' x hx]; rfl
  ·rw [if_neg e]; exact h.init k' hk' x hx
theorem Df.closed_of {d : Df} {st : List (List W64)} {k m : Nat} (hk : k < st.length) (hm : m < st.length) {t : List W64} (hl : st[k].length = t.length) (hthr : ∀ x, hasW t x = d.thr m (hasW st[m]) x) (he : orW st[k] t = st[k]) : d.closedAt st k m := by
 intro x hx
 rw [List.getD_eq_getElem?_getD, List.getElem?_eq_getElem hm, Option.getD_some, ← hthr] at hx
 rw [List.getD_eq_getElem?_getD, List.getElem?_eq_getElem hk, Option.getD_some, ← he, hasW_or hl, hx, Bool.or_true]
end Go.Den
/- Sets of words: their numbers, new ones, copies, unions. -/
namespace Go.Den
open IrD
attribute [local irreducible] T.get T.set
def wset (ws : List W64) : PV := .fz 90 ws.length (ws.map pw)
@[simp] theorem wset_noId {ws : List W64} : noId (wset ws) = true := by simp [wset, noId]
theorem bitsOf_len (x : W64) : (bitsOf x).length ≤ 64 := by
 unfold bitsOf; exact Nat.le_trans (List.length_filter_le _ _) (by simp)
theorem listW_len (ws : List W64) : ∀ i, (listW ws i).length ≤ 64 * ws.length := by
 induction ws with
 | nil => intro i; simp [listW]
 | cons x ws ih => intro i; have := ih (i + 1); have := bitsOf_len x; simp [listW]; omega
def nat3 (plus : Int) (l : List Nat) : List PV := l.map fun (k : Nat) => pin ((k : Int) + plus)
@[simp] theorem nat3_len {plus : Int} {l : List Nat} : (nat3 plus l).length = l.length := by simp [nat3]
theorem nat3_app {plus : Int} {a b : List Nat} : nat3 plus (a ++ b) = nat3 plus a ++ nat3 plus b := by simp [nat3]
@[simp] theorem nat3_noId {plus : Int} {l : List Nat} : noIdL (nat3 plus l) = true := by simp [nat3, noId]
@[simp] theorem nat3_nl {plus : Int} {l : List Nat} : allNl (nat3 plus l) := by simp [nat3]
@[simp] theorem nat3_one {plus : Int} {l : List Nat} : allOne (nat3 plus l) := by simp [nat3]
def LwJ (ws : List W64) (plus : Int) (m : Nat) (E : PEnv) (L : List LObj) : Prop := ∃ (i : Nat) (o : List Nat), i + m = ws.length ∧ L = [.row 3 (nat3 plus o)] ∧ o ++ listW (ws.drop i) i = listW ws 0 ∧
 Has E [(1, pin plus), (5, .slc 0 0 o.length o.length), (8, wset ws), (9, pin ws.length), (10, pin i)]
def LwJ2 (ws : List W64) (plus : Int) (i : Nat) (m : Nat) (E : PEnv) (L : List LObj) : Prop := ∃ (x : W64) (o : List Nat), (bitsOf x).length = m ∧ L = [.row 3 (nat3 plus o)] ∧ o ++ ((bitsOf x).map (64 * i + ·) ++ listW (ws.drop (i + 1)) (i + 1)) = listW ws 0 ∧
 Has E [(1, pin plus), (5, .slc 0 0 o.length o.length), (6, pin i), (7, pw x), (8, wset ws), (9, pin ws.length), (10, pin i)]
theorem sub1_u {x : W64} (h : x ≠ 0) : IntKind.wrap .u64 ((x.toNat : Int) - 1) = ((x - 1).toNat : Int) := by
 rw [sub1_nat h]
 have h0 : x.toNat ≠ 0 := fun e => h (BitVec.eq_of_toNat_eq (by simpa using e))
 have := x.isLt
 simp [IntKind.wrap, IntKind.signed, IntKind.bits]
 omega
set_option maxRecDepth 8000 in
set_option maxHeartbeats 4000000 in
theorem list_ok {ws : List W64} {plus : Int} (hw : ws.length ≤ 10000) (hp : -1000000 ≤ plus ∧ plus ≤ 1000000) : PPd (.fn 51 [] []) [wset ws, pin plus] (.fz 3 (listW ws 0).length (nat3 plus (listW ws 0))) := by
 refine PP_code rfl rfl rfl (by simp) (by simp [noId]) (by simp [noId]) (PW_ok _ ?_)
 have hb : big ws.length := by unfold big; omega
 have hbo := listW_len ws 0
 simp [ir51, wset]
 refine PC.abs ((Abs.addNil 0 _ []).trans (Abs.keep [0] [(1, pin plus), (5, .slc 0 0 0 0), (8, wset ws), (9, pin ws.length), (10, pin (0 : Nat))] (L' := [.row 3 []]) (by simp) (by simp) (.cons ⟨_, rfl, .nilr⟩ .nil) ?_)) ?_
 ·simp [wset]
  exact ⟨.same rfl, .nilr rfl rfl, .same (by simp [noId]), .same rfl, .same rfl⟩
 refine PC_loopG (LwJ ws plus) ?_ (k := ws.length) ⟨0, [], by simp, rfl, by simp, Has.env (by simp)⟩
 rintro m E L ⟨i, o, him, rfl, ho, ⟨e1, e5, e8, e9, e10, -⟩⟩
 by_cases hi : i < ws.length
 case neg =>
  have hie : i = ws.length := by omega
  subst hie
  have : o = listW ws 0 := by rw [← ho, List.drop_length]; simp [listW]
  subst this
  simp [e1, e5, e8, e9, e10]
  exact Vw.frz rfl (by simp) (by simp) rfl
 have hd : ws.drop i = ws[i] :: ws.drop (i + 1) := List.drop_eq_getElem_cons hi
 rw [hd] at ho
 simp only [listW] at ho
 have hg : (ws.map pw)[i]? = some (pw ws[i]) := by simp [hi]
 have hcut := cut1 (f := pw) hi
 generalize ws[i] = x at *
 simp [e1, e5, e8, e9, e10, hi, wset, hcut]
 refine PC_loopG (LwJ2 ws plus i) ?_ (k := (bitsOf x).length) ⟨x, o, rfl, rfl, ho, by simp [e1, e5, e8, e9, e10, wset]⟩
 clear e1 e5 e8 e9 e10 ho hg hcut
 rintro m2 E L ⟨x, o, hm2, rfl, ho, ⟨e1, e5, e6, e7, e8, e9, e10, -⟩⟩
 by_cases hx : x = 0
 ·subst hx
  have hw1 := wrap_inc hi hb
  rw [bitsOf_zero] at ho
  simp [e1, e5, e6, e7, e8, e9, e10, hw1]
  refine GoOn.same (m - 1) (by omega) ⟨i + 1, o, by omega, rfl, by simpa using ho, by simp [e1, e5, e8, e9]⟩
 have hx0 : ¬ x.toNat = 0 := fun e => hx (BitVec.eq_of_toNat_eq (by simpa using e))
 obtain ⟨hl64, _, _⟩ := lowB_spec hx
 have hst := bitsOf_step hx
 have hs1 := sub1_u hx
 have hba : bits .u64 (· &&& ·) (x.toNat : Int) ((x - 1).toNat : Int) = .int .u64 ((x &&& (x - 1)).toNat : Int) := bitsU _ _ _
 have htz := tz_ok hx
 rw [hst] at ho hm2
 generalize x - 1 = y at *
 generalize x &&& y = z at *
 generalize lowB x = r at *
 have hol : o.length ≤ 640000 := by
  have := congrArg List.length ho
  simp at this; omega
 have rr : roomy (o.length + 1) 8 := roomy_of (by omega) (by omega)
 have w1 : IntKind.wrap .i64 (64 * (i : Int)) = 64 * i := wrap64 (by omega) (by omega)
 have w2 : IntKind.wrap .i64 (64 * (i : Int) + r) = 64 * i + r := wrap64 (by omega) (by omega)
 have w3 : IntKind.wrap .i64 (64 * (i : Int) + r + plus) = 64 * i + r + plus := wrap64 (by omega) (by omega)
 simp [e1, e5, e6, e7, e8, e9, e10, hx0, w1]
 refine htz.runk ?_
 simp [e1, e5, e6, e7, e8, e9, e10, w2, w3, rr, hs1, hba]
 have hn : nat3 plus o ++ [pin (64 * (i : Int) + r + plus)] = nat3 plus (o ++ [64 * i + r]) := by simp [nat3_app, nat3]
 refine ⟨m2 - 1, _, _, by simp at hm2; omega, Abs.keep [2] [(1, pin plus), (5, .slc 0 0 (o.length + 1) (o.length + 1)), (6, pin i), (7, pw z), (8, wset ws), (9, pin ws.length), (10, pin i)] (L' := [.row 3 (nat3 plus (o ++ [64 * i + r]))]) (by simp) (by simp) (.cons ⟨_, rfl, by rw [← hn]; exact .row (VwL.same (by simp [noIdL_append, noIdL, noId]))⟩ .nil) ?_, z, o ++ [64 * i + r], by simp at hm2; omega, rfl, by rw [← ho]; simp, ?_⟩
 ·simp [e1, e6, e8, e9, e10]
  exact ⟨.same rfl, .slc rfl, .same rfl, .same rfl, .same (by simp), .same rfl, .same rfl⟩
 ·simpa using Has.env (l := [(1, pin plus), (5, .slc 0 0 (o.length + 1) (o.length + 1)), (6, pin i), (7, pw z), (8, wset ws), (9, pin ws.length), (10, pin i)]) (by simp)
def newW (n : Nat) : List W64 := List.replicate (n / 64 + 1) 0
theorem hasW_new {n x : Nat} : hasW (newW n) x = false := by
 unfold hasW newW
 rw [List.getD_eq_getElem?_getD, List.getElem?_replicate]
 split <;> simp
theorem repl_u (k : Nat) : (repl [Value.int .u64 0] k).map PV.v = (List.replicate k (0 : W64)).map pw := by
 induction k with
 | zero => rfl
 | succ k ih => rw [List.replicate_succ, List.map_cons, ← ih]; rfl
theorem vwl_w {τ : List Nat} {L : List LObj} {ws : List W64} : VwL τ L (ws.map pw) (ws.map pw) := VwL.same (by simp [noId])
theorem new_w0 {n : Nat} (hn : n ≤ 1000000) : PF FD XA XN false (.fn 43 [] []) [pin n] [] (fun v L => v = .slc 0 0 (newW n).length (newW n).length ∧ L = [.row 90 ((newW n).map pw)]) := by
 refine PF_code0 rfl rfl rfl (PW_ok _ ?_)
 have h1 := divN n (by omega)
 have hw : IntKind.wrap .i64 (((n / 64 : Nat) : Int) + 1) = ((n / 64 + 1 : Nat) : Int) := by rw [wrap64 (by omega) (by omega)]; omega
 have hl : (newW n).length = n / 64 + 1 := by simp [newW]
 have hr := repl_u (n / 64 + 1)
 have h3 : (n / 64 + 1 : Nat) ≤ 100000 := by omega
 rw [hl]
 unfold newW
 generalize n / 64 = q at *
 have h4 : (q : Int) + 1 ≤ 9223372036854775807 ∧ 8 * ((q : Int) + 1) ≤ 281474976710656 := by omega
 have h5 : (0 : Int) ≤ (q : Int) + 1 := by omega
 have h6 : ((q : Int) + 1).toNat = q + 1 := by omega
 simp [ir43, h1, hw, h4, h5, h6, hr, one]
theorem new_w {n : Nat} (hn : n ≤ 1000000) {L : List LObj} {K : PV → List LObj → Prop} (q : Bool) (hk : K (.slc L.length 0 (newW n).length (newW n).length) (L ++ [.row 90 ((newW n).map pw)])) : PF FD XA XN q (.fn 43 [] []) [pin n] L K := by
 refine (PF.frame0 (by simp [noId]) (by simp [noIdL, noId]) (new_w0 hn) q L).mono ?_
 rintro v L' ⟨v0, L0, ⟨rfl, rfl⟩, rfl, rfl⟩
 simp only [ren, List.map_cons, List.map_nil, renO, renL_noId _ _ (show noIdL ((newW n).map pw) = true by simp [noId]), Nat.zero_add]
 exact hk
theorem clone_w0 {ws : List W64} (h0 : ws.length ≠ 0) (h1 : ws.length ≤ 100000) : PF FD XA XN false (.fn 47 [] []) [wset ws] [] (fun v L => v = .slc 0 0 ws.length ws.length ∧ L = [.row 90 (ws.map pw)]) := by
 refine PF_code rfl rfl rfl (PW_ok _ ?_)
 have rr : roomy ws.length 8 := roomy_of (by omega) (by omega)
 simp [ir47, wset, h0, rr]
 refine ⟨envOf [(0, .slc 0 0 ws.length ws.length)], [.row 90 (ws.map pw)], ?_, .slc 0 0 ws.length ws.length, by simp [envC], rfl, rfl⟩
 refine Abs.keep [1] [(0, .slc 0 0 ws.length ws.length)] (by simp) (by simp) (.cons ⟨_, rfl, .row vwl_w⟩ .nil) ?_
 simp
 exact .slc rfl
theorem clone_w {ws : List W64} (h0 : ws.length ≠ 0) (h1 : ws.length ≤ 100000) {L : List LObj} {K : PV → List LObj → Prop} (q : Bool) (hk : K (.slc L.length 0 ws.length ws.length) (L ++ [.row 90 (ws.map pw)])) : PF FD XA XN q (.fn 47 [] []) [wset ws] L K := by
 refine (PF.frame0 (by simp [noId]) (by simp [noIdL]) (clone_w0 h0 h1) q L).mono ?_
 rintro v L' ⟨v0, L0, ⟨rfl, rfl⟩, rfl, rfl⟩
 simp only [ren, List.map_cons, List.map_nil, renO, renL_noId _ _ (show noIdL (ws.map pw) = true by simp [noId]), Nat.zero_add]
 exact hk
def orTo (s t : List W64) (k : Nat) : List W64 := orW (s.take k) (t.take k) ++ s.drop k
theorem orTo_len {s t : List W64} (h : s.length = t.length) (k : Nat) : (orTo s t k).length = s.length := by
 unfold orTo
 rw [List.length_append, orW_len (by simp [h])]
 simp; omega
theorem orTo_get {s t : List W64} (h : s.length = t.length) {k : Nat} (hk : k < s.length) : (orTo s t k)[k]'(by rw [orTo_len h]; exact hk) = s[k] := by
 unfold orTo
 have h1 : (orW (s.take k) (t.take k)).length = k := by rw [orW_len (by simp [h])]; simp; omega
 rw [List.getElem_append_right (by omega)]
 simp [h1]
theorem orTo_next {s t : List W64} (h : s.length = t.length) {k : Nat} (hk : k < s.length) : orTo s t (k + 1) = (orTo s t k).set k (s[k] ||| t[k]'(by omega)) := by
 have h1 : (orW (s.take k) (t.take k)).length = k := by rw [orW_len (by simp [h])]; simp; omega
 unfold orTo
 rw [List.set_append_right _ _ (by omega), h1, Nat.sub_self, List.drop_eq_getElem_cons hk, List.set_cons_zero, List.take_succ_eq_append_getElem hk, List.take_succ_eq_append_getElem (by omega)]
 unfold orW
 rw [List.zipWith_append (by simp [h])]
 simp
theorem orTo_all {s t : List W64} (h : s.length = t.length) : orTo s t s.length = orW s t := by
 unfold orTo
 rw [List.take_length, h, List.take_length, ← h, List.drop_length, List.append_nil]
theorem set_self {α : Type} {l : List α} {k : Nat} (h : k < l.length) : l.set k l[k] = l := by simp
def AdJ (i j : Nat) (ty : TypeId) (s t : List W64) (L0 : List LObj) (m : Nat) (E : PEnv) (L : List LObj) : Prop := ∃ k : Nat, k + m = s.length ∧ L = L0.set i (.row ty ((orTo s t k).map pw)) ∧
 Has E [(0, .slc i 0 s.length s.length), (5, pbool (decide (orTo s t k ≠ s))), (8, .slc j 0 s.length s.length), (9, pin s.length), (10, pin k)]
set_option maxRecDepth 8000 in
set_option maxHeartbeats 4000000 in
theorem add_w {ty ty' : TypeId} {i j : Nat} {s t : List W64} {L : List LObj} {K : PV → List LObj → Prop} (hij : i ≠ j) (hL : L[i]? = some (.row ty (s.map pw))) (hL' : L[j]? = some (.row ty' (t.map pw))) (hst : s.length = t.length) (hb : s.length ≤ 100000)
  (hk : K (pbool (decide (orW s t ≠ s))) (L.set i (.row ty ((orW s t).map pw)))) : PF FD XA XN false (.fn 64 [] []) [.slc i 0 s.length s.length, .slc j 0 s.length s.length] L K := by
 refine PF_code0 rfl rfl rfl (PW_ok _ ?_)
 have hbig : big s.length := by unfold big; omega
 have hi : i < L.length := (List.getElem?_eq_some_iff.1 hL).1
 simp [ir64]
 refine PC_loop0 (AdJ i j ty s t L) ?_ (k := s.length) ⟨0, by simp, ?_, by simp [orTo, orW]⟩
 rotate_left
 ·have : orTo s t 0 = s := by simp [orTo, orW]
  rw [this]
  refine (List.ext_getElem? fun n => ?_)
  rw [List.getElem?_set]
  by_cases e : i = n
  ·subst e; rw [if_pos rfl, if_pos hi, hL]
  ·rw [if_neg e]
 rintro m E L1 ⟨k, hkm, rfl, ⟨e0, e5, e8, e9, e10, -⟩⟩
 by_cases hks : k < s.length
 case neg =>
  have hke : k = s.length := by omega
  subst hke
  rw [orTo_all hst] at e5 ⊢
  simp [e0, e5, e8, e9, e10]
  simpa using hk
 have hw := wrap_inc hks hbig
 have hg := orTo_get hst hks
 have hn := orTo_next hst hks
 have hlen := orTo_len hst k
 have hkt : k < t.length := by omega
 have g1 : ((orTo s t k).map pw)[k]? = some (pw s[k]) := by rw [List.getElem?_map, List.getElem?_eq_getElem (by omega), hg]; rfl
 have g2 : (t.map pw)[k]? = some (pw t[k]) := by simp [hkt]
 have hset : (orTo s t k).set k s[k] = orTo s t k := by rw [← hg]; exact set_self _
 have gi : (L.set i (.row ty ((orTo s t k).map pw)))[i]? = some (.row ty ((orTo s t k).map pw)) := by simp [hi]
 have gj : (L.set i (.row ty ((orTo s t k).map pw)))[j]? = some (.row ty' (t.map pw)) := by simp [hij, hL']
 have hle : k < ((orTo s t k).map pw).length := by simp [hlen, hks]
 have hp : ∀ z : W64, psplice ((orTo s t k).map pw) k [pw z] = ((orTo s t k).set k z).map pw := fun z => by rw [psplice_one hle, List.map_set]
 have hss : ∀ o : LObj, (L.set i (.row ty ((orTo s t k).map pw))).set i o = L.set i o := fun o => by simp
 have hks' : (k : Int) < s.length := by omega
 have hneq : (((s[k] ||| t[k] : W64).toNat : Int) = (s[k].toNat : Int)) ↔ s[k] ||| t[k] = s[k] := ⟨fun h => BitVec.eq_of_toNat_eq (by exact_mod_cast h), fun h => by rw [h]⟩
 have hchg : s[k] ||| t[k] ≠ s[k] → orTo s t (k + 1) ≠ s := fun h e => by
  have h2 : (orTo s t (k + 1))[k]? = some (s[k] ||| t[k]) := by rw [hn]; simp [hlen, hks]
  rw [e, List.getElem?_eq_getElem hks] at h2
  exact h (Option.some.inj h2).symm
 have hbu : ∀ a b : W64, bits .u64 (· ||| ·) (a.toNat : Int) (b.toNat : Int) = .int .u64 ((a ||| b : W64).toNat : Int) := fun a b => bitsU _ a b
 generalize hS : L.set i (.row ty ((orTo s t k).map pw)) = L1 at *
 generalize hR : (orTo s t k).map pw = R at *
 have g1' : ∀ h : k < R.length, R[k] = pw s[k] := fun h => Option.some.inj (by rw [← List.getElem?_eq_getElem h]; exact g1)
 generalize hx : s[k] = x at *
 generalize hy : t[k] = y at *
 generalize hz : x ||| y = z at *
 have hbu2 : bits .u64 (· ||| ·) (x.toNat : Int) (y.toNat : Int) = .int .u64 (z.toNat : Int) := by rw [hbu, hz]
 by_cases hc : z = x
 ·rw [hc, hset] at hn
  simp [e0, e5, e8, e9, e10, hks, hks', gi, gj, g1, g1', g2, hbu2, hc, hw]
  exact ⟨m - 1, by omega, k + 1, by omega, by rw [hn, hR, hS], by simp [e0, e5, e8, e9, hn]⟩
 ·have hc' : ¬ ((z.toNat : Int) = (x.toNat : Int)) := fun h => hc (hneq.1 h)
  have hc2 : ¬ z.toNat = x.toNat := fun h => hc' (by exact_mod_cast h)
  simp [e0, e5, e8, e9, e10, hks, hks', gi, gj, g1, g1', g2, hbu2, hc, hc', hc2, hw, hle, hp]
  refine ⟨m - 1, by omega, k + 1, by omega, ?_, ?_⟩
  ·simp only [hss, hn, List.map_set]
  ·have := hchg hc
   simp [e0, e8, e9, this]
def stCells (base w n : Nat) : List PV := (List.range n).map fun k => .slc (base + k) 0 w w
def stObjs (st : List (List W64)) : List LObj := st.map fun s => .row 90 (s.map pw)
def Lof (P : List LObj) (w : Nat) (st : List (List W64)) : List LObj := P ++ (.row 85 (stCells (P.length + 1) w st.length) :: stObjs st)
theorem Lof_len {P : List LObj} {w : Nat} {st : List (List W64)} : (Lof P w st).length = P.length + 1 + st.length := by simp [Lof, stObjs]; omega
theorem Lof_cells {P J : List LObj} {w : Nat} {st : List (List W64)} : (Lof P w st ++ J)[P.length]? = some (.row 85 (stCells (P.length + 1) w st.length)) := by
 unfold Lof
 rw [List.append_assoc, List.getElem?_append_right (Nat.le_refl _)]
 simp
theorem Lof_set {P J : List LObj} {w : Nat} {st : List (List W64)} {k : Nat} (hk : k < st.length) : (Lof P w st ++ J)[P.length + 1 + k]? = some (.row 90 (st[k].map pw)) := by
 unfold Lof
 rw [List.append_assoc, List.getElem?_append_right (by omega), show P.length + 1 + k - P.length = k + 1 by omega, List.cons_append, List.getElem?_cons_succ, List.getElem?_append_left (by simp [stObjs, hk])]
 simp [stObjs, hk]
theorem Lof_upd {P J : List LObj} {w : Nat} {st : List (List W64)} {k : Nat} (hk : k < st.length) (s : List W64) : (Lof P w st ++ J).set (P.length + 1 + k) (.row 90 (s.map pw)) = Lof P w (st.set k s) ++ J := by
 unfold Lof
 rw [List.append_assoc, List.append_assoc, List.set_append_right _ _ (by omega), show P.length + 1 + k - P.length = k + 1 by omega, List.cons_append, List.set_cons_succ, List.set_append_left _ _ (by simp [stObjs, hk]), List.length_set, List.cons_append]
 congr 3
 simp [stObjs, List.map_set]
theorem stCells_get {base w n k : Nat} (h : k < n) : (stCells base w n)[k]? = some (.slc (base + k) 0 w w) := by simp [stCells, h]
def natI (l : List Nat) : List Int := l.map fun (k : Nat) => (k : Int)
def PassS (d : Df) (st0 st : List (List W64)) (ch : Bool) (Cl : Prop) : Prop := (ch = true ∧ missL st < missL st0) ∨ (ch = false ∧ st = st0 ∧ Cl)
def SvJ1 (d : Df) (P : List LObj) (w : Nat) (ins nearV thrV : PV) (m : Nat) (E : PEnv) (L : List LObj) : Prop := ∃ st J ch, m = missL st + (if ch = true then 1 else 0) ∧ L = Lof P w st ++ J ∧ d.St w st ∧
 (ch = false → ∀ k, k < d.n → ∀ m ∈ d.near k, d.closedAt st k m) ∧ Has E [(0, ins), (1, .slc P.length 0 d.n d.n), (2, nearV), (3, thrV), (8, pbool ch)]
def SvJ2 (d : Df) (P : List LObj) (w : Nat) (ins nearV thrV : PV) (st0 : List (List W64)) (m : Nat) (E : PEnv) (L : List LObj) : Prop := ∃ st J ch k, k + m = d.n ∧ L = Lof P w st ++ J ∧ d.St w st ∧
 PassS d st0 st ch (∀ k', k' < k → ∀ m ∈ d.near k', d.closedAt st0 k' m) ∧ Has E [(0, ins), (1, .slc P.length 0 d.n d.n), (2, nearV), (3, thrV), (8, pbool ch), (14, pin d.n), (15, pin k)]
def SvJ3 (d : Df) (P : List LObj) (w : Nat) (ins nearV thrV : PV) (st0 : List (List W64)) (k : Nat) (m : Nat) (E : PEnv) (L : List LObj) : Prop := ∃ st J ch j, j + m = (d.near k).length ∧ L = Lof P w st ++ J ∧ d.St w st ∧
 PassS d st0 st ch ((∀ k', k' < k → ∀ m ∈ d.near k', d.closedAt st0 k' m) ∧ ∀ m ∈ (d.near k).take j, d.closedAt st0 k m) ∧
 Has E [(0, ins), (1, .slc P.length 0 d.n d.n), (2, nearV), (3, thrV), (8, pbool ch), (9, pin k), (14, pin d.n), (15, pin k), (20, ints 3 (natI (d.near k))), (21, pin (d.near k).length), (22, pin j)]
structure SvFn (d : Df) (P : List LObj) (w : Nat) (nearV thrV : PV) (thrF : Nat → List (List W64) → List W64) : Prop where
 near : ∀ k, k < d.n → ∀ st J K, d.St w st → K (ints 3 (natI (d.near k))) (Lof P w st ++ J) → PF FD XA XN false nearV [pin k] (Lof P w st ++ J) K
 thr : ∀ m, m < d.n → ∀ st J K, d.St w st → K (.slc (Lof P w st ++ J).length 0 w w) (Lof P w st ++ J ++ [.row 90 ((thrF m st).map pw)]) → PF FD XA XN true thrV [pin m] (Lof P w st ++ J) K
 len : ∀ m st, m < d.n → d.St w st → (thrF m st).length = w
 mem : ∀ m st (h : m < st.length), d.St w st → ∀ x, hasW (thrF m st) x = d.thr m (hasW st[m]) x
 near_lt : ∀ k, k < d.n → ∀ m ∈ d.near k, m < d.n
 near_len : ∀ k, k < d.n → (d.near k).length ≤ 1000000
set_option maxRecDepth 8000 in
set_option maxHeartbeats 8000000 in
theorem solve_ok {d : Df} {P : List LObj} {w : Nat} {nearV thrV : PV} {thrF : Nat → List (List W64) → List W64} {ins : List FIns} {st0 : List (List W64)} {J0 : List LObj} {K : PV → List LObj → Prop}
  (hf : SvFn d P w nearV thrV thrF) (hst : d.St w st0) (hi : ins.length = d.n) (hn : d.n ≤ 100000) (hw : w ≤ 100000)
  (hk : ∀ st J, d.St w st → (∀ k, k < d.n → ∀ m ∈ d.near k, d.closedAt st k m) → K (.tup []) (Lof P w st ++ J)) :
  PF FD XA XN false (.fn 44 [] []) [recs 62 encI ins, .slc P.length 0 d.n d.n, nearV, thrV] (Lof P w st0 ++ J0) K := by
 refine PF_code0 rfl rfl rfl (PW_ok _ ?_)
 have hres : ir44.results = [] := rfl
 have hb : big d.n := by unfold big; omega
 generalize hR : recs 62 encI ins = insV
 simp [ir44]
 refine PC_loop0 (SvJ1 d P w insV nearV thrV) ?_ (k := missL st0 + 1) ⟨st0, J0, true, by simp, rfl, hst, by simp, by simp⟩
 rintro m E L ⟨st, J, ch, hm, rfl, hs, hcl, ⟨e0, e1, e2, e3, e8, -⟩⟩
 cases ch with
 | false =>
  simp [e0, e1, e2, e3, e8]
  exact hk st J hs (hcl rfl)
 | true =>
 have hlen : (insV) = .fz 62 d.n (ins.flatMap encI) := by rw [← hR, recs, hi]
 simp [e0, e1, e2, e3, e8, hlen]
 refine PC_loop0 (SvJ2 d P w insV nearV thrV st) ?_ (k := d.n) ⟨st, J, false, 0, by simp, rfl, hs, .inr ⟨rfl, rfl, fun k' h => by omega⟩, by simp [e0, e1, e2, e3, hlen]⟩
 clear e0 e1 e2 e3 e8
 rintro m2 E L ⟨st1, J1, ch, k, hkm, rfl, hs1, hp, ⟨e0, e1, e2, e3, e8, e14, e15, -⟩⟩
 by_cases hkn : k < d.n
 case neg =>
  have hke : k = d.n := by omega
  subst hke
  simp [e0, e1, e2, e3, e8, e14, e15]
  refine ⟨missL st1 + (if ch = true then 1 else 0), ?_, st1, J1, ch, rfl, rfl, hs1, fun hc => ?_, by simp [e0, e1, e2, e3, e8, hlen]⟩
  ·rcases hp with ⟨h1, h2⟩ | ⟨h1, h2, _⟩
   ·rw [hm, if_pos rfl, if_pos h1]; omega
   ·rw [hm, h1, h2]; simp
  ·rcases hp with ⟨h1, _⟩ | ⟨_, h2, h3⟩
   ·rw [h1] at hc; cases hc
   ·rw [h2]; exact h3
 simp [e0, e1, e2, e3, e8, e14, e15, hkn]
 unfold PFk
 refine hf.near k hkn st1 J1 _ hs1 ?_
 have hnl : (natI (d.near k)).length = (d.near k).length := by simp [natI]
 simp [e0, e1, e2, e3, e8, e14, e15, ints, hnl]
 refine PC_loop0 (SvJ3 d P w insV nearV thrV st k) ?_ (k := (d.near k).length) ⟨st1, J1, ch, 0, by simp, rfl, hs1, ?_, by simp [e0, e1, e2, e3, e8, e14, e15, ints, hnl]⟩
 rotate_left
 ·rcases hp with h | ⟨h1, h2, h3⟩
  ·exact .inl h
  ·exact .inr ⟨h1, h2, h3, by simp⟩
 clear e0 e1 e2 e3 e8 e14 e15 hp hs1
 rintro m3 E L ⟨st2, J2, ch, j, hjm, rfl, hs2, hp, ⟨e0, e1, e2, e3, e8, e9, e14, e15, e20, e21, e22, -⟩⟩
 have hbl : big (d.near k).length := by have := hf.near_len k hkn; unfold big; omega
 by_cases hj : j < (d.near k).length
 case neg =>
  have hje : j = (d.near k).length := by omega
  subst hje
  simp [e0, e1, e2, e3, e8, e9, e14, e15, e20, e21, e22, wrap_inc hkn hb]
  refine ⟨m2 - 1, by omega, st2, J2, ch, k + 1, by omega, rfl, hs2, ?_, by simp [e0, e1, e2, e3, e8, e14]⟩
  rcases hp with h | ⟨h1, h2, h3, h4⟩
  ·exact .inl h
  ·refine .inr ⟨h1, h2, fun k' hk' => ?_⟩
   by_cases e : k' = k
   ·subst e; rw [List.take_length] at h4; exact h4
   ·exact h3 k' (by omega)
 have hst2 : st2.length = d.n := hs2.len
 have hk2 : k < st2.length := by omega
 have hmem : (d.near k)[j] ∈ d.near k := List.getElem_mem hj
 have hcut : cut ((natI (d.near k)).map pin) j 1 = [pin ((d.near k)[j] : Nat)] := by
  rw [cut1 (by rw [hnl]; exact hj)]; simp [natI]
 have htake : (d.near k).take (j + 1) = (d.near k).take j ++ [(d.near k)[j]] := List.take_succ_eq_append_getElem hj
 generalize hnode : (d.near k)[j] = mm at *
 have hmm := hf.near_lt k hkn mm hmem
 have hc1 := Lof_cells (P := P) (J := J2) (w := w) (st := st2)
 have hc2 : (stCells (P.length + 1) w st2.length)[k]? = some (.slc (P.length + 1 + k) 0 w w) := stCells_get hk2
 have hwk : st2[k].length = w := hs2.wid _ (List.getElem_mem hk2)
 have hkc : (k : Int) < d.n := by omega
 simp [e0, e1, e2, e3, e8, e9, e14, e15, e20, e21, e22, hj, ints, hnl, hcut, hkn, hkc, hc1, hc2]
 unfold PGk
 refine hf.thr mm hmm st2 J2 _ hs2 ?_
 have hT := hf.len mm st2 hmm hs2
 have hm2 : mm < st2.length := by omega
 have hX := hf.mem mm st2 hm2 hs2
 generalize thrF mm st2 = T' at *
 have hlT : st2[k].length = T'.length := by omega
 have hs3 := hs2.add hk2 hm2 hmem hT hX
 simp
 unfold PFk
 have hadd : ∀ K2 : PV → List LObj → Prop, K2 (pbool (decide (orW st2[k] T' ≠ st2[k]))) (Lof P w (st2.set k (orW st2[k] T')) ++ (J2 ++ [.row 90 (T'.map pw)])) → PF FD XA XN false (.fn 64 [] []) [.slc (P.length + 1 + k) 0 w w, .slc ((Lof P w st2).length + J2.length) 0 w w] (Lof P w st2 ++ (J2 ++ [.row 90 (T'.map pw)])) K2 := by
  intro K2 h
  have := add_w (i := P.length + 1 + k) (j := (Lof P w st2).length + J2.length) (ty := 90) (ty' := 90) (s := st2[k]) (t := T') (L := Lof P w st2 ++ (J2 ++ [.row 90 (T'.map pw)])) (K := K2) (by rw [Lof_len]; omega) (Lof_set hk2)
   (by rw [← List.append_assoc, List.getElem?_append_right (by simp)]; simp) hlT (by omega) (by rw [Lof_upd hk2]; exact h)
  rwa [hwk] at this
 refine hadd _ ?_
 have hwj := wrap_inc hj hbl
 have e26 : ∀ {E' : PEnv}, True := trivial
 by_cases hc : orW st2[k] T' = st2[k]
 ·have hset : st2.set k (orW st2[k] T') = st2 := by rw [hc]; exact set_self hk2
  rw [hset]
  simp [hc, e0, e1, e2, e3, e8, e9, e14, e15, e20, e21, e22, hwj]
  refine ⟨m3 - 1, by omega, st2, _, ch, j + 1, by omega, rfl, hs2, ?_, by simp [e0, e1, e2, e3, e8, e9, e14, e15, e20, e21]⟩
  rcases hp with h | ⟨h1, h2, h3, h4⟩
  ·exact .inl h
  ·refine .inr ⟨h1, h2, h3, fun m' hm' => ?_⟩
   rw [htake] at hm'
   rcases List.mem_append.1 hm' with h5 | h5
   ·exact h4 m' h5
   ·rw [List.mem_singleton.1 h5, ← h2]
    exact Df.closed_of hk2 hm2 hlT hX hc
 ·have hlt := missL_set hk2 hlT hc
  simp [hc, e0, e1, e2, e3, e8, e9, e14, e15, e20, e21, e22, hwj]
  refine ⟨m3 - 1, by omega, _, _, true, j + 1, by omega, rfl, hs3, .inl ⟨rfl, ?_⟩, by simp [e0, e1, e2, e3, e9, e14, e15, e20, e21]⟩
  rcases hp with ⟨_, h⟩ | ⟨_, h, _⟩
  ·omega
  ·have h9 : missL st2 = missL st := by rw [h]
   omega
theorem PP.ro {F : FuncId → Option IFunc} {X0 X : Ext} {L : List LObj} {fv v : PV} {args args' : List PV} {K : PV → List LObj → Prop} (h : PP F X0 X fv args' v) (hargs : VwL [] L args args') (ha : noIdL args' = true) (hf : noId fv = true) (hv : noId v = true) (hz : zf v = true) (q : Bool) (hk : K v L) : PF F X0 X q fv args L K := by
 refine (PF.ro (K := fun v' L' => v' = v ∧ L' = []) (.same hf) hargs hf ha (h true []) (fun v0 L0 h => by rw [h.1, h.2]; exact ⟨hz, fun o ho => by simp at ho⟩) q).mono ?_
 rintro v' L' ⟨v0, L0, ⟨rfl, rfl⟩, rfl, rfl⟩
 rw [ren_noId _ _ hv]
 simpa using hk
def noWr : List (List UInt8) := [[115, 116, 111, 114, 101], [105, 102], [114, 101, 116, 117, 114, 110], [103, 111], [119, 97, 105, 116], [97, 115, 115, 101, 114, 116], [115, 112, 97, 119, 110]]
def wordN (n : Nat) : List UInt8 := wordT.getD n []
def useB (n k : Nat) : Bool := ((fldN n)[k]?.isSome) && ((decide (((fldN n).getD k 0).toNat = 114) || decide (((fldN n).getD k 0).toNat = 82)) == (decide (1 ≤ kindAt (ruleN n) k) && decide (kindAt (ruleN n) k ≤ 4))) &&
 ((decide (kindAt (ruleN n) k = 3) || decide (kindAt (ruleN n) k = 4)) == (decide (k = 0) && !(decide (wordN n ∈ noWr)) && decide (1 ≤ kindAt (ruleN n) k) && decide (kindAt (ruleN n) k ≤ 4)))
theorem useB_all : ∀ n, n < 38 → ∀ k, k < 4 → n = 0 ∨ useB n k = true := by decide
theorem fld_use {n k : Nat} (hn : n < 38) (h1 : 1 ≤ n) (hk : k < 4) : (∃ c, (fldN n)[k]? = some c ∧ ((c.toNat = 114 ∨ c.toNat = 82) ↔ (1 ≤ kindAt (ruleN n) k ∧ kindAt (ruleN n) k ≤ 4))) ∧ ((kindAt (ruleN n) k = 3 ∨ kindAt (ruleN n) k = 4) ↔ (k = 0 ∧ wordN n ∉ noWr ∧ 1 ≤ kindAt (ruleN n) k ∧ kindAt (ruleN n) k ≤ 4)) := by
 have h := (useB_all n hn k hk).resolve_left (by omega)
 unfold useB at h
 simp only [Bool.and_eq_true, beq_iff_eq] at h
 obtain ⟨⟨a, b⟩, c⟩ := h
 obtain ⟨x, hx⟩ := Option.isSome_iff_exists.1 a
 refine ⟨⟨x, hx, ?_⟩, ?_⟩
 ·rw [Bool.eq_iff_iff] at b
  simpa [List.getD_eq_getElem?_getD, hx] using b
 ·rw [Bool.eq_iff_iff] at c
  simpa [and_assoc] using c
def allN (i : FIns) : List Int := [i.a, i.b, i.c, i.d]
theorem allN_get {i : FIns} {k : Nat} (hk : k < 4) : (allN i)[k]? = some (numAt i k) := by
 match k, hk with
 | 0, _ => rfl
 | 1, _ => rfl
 | 2, _ => rfl
 | 3, _ => rfl
def UrJ (i : FIns) (n m : Nat) (E : PEnv) (L : List LObj) : Prop := ∃ k : Nat, k + m = 4 ∧ L = [.row 3 ((keepL (readsTo (ruleN n) i k)).map pin)] ∧
 Has E [(1, .fp (encI i)), (4, pstr (fldN n)), (5, ints 3 (allN i)), (6, .slc 0 0 (keepL (readsTo (ruleN n) i k)).length (keepL (readsTo (ruleN n) i k)).length), (7, pin (writeTo (ruleN n) i k)), (8, pin k)]
theorem keepL_append {a b : List Int} : keepL (a ++ b) = keepL a ++ keepL b := by simp [keepL]
theorem keepL_one {x : Int} : keepL [x] = if x = -1 then [] else [x] := by
 unfold keepL
 by_cases h : x = -1 <;> simp [h]
theorem keepL_len {l : List Int} : (keepL l).length ≤ l.length := List.length_filter_le _ _
def UrJ2 (i : FIns) (n : Nat) (m : Nat) (E : PEnv) (L : List LObj) : Prop := ∃ k : Nat, k + m = i.list.length ∧ L = [.row 3 ((keepL (readsTo (ruleN n) i 4 ++ i.list.take k)).map pin)] ∧
 Has E [(1, .fp (encI i)), (6, .slc 0 0 (keepL (readsTo (ruleN n) i 4 ++ i.list.take k)).length (keepL (readsTo (ruleN n) i 4 ++ i.list.take k)).length), (7, pin (writeTo (ruleN n) i 4)), (9, pin k)]
set_option maxRecDepth 8000 in
set_option maxHeartbeats 8000000 in
theorem usesR_ok {i : FIns} (hl : i.list.length ≤ 1000000) : PPd (.fn 71 [] []) [.agg (encI i)] (usesV i) := by
 refine PP_code rfl rfl rfl (by simp) (by simp [noId]) (by simp [usesV, noId, noIdL]) ?_
 have hres : ir71.results = [.tmp 2, .tmp 3] := rfl
 obtain ⟨d1, d2, d3, d4, d5, d6⟩ := encI_parts i
 have h0 : (encI i)[0]? = some (pin i.op) := rfl
 have ha : (encI i)[1]? = some (pin i.a) := rfl
 have hb' : (encI i)[2]? = some (pin i.b) := rfl
 have hc : (encI i)[3]? = some (pin i.c) := rfl
 have hd : (encI i)[4]? = some (pin i.d) := rfl
 by_cases hop : 1 ≤ i.op ∧ i.op ≤ 37
 case neg =>
  have hr : readsS i = [] := by simp only [readsS, hop, if_false]
  have hw : writesS i = -1 := by simp only [writesS, hop, if_false]
  refine PW_ok _ ?_
  by_cases h1 : i.op < 1
  ·simp [ir71, h0, h1, usesV, hr, hw]
   exact .tup rfl (fun j a b => by
    match j, a, b with
    | 0, _, _ => exact .nil
    | 1, _, _ => exact .same rfl)
  ·have h2 : 37 < i.op := by omega
   simp [ir71, h0, h1, h2, usesV, hr, hw]
   exact .tup rfl (fun j a b => by
    match j, a, b with
    | 0, _, _ => exact .nil
    | 1, _, _ => exact .same rfl)
 obtain ⟨n, hn⟩ : ∃ n : Nat, i.op = n := ⟨i.op.toNat, by omega⟩
 have hn1 : 1 ≤ n := by omega
 have hn2 : n < 38 := by omega
 have hop' : i.op.toNat = n := by omega
 have hrd : readsS i = keepL (readsTo (ruleN n) i 4 ++ i.list) := by simp only [readsS, hop, and_self, if_true, hop']
 have hwr : writesS i = writeTo (ruleN n) i 4 := by simp only [writesS, hop, and_self, if_true, hop']
 rw [hn] at h0
 have g1 : ¬ (n : Int) < 1 := by omega
 have g2 : ¬ (37 : Int) < n := by omega
 refine PC_seq (PW_ok _ ?_)
 simp
 refine PC_seq (PW_ok _ ?_)
 simp [h0, g1, g2]
 refine PC_seq (PW_ok _ ?_)
 simp [h0]
 refine (flds_ok hn2).runk ?_
 simp
 refine PC_seq (PW_ok _ ?_)
 simp [ha, hb', hc, hd]
 refine PC_seq (PW_ok _ ?_)
 simp
 refine PC_seq (PW_ok _ ?_)
 simp
 refine PC.abs (Abs.keep [2] [(1, .fp (encI i)), (4, pstr (fldN n)), (5, ints 3 (allN i)), (6, .slc 0 0 0 0), (7, pin (-1))] (L' := [.row 3 []]) (by simp) (by simp) (.cons ⟨_, rfl, .row .nil⟩ .nil) ?_) ?_
 ·simp [ints, allN]
  exact ⟨.fzp (by simp) rfl (by simp) (by simp) rfl rfl (fun j a b => .same (noIdL_get (by simp) j a)), .same rfl, .fzs (cs'' := (allN i).map pin) (by simp) rfl (by simp) (by simp) rfl rfl (fun j a b => .same (noIdL_get (by simp [noId]) j a)), .slc rfl, .same rfl⟩
 have envE : Has (envOf [(1, .fp (encI i)), (4, pstr (fldN n)), (5, ints 3 (allN i)), (6, .slc 0 0 0 0), (7, pin (-1))]) [(1, .fp (encI i)), (4, pstr (fldN n)), (5, ints 3 (allN i)), (6, .slc 0 0 0 0), (7, pin (-1))] := Has.env (by simp)
 generalize envOf [(1, .fp (encI i)), (4, pstr (fldN n)), (5, ints 3 (allN i)), (6, .slc 0 0 0 0), (7, pin (-1))] = E at envE ⊢
 obtain ⟨e1, e4, e5, e6, e7, -⟩ := envE
 refine PC_seq (PC_seq (PW_ok _ ?_))
 simp [e1, e4, e5, e6, e7]
 have hd6 : List.drop 6 (encI i) = [ints 3 i.list] := rfl
 refine PC_block (PC_loopG (UrJ i n) ?_ (k := 4) ⟨0, by simp, by simp [keepL, readsTo], by simp [e1, e4, e5, e6, e7, keepL, readsTo, writeTo]⟩)
 clear e1 e4 e5 e6 e7 ha hb' hc hd
 rintro m E L ⟨k, hkm, rfl, ⟨e1, e4, e5, e6, e7, e8, -⟩⟩
 by_cases hk4 : k < 4
 case neg =>
  have hke : k = 4 := by omega
  subst hke
  simp [e1, e4, e5, e6, e7, e8]
  refine PC_seq (PC_seq (PW_ok _ ?_))
  simp [e1, e4, e5, e6, e7, e8]
  have hbl : big i.list.length := by unfold big; omega
  refine PC_block (PC_loopG (UrJ2 i n) ?_ (k := i.list.length) ⟨0, by simp, by simp, by simp [e1, e6, e7]⟩)
  clear e1 e4 e5 e6 e7 e8
  rintro m E L ⟨k, hkm, rfl, ⟨e1, e6, e7, e9, -⟩⟩
  by_cases hk : k < i.list.length
  case neg =>
   have hke : k = i.list.length := by omega
   subst hke
   rw [List.take_length] at e6
   simp [e1, e6, e7, e9, hd6, ints]
   refine PW_ok _ ?_
   simp [e1, e6, e7, e9, hd6, ints, hres, usesV, hrd, hwr]
   exact .tup rfl (fun j a b => by
    match j, a, b with
    | 0, _, _ => exact Vw.frz rfl (by simp) (by simp [noId]) rfl
    | 1, _, _ => exact .same rfl)
  have hcut := cut1 (f := pin) hk
  have htk : i.list.take (k + 1) = i.list.take k ++ [i.list[k]] := List.take_succ_eq_append_getElem hk
  have hw := wrap_inc hk hbl
  have hn9 : keepL (readsTo (ruleN n) i 4 ++ i.list.take (k + 1)) = keepL (readsTo (ruleN n) i 4 ++ i.list.take k) ++ keepL [i.list[k]] := by rw [htk, ← List.append_assoc, keepL_append]
  have hlen : (keepL (readsTo (ruleN n) i 4 ++ i.list.take k)).length ≤ 4 + i.list.length := by
   have h1 := keepL_len (l := readsTo (ruleN n) i 4 ++ i.list.take k)
   have h2 := readsTo_len (r := ruleN n) (i := i) 4
   simp at h1; omega
  rw [keepL_one] at hn9
  generalize i.list[k] = x at *
  by_cases hx : x = -1
  ·rw [if_pos hx, List.append_nil] at hn9
   simp [e1, e6, e7, e9, hd6, ints, hk, hcut, hx, hw]
   exact GoOn.same (m - 1) (by omega) ⟨k + 1, by omega, by rw [hn9], by rw [hn9]; simp [e1, e6, e7]⟩
  ·rw [if_neg hx] at hn9
   have rr : roomy ((keepL (readsTo (ruleN n) i 4 ++ i.list.take k)).length + 1) 8 := roomy_of (by omega) (by omega)
   generalize keepL (readsTo (ruleN n) i 4 ++ i.list.take k) = o at *
   simp [e1, e6, e7, e9, hd6, ints, hk, hcut, hx, hw, rr]
   refine GoOn.keep [2] [(1, .fp (encI i)), (6, .slc 0 0 (o.length + 1) (o.length + 1)), (7, pin (writeTo (ruleN n) i 4)), (9, pin (k + 1 : Nat))] (L' := [.row 3 ((o ++ [x]).map pin)]) (m - 1) (by omega) (by simp) (by simp) (.cons ⟨_, rfl, by simpa using .row (VwL.same (by simp [noId]))⟩ .nil) ?_ ⟨k + 1, by omega, by rw [hn9], by rw [hn9]; simpa using Has.env (l := [(1, .fp (encI i)), (6, .slc 0 0 (o.length + 1) (o.length + 1)), (7, pin (writeTo (ruleN n) i 4)), (9, pin (k + 1 : Nat))]) (by simp)⟩
   simp [e1, e7]
   exact ⟨.same (by simp [noId]), .slc rfl, .same rfl, .same rfl⟩
 obtain ⟨⟨ch, hch, hch2⟩, hwk⟩ := fld_use hn2 hn1 hk4
 have hg := allN_get (i := i) hk4
 have hcut : cut ((allN i).map pin) k 1 = [pin (numAt i k)] := by
  rw [cut1 (by show k < 4; exact hk4)]
  have := (List.getElem?_eq_some_iff.1 hg).2
  rw [this]
 have hlA : (allN i).length = 4 := rfl
 have hk4' : (k : Int) < 4 := by omega
 have hw : IntKind.wrap .i64 ((k : Int) + 1) = ((k + 1 : Nat) : Int) := by rw [wrap64 (by omega) (by omega)]; simp
 have hrl := readsTo_len (r := ruleN n) (i := i) k
 have hkl := keepL_len (l := readsTo (ruleN n) i k)
 have hn9 : keepL (readsTo (ruleN n) i (k + 1)) = keepL (readsTo (ruleN n) i k) ++ keepL (readK (ruleN n) i k) := by simp only [readsTo, keepL_append]
 have same : keepL (readK (ruleN n) i k) = [] → writeTo (ruleN n) i (k + 1) = writeTo (ruleN n) i k → ∀ {E' : PEnv} {L' : List LObj}, E'.get 1 = some (.fp (encI i)) → E'.get 4 = some (pstr (fldN n)) → E'.get 5 = some (ints 3 (allN i)) → E'.get 6 = some (.slc 0 0 (keepL (readsTo (ruleN n) i k)).length (keepL (readsTo (ruleN n) i k)).length) → E'.get 7 = some (pin (writeTo (ruleN n) i k)) → E'.get 8 = some (pin (k + 1 : Nat)) → L'[0]? = some (.row 3 ((keepL (readsTo (ruleN n) i k)).map pin)) → GoOn (UrJ i n) m E' L' := by
  intro h1 h2 E' L' a1 a4 a5 a6 a7 a8 hj
  rw [h1, List.append_nil] at hn9
  refine GoOn.keep [0] [(1, .fp (encI i)), (4, pstr (fldN n)), (5, ints 3 (allN i)), (6, .slc 0 0 (keepL (readsTo (ruleN n) i (k + 1))).length (keepL (readsTo (ruleN n) i (k + 1))).length), (7, pin (writeTo (ruleN n) i (k + 1))), (8, pin (k + 1 : Nat))] (m - 1) (by omega) (by simp) (by simpa using (List.getElem?_eq_some_iff.1 hj).1) (.cons ⟨_, hj, .row (VwL.same (by simp [noId]))⟩ .nil) ?_ ⟨k + 1, by omega, by rw [hn9], Has.env (by simp)⟩
  rw [hn9, h2]
  simp only [HasV_cons, HasV_nil, and_true]
  exact ⟨⟨_, a1, .same (by simp [noId])⟩, ⟨_, a4, .same rfl⟩, ⟨_, a5, .same (by simp)⟩, ⟨_, a6, .slc rfl⟩, ⟨_, a7, .same rfl⟩, ⟨_, a8, .same rfl⟩⟩
 have hwt : writeTo (ruleN n) i (k + 1) = if kindAt (ruleN n) k = 3 ∨ kindAt (ruleN n) k = 4 then numAt i k else writeTo (ruleN n) i k := rfl
 have nrd : ∀ {a : Int}, numAt i k = -1 → keepL (readK (ruleN n) i k) = [] := by
  intro _ h; unfold readK; split
  ·rw [h, keepL_one]; rfl
  ·rfl
 by_cases hr : ch.toNat = 114 ∨ ch.toNat = 82
 case neg =>
  have hkd : ¬ (1 ≤ kindAt (ruleN n) k ∧ kindAt (ruleN n) k ≤ 4) := fun h => hr (hch2.2 h)
  have h1 : keepL (readK (ruleN n) i k) = [] := by unfold readK; rw [if_neg (by omega)]; rfl
  have h2 : writeTo (ruleN n) i (k + 1) = writeTo (ruleN n) i k := by rw [hwt, if_neg (by omega)]
  have hr1 : ¬ (ch.toNat : Int) = 114 := by omega
  have hr2 : ¬ (ch.toNat : Int) = 82 := by omega
  simp [e1, e4, e5, e6, e7, e8, hk4', hch, hr1, hr2, hw]
  exact same h1 h2 (by simp [e1]) (by simp [e4]) (by simp [e5]) (by simp [e6]) (by simp [e7]) (by simp) (by simp)
 by_cases hx : numAt i k = -1
 ·have h1 := nrd (a := 0) hx
  have h2 : writeTo (ruleN n) i (k + 1) = writeTo (ruleN n) i k := by
   rw [hwt]
   split
   ·rename_i h
    have := (hwk.1 h).1
    subst this
    rw [hx]; rfl
   ·rfl
  rcases hr with hr | hr
  ·simp [e1, e4, e5, e6, e7, e8, hk4', hk4, hch, hr, hw, ints, hlA, hcut, hx]
   exact same h1 h2 (by simp [e1]) (by simp [e4]) (by simp [e5, ints]) (by simp [e6]) (by simp [e7]) (by simp) (by simp)
  ·simp [e1, e4, e5, e6, e7, e8, hk4', hk4, hch, hr, hw, ints, hlA, hcut, hx]
   exact same h1 h2 (by simp [e1]) (by simp [e4]) (by simp [e5, ints]) (by simp [e6]) (by simp [e7]) (by simp) (by simp)
 have hkk : 1 ≤ kindAt (ruleN n) k ∧ kindAt (ruleN n) k ≤ 4 := hch2.1 hr
 have rr : roomy ((keepL (readsTo (ruleN n) i k)).length + 1) 8 := roomy_of (by omega) (by omega)
 -- a register that is read
 have rd : ¬ (kindAt (ruleN n) k = 3 ∨ kindAt (ruleN n) k = 4) → ∀ {E' : PEnv} {L' : List LObj} {j : Nat}, E'.get 1 = some (.fp (encI i)) → E'.get 4 = some (pstr (fldN n)) → E'.get 5 = some (ints 3 (allN i)) → E'.get 6 = some (.slc j 0 ((keepL (readsTo (ruleN n) i k)).length + 1) ((keepL (readsTo (ruleN n) i k)).length + 1)) → E'.get 7 = some (pin (writeTo (ruleN n) i k)) → E'.get 8 = some (pin (k + 1 : Nat)) → L'[j]? = some (.row 3 ((keepL (readsTo (ruleN n) i k)).map pin ++ [pin (numAt i k)])) → GoOn (UrJ i n) m E' L' := by
  intro hkd E' L' j a1 a4 a5 a6 a7 a8 hj
  rw [if_neg hkd] at hwt
  have h1 : keepL (readK (ruleN n) i k) = [numAt i k] := by unfold readK; rw [if_pos (by omega), keepL_one, if_neg hx]
  rw [h1] at hn9
  refine GoOn.keep [j] [(1, .fp (encI i)), (4, pstr (fldN n)), (5, ints 3 (allN i)), (6, .slc 0 0 (keepL (readsTo (ruleN n) i (k + 1))).length (keepL (readsTo (ruleN n) i (k + 1))).length), (7, pin (writeTo (ruleN n) i (k + 1))), (8, pin (k + 1 : Nat))] (m - 1) (by omega) (by simp) (by simpa using (List.getElem?_eq_some_iff.1 hj).1) (.cons ⟨_, hj, .row (VwL.same (by simp [noId]))⟩ .nil) ?_ ⟨k + 1, by omega, by rw [hn9]; simp, Has.env (by simp)⟩
  rw [hn9, hwt]
  simp only [HasV_cons, HasV_nil, and_true, List.length_append, List.length_cons, List.length_nil]
  exact ⟨⟨_, a1, .same (by simp [noId])⟩, ⟨_, a4, .same rfl⟩, ⟨_, a5, .same (by simp)⟩, ⟨_, a6, .slc rfl⟩, ⟨_, a7, .same rfl⟩, ⟨_, a8, .same rfl⟩⟩
 by_cases hk0 : k = 0
 case neg =>
  have hkd : ¬ (kindAt (ruleN n) k = 3 ∨ kindAt (ruleN n) k = 4) := fun h => hk0 (hwk.1 h).1
  have hk0' : ¬ (k : Int) = 0 := by omega
  rcases hr with hr | hr
  ·simp [e1, e4, e5, e6, e7, e8, hk4', hk4, hch, hr, hw, ints, hlA, hcut, hx, hk0, hk0', rr]
   exact rd hkd (j := 2) (by simp [e1]) (by simp [e4]) (by simp [e5, ints]) (by simp) (by simp [e7]) (by simp) (by simp)
  ·simp [e1, e4, e5, e6, e7, e8, hk4', hk4, hch, hr, hw, ints, hlA, hcut, hx, hk0, hk0', rr]
   exact rd hkd (j := 2) (by simp [e1]) (by simp [e4]) (by simp [e5, ints]) (by simp) (by simp [e7]) (by simp) (by simp)
 subst hk0
 have hk0 : (encI i)[0]? = some (pin n) := h0
 have hnw : (n : Int) < 38 := by omega
 have hcw : cut (wordT.map pstr) n 1 = [pstr (wordN n)] := by
  have hl : n < wordT.length := by show n < 38; omega
  rw [cut1 hl]; simp [wordN, List.getD_eq_getElem?_getD, hl]
 have hE0 : encI i = [pin n, pin i.a, pin i.b, pin i.c, pin i.d, pstr i.text, ints 3 i.list] := by rw [← hn]; rfl
 have hlw : wordT.length = 38 := rfl
 have hw1 : IntKind.wrap .i64 1 = 1 := rfl
 have hhas := hasS_ok (t := 9) (l := noWr) (s := wordN n) (by decide)
 rcases hr with hr | hr
 ·simp [e1, e4, e5, e6, e7, e8, hk4', hk4, hch, hr, hw, ints, hlA, hcut, hx, rr]
  refine words_ok.runj ?_
  simp [e1, e4, e5, e6, e7, e8, hE0, strs, hlw, hnw, hcw]
  unfold PFk
  refine PP.ro (args' := [strs 9 noWr, pstr (wordN n)]) hhas (.cons (.fzs (cs'' := noWr.map pstr) (by simp) rfl (by simp) (by simp) rfl rfl (fun j a b => .same (noIdL_get (by simp [noId]) j a))) (.cons (.same rfl) .nil)) (by simp [noIdL, noId]) (by simp [noId, noIdL]) rfl rfl false ?_
  by_cases hm : wordN n ∈ noWr
  ·have hkd : ¬ (kindAt (ruleN n) 0 = 3 ∨ kindAt (ruleN n) 0 = 4) := fun h => (hwk.1 h).2.1 hm
   simp [e1, e4, e5, e6, e7, e8, ints, hm, hcut, hlA, rr]
   exact rd hkd (j := 3) (by simp [e1, hE0]) (by simp [e4]) (by simp [e5, ints]) (by simp) (by simp [e7]) (by simp [hw1]) (by simp)
  ·have hkd : kindAt (ruleN n) 0 = 3 ∨ kindAt (ruleN n) 0 = 4 := hwk.2 ⟨rfl, hm, hkk⟩
   rw [if_pos hkd] at hwt
   have h1 : keepL (readK (ruleN n) i 0) = [] := by unfold readK; rw [if_neg (by omega)]; rfl
   rw [h1, List.append_nil] at hn9
   simp [e1, e4, e5, e6, e7, e8, ints, hm, hcut, hlA, rr]
   refine GoOn.keep [0] [(1, .fp (encI i)), (4, pstr (fldN n)), (5, ints 3 (allN i)), (6, .slc 0 0 (keepL (readsTo (ruleN n) i 1)).length (keepL (readsTo (ruleN n) i 1)).length), (7, pin (writeTo (ruleN n) i 1)), (8, pin (1 : Nat))] (L' := [.row 3 ((keepL (readsTo (ruleN n) i 1)).map pin)]) (m - 1) (by omega) (by simp) (by simp) (.cons ⟨_, rfl, by rw [hn9]; exact .row (VwL.same (by simp [noId]))⟩ .nil) ?_ ⟨1, by omega, rfl, Has.env (by simp)⟩
   rw [hn9, hwt]
   simp [e1, e4, e5, e6, e7, e8, ints, hE0, hw1]
   exact ⟨.same (by simp [noId, noIdL]), .same rfl, .same (by simp [noId]), .slc rfl, .same rfl, .same rfl⟩
 ·simp [e1, e4, e5, e6, e7, e8, hk4', hk4, hch, hr, hw, ints, hlA, hcut, hx, rr]
  refine words_ok.runj ?_
  simp [e1, e4, e5, e6, e7, e8, hE0, strs, hlw, hnw, hcw]
  unfold PFk
  refine PP.ro (args' := [strs 9 noWr, pstr (wordN n)]) hhas (.cons (.fzs (cs'' := noWr.map pstr) (by simp) rfl (by simp) (by simp) rfl rfl (fun j a b => .same (noIdL_get (by simp [noId]) j a))) (.cons (.same rfl) .nil)) (by simp [noIdL, noId]) (by simp [noId, noIdL]) rfl rfl false ?_
  by_cases hm : wordN n ∈ noWr
  ·have hkd : ¬ (kindAt (ruleN n) 0 = 3 ∨ kindAt (ruleN n) 0 = 4) := fun h => (hwk.1 h).2.1 hm
   simp [e1, e4, e5, e6, e7, e8, ints, hm, hcut, hlA, rr]
   exact rd hkd (j := 3) (by simp [e1, hE0]) (by simp [e4]) (by simp [e5, ints]) (by simp) (by simp [e7]) (by simp [hw1]) (by simp)
  ·have hkd : kindAt (ruleN n) 0 = 3 ∨ kindAt (ruleN n) 0 = 4 := hwk.2 ⟨rfl, hm, hkk⟩
   rw [if_pos hkd] at hwt
   have h1 : keepL (readK (ruleN n) i 0) = [] := by unfold readK; rw [if_neg (by omega)]; rfl
   rw [h1, List.append_nil] at hn9
   simp [e1, e4, e5, e6, e7, e8, ints, hm, hcut, hlA, rr]
   refine GoOn.keep [0] [(1, .fp (encI i)), (4, pstr (fldN n)), (5, ints 3 (allN i)), (6, .slc 0 0 (keepL (readsTo (ruleN n) i 1)).length (keepL (readsTo (ruleN n) i 1)).length), (7, pin (writeTo (ruleN n) i 1)), (8, pin (1 : Nat))] (L' := [.row 3 ((keepL (readsTo (ruleN n) i 1)).map pin)]) (m - 1) (by omega) (by simp) (by simp) (.cons ⟨_, rfl, by rw [hn9]; exact .row (VwL.same (by simp [noId]))⟩ .nil) ?_ ⟨1, by omega, rfl, Has.env (by simp)⟩
   rw [hn9, hwt]
   simp [e1, e4, e5, e6, e7, e8, ints, hE0, hw1]
   exact ⟨.same (by simp [noId, noIdL]), .same rfl, .same (by simp [noId]), .slc rfl, .same rfl, .same rfl⟩
theorem bodies_at {c : FCode} : ∀ {l : List FBody} {k j : Nat}, bodiesFrom c k l = true → (h : j < l.length) → bodyB c l[j] (k + j) = true := by
 intro l
 induction l with
 | nil => intro k j _ h; simp at h
 | cons b l ih =>
  intro k j hb h
  simp only [bodiesFrom, Bool.and_eq_true] at hb
  cases j with
  | zero => exact hb.1
  | succ j => have := ih (k := k + 1) (j := j) hb.2 (by simpa using h); rw [show k + (j + 1) = k + 1 + j by omega]; exact this
structure OkB (c : FCode) (b : FBody) : Prop where
 regs0 : 0 ≤ b.regs
 regs : b.regs ≤ 5000
 code0 : 0 < b.code.length
 code : b.code.length ≤ 20000
 last : lastOp b.code = 22 ∨ lastOp b.code = 19
 right : ∀ i ∈ b.code, rightS c b i = true
 args : b.args ≤ b.regs
theorem totalI_get {l : List FBody} {k : Nat} (h : k < l.length) : l[k].code.length ≤ totalI l := by
 induction l generalizing k with
 | nil => simp at h
 | cons b l ih =>
  cases k with
  | zero => simp [totalI]
  | succ k => have := ih (k := k) (by simpa using h); simp [totalI]; omega
theorem okB_of {c : FCode} (h : checkS c = 0) {k : Nat} (hk : k < c.bodies.length) : OkB c c.bodies[k] := by
 unfold checkS at h
 by_cases h1 : countB c = true
 ·rw [if_pos h1] at h
  by_cases h2 : bodiesFrom c 0 c.bodies = true
  ·have h3 := bodies_at h2 hk
   unfold countB at h1
   simp only [Bool.and_eq_true, decide_eq_true_eq, List.all_eq_true] at h1
   unfold bodyB headB at h3
   simp only [Bool.and_eq_true, Bool.or_eq_true, decide_eq_true_eq, Bool.not_eq_true', List.all_eq_true] at h3
   obtain ⟨⟨⟨⟨⟨⟨a1, a2⟩, a3⟩, a4⟩, a5⟩, a6⟩, a7⟩ := h3
   have hr := h1.2 _ (List.getElem_mem hk)
   have ht := totalI_get hk
   have := h1.1.2
   refine ⟨by omega, hr, ?_, by omega, a6, a7, a3⟩
   cases hc : c.bodies[k].code with
   | nil => rw [hc] at a5; simp at a5
   | cons x l => simp
  ·rw [if_neg h2] at h; omega
 ·rw [if_neg h1] at h; omega
theorem kindB_reg {c : FCode} {b : FBody} {k n : Int} (h : kindB c b k n = true) (hk : k = 1 ∨ k = 2 ∨ k = 3 ∨ k = 4) : -1 ≤ n ∧ n < b.regs := by
 rcases hk with rfl | rfl | rfl | rfl <;> (unfold kindB at h; simp at h; omega)
theorem right_parts {c : FCode} {b : FBody} {i : FIns} (h : rightS c b i = true) : 1 ≤ i.op ∧ i.op ≤ 37 ∧ (∀ k, k < 4 → kindB c b (kindAt (ruleN i.op.toNat) k) (numAt i k) = true) ∧ ∀ n ∈ i.list, kindB c b 1 n = true := by
 unfold rightS at h
 simp only [Bool.and_eq_true, decide_eq_true_eq] at h
 obtain ⟨⟨⟨⟨h1, h2⟩, h3⟩, h4⟩, h5⟩ := h
 unfold kindsB at h3
 simp only [Bool.and_eq_true] at h3
 unfold listS at h5
 simp only [Bool.and_eq_true, decide_eq_true_eq, List.all_eq_true] at h5
 refine ⟨h1, h2, fun k hk => ?_, h5.2⟩
 match k, hk with
 | 0, _ => exact h3.1.1.1
 | 1, _ => exact h3.1.1.2
 | 2, _ => exact h3.1.2
 | 3, _ => exact h3.2
theorem readsTo_mem {r : FRule} {i : FIns} {x : Int} : ∀ {k : Nat}, x ∈ readsTo r i k → ∃ j, j < k ∧ (kindAt r j = 1 ∨ kindAt r j = 2) ∧ x = numAt i j := by
 intro k
 induction k with
 | zero => intro h; simp [readsTo] at h
 | succ k ih =>
  intro h
  simp only [readsTo, List.mem_append] at h
  rcases h with h | h
  ·obtain ⟨j, h1, h2⟩ := ih h; exact ⟨j, by omega, h2⟩
  ·unfold readK at h
   split at h
   ·rename_i hk; exact ⟨k, by omega, hk, by simpa using h⟩
   ·simp at h
theorem reads_ok {c : FCode} {b : FBody} {i : FIns} (h : rightS c b i = true) {x : Int} (hx : x ∈ readsS i) : 0 ≤ x ∧ x < b.regs := by
 obtain ⟨h1, h2, h3, h4⟩ := right_parts h
 unfold readsS at hx
 rw [if_pos ⟨h1, h2⟩] at hx
 unfold keepL at hx
 simp only [List.mem_filter, List.mem_append, Bool.not_eq_true', decide_eq_false_iff_not] at hx
 obtain ⟨hx, hne⟩ := hx
 rcases hx with hx | hx
 ·obtain ⟨j, hj, hk, rfl⟩ := readsTo_mem hx
  have hj4 : j < 4 := hj
  have := kindB_reg (h3 j hj4) (by omega)
  omega
 ·have := kindB_reg (h4 x hx) (by omega)
  omega
theorem writeTo_ok {r : FRule} {i : FIns} {R : Int} (hR : -1 < R) : ∀ {k : Nat}, (∀ j, j < k → (kindAt r j = 3 ∨ kindAt r j = 4) → numAt i j < R) → writeTo r i k < R := by
 intro k
 induction k with
 | zero => intro _; exact hR
 | succ k ih =>
  intro h
  unfold writeTo
  split
  ·rename_i hk; exact h k (by omega) hk
  ·exact ih fun j hj => h j (by omega)
theorem writes_ok {c : FCode} {b : FBody} {i : FIns} (hb : 0 ≤ b.regs) (h : rightS c b i = true) : writesS i < b.regs := by
 obtain ⟨h1, h2, h3, h4⟩ := right_parts h
 unfold writesS
 rw [if_pos ⟨h1, h2⟩]
 exact writeTo_ok (by omega) fun j hj hk => (kindB_reg (h3 j hj) (by omega)).2
theorem readsS_len {i : FIns} : (readsS i).length ≤ 4 + i.list.length := by
 unfold readsS
 split
 ·have := keepL_len (l := readsTo (ruleN i.op.toNat) i 4 ++ i.list)
  have := readsTo_len (r := ruleN i.op.toNat) (i := i) 4
  simp at *; omega
 ·simp
theorem succ_ok {c : FCode} {b : FBody} (hb : OkB c b) {k : Nat} (hk : k < b.code.length) : ∀ x ∈ succI b.code[k] k, 0 ≤ x ∧ x < b.code.length := by
 have hr := hb.right _ (List.getElem_mem hk)
 obtain ⟨h1, h2, h3, h4⟩ := right_parts hr
 have hlast : b.code[k].op ≠ 22 → b.code[k].op ≠ 19 → k + 1 < b.code.length := by
  intro a1 a2
  refine Nat.lt_of_not_le fun hh => ?_
  have he : k = b.code.length - 1 := by omega
  have h5 := hb.last
  rw [lastOp_at hb.code0] at h5
  subst he
  rcases h5 with h5 | h5
  ·exact a1 h5
  ·exact a2 h5
 have hc : b.code[k].op = 19 ∨ b.code[k].op = 20 → 0 ≤ b.code[k].c ∧ b.code[k].c < b.code.length := by
  intro ho
  have h5 := h3 2 (by omega)
  have h6 : kindAt (ruleN b.code[k].op.toNat) 2 = 7 := by
   rcases ho with ho | ho <;> (rw [ho]; rfl)
  rw [h6] at h5
  have h7 : numAt b.code[k] 2 = b.code[k].c := rfl
  rw [h7] at h5
  unfold kindB at h5
  simpa using h5
 intro x hx
 unfold succI at hx
 by_cases o22 : b.code[k].op = 22
 ·simp [o22] at hx
 by_cases o19 : b.code[k].op = 19
 ·simp [o19] at hx; subst hx; exact hc (.inl o19)
 have hl := hlast o22 o19
 by_cases o20 : b.code[k].op = 20
 ·simp [o20] at hx
  rcases hx with rfl | rfl
  ·omega
  ·exact hc (.inr o20)
 ·simp [o22, o19, o20] at hx; subst hx; omega
theorem cutL {t : TypeId} {ls : List (List Int)} {k : Nat} (h : k < ls.length) : cut (ls.map (ints t)) k 1 = [ints t ls[k]] := cut1 h
theorem near_w {ty t t2 : TypeId} {ls : List (List Int)} {i k : Nat} {L : List LObj} {K : PV → List LObj → Prop} (hL : L[i]? = some (.row ty [.fz t2 ls.length (ls.map (ints t))])) (h : k < ls.length) (hk : K (ints t ls[k]) L) : PF FD XA XN false (.fn 45 [] [.ptr i 0]) [pin k] L K := by
 refine PF_code0 rfl rfl rfl (PW_ok _ ?_)
 simp [ir45, hL, h, cutL h]
 exact hk
theorem near_w2 {ty t t2 : TypeId} {ls : List (List Int)} {i k : Nat} {L : List LObj} {K : PV → List LObj → Prop} (hL : L[i]? = some (.row ty [.fz t2 ls.length (ls.map (ints t))])) (h : k < ls.length) (hk : K (ints t ls[k]) L) : PF FD XA XN false (.fn 56 [] [.ptr i 0]) [pin k] L K := by
 refine PF_code0 rfl rfl rfl (PW_ok _ ?_)
 simp [ir56, hL, h, cutL h]
 exact hk
def thrL (x : FIns) (s : List W64) : List W64 := (readsS x).foldl (fun s r => putW s r.toNat) (if 0 ≤ writesS x then dropW s (writesS x).toNat else s)
theorem foldPut_len : ∀ (l : List Int) (s : List W64), (l.foldl (fun s r => putW s r.toNat) s).length = s.length := by
 intro l
 induction l with
 | nil => intro s; rfl
 | cons a l ih => intro s; rw [List.foldl_cons, ih, putW_len]
theorem foldPut_mem : ∀ (l : List Int) (s : List W64) (x : Nat), (∀ r ∈ l, 0 ≤ r ∧ r.toNat / 64 < s.length) → hasW (l.foldl (fun s r => putW s r.toNat) s) x = (hasW s x || decide ((x : Int) ∈ l)) := by
 intro l
 induction l with
 | nil => intro s x _; simp
 | cons a l ih =>
  intro s x h
  have h1 := h a (by simp)
  rw [List.foldl_cons, ih _ _ (fun r hr => by rw [putW_len]; exact h r (List.mem_cons_of_mem _ hr)), hasW_put h1.2]
  have h2 : decide (x = a.toNat) = decide ((x : Int) = a) := by
   by_cases e : x = a.toNat
   ·have : (x : Int) = a := by omega
    simp [e, this]; omega
   ·have : ¬ (x : Int) = a := by omega
    simp [e, this]
  rw [h2]
  simp only [List.mem_cons, Bool.decide_or, Bool.or_assoc]
def ThJ (i : List Int) (s0 : List W64) (m : Nat) (E : PEnv) (L : List LObj) : Prop := ∃ k : Nat, k + m = i.length ∧ L = [.row 90 (((i.take k).foldl (fun s r => putW s r.toNat) s0).map pw)] ∧
 Has E [(5, .slc 0 0 s0.length s0.length), (29, ints 3 i), (30, pin i.length), (31, pin k)]
theorem fold_take {s0 : List W64} {l : List Int} {k : Nat} (hk : k < l.length) : (l.take (k + 1)).foldl (fun s r => putW s r.toNat) s0 = putW ((l.take k).foldl (fun s r => putW s r.toNat) s0) l[k].toNat := by
 rw [List.take_succ_eq_append_getElem hk, List.foldl_append]; rfl
set_option maxRecDepth 8000 in
set_option maxHeartbeats 4000000 in
theorem thr0 {b : FBody} {st : List (List W64)} {m w : Nat} (hm : m < b.code.length) (hst : st.length = b.code.length) (hw : ∀ s ∈ st, s.length = w) (hw0 : w ≠ 0) (hw1 : w ≤ 10000) (hli : b.code[m].list.length ≤ 1000000)
  (hrd : ∀ r ∈ readsS b.code[m], 0 ≤ r ∧ r.toNat / 64 < w) (hwr : (writesS b.code[m]).toNat / 64 < w) :
  PF FD XA XN false (.fn 46 [] [.fp [.fz 85 st.length (st.map wset)], .fp (encBo b)]) [pin m] [] (fun v L => v = .slc 0 0 w w ∧ L = [.row 90 ((thrL b.code[m] (st[m]'(by omega))).map pw)]) := by
 refine PF_code0 rfl rfl rfl ?_
 have hms : m < st.length := by omega
 have hcut1 := cut1 (f := wset) hms
 have hwm : st[m].length = w := hw _ (List.getElem_mem hms)
 have hcutI := cutI hm
 have hcl : cut (encI b.code[m]) 0 7 = encI b.code[m] := cut_all rfl
 have hE3 : (encBo b).drop 3 = [recs 62 encI b.code] := rfl
 have hlen3 : (3 : Nat) ≤ (encBo b).length := by show 3 ≤ 4; omega
 have hms' : (m : Int) < st.length := by omega
 have hm' : (m : Int) < b.code.length := by omega
 have huse := uses_ok (i := b.code[m]) hli
 have hrlen := readsS_len (i := b.code[m])
 have hthr : thrL b.code[m] st[m] = (readsS b.code[m]).foldl (fun s r => putW s r.toNat) (if 0 ≤ writesS b.code[m] then dropW st[m] (writesS b.code[m]).toNat else st[m]) := rfl
 rw [hthr]
 generalize st[m] = s at *
 generalize b.code[m] = x at *
 refine PC_seq (PW_ok _ ?_)
 simp
 refine PC_seq (PW_ok _ ?_)
 simp [hms, hms', hcut1]
 unfold PFk
 refine clone_w (by omega) (by omega) false ?_
 simp
 refine PC_seq (PW_ok _ ?_)
 simp [hE3, recs, hm, hm', hcutI, hcl]
 refine huse.runk ?_
 simp [usesV]
 rw [hwm]
 refine PC_seq (PC_seq (PW_ok _ ?_))
 simp
 have rest : ∀ {E : PEnv} {s0 : List W64}, s0.length = w → Has E [(5, .slc 0 0 w w), (6, ints 3 (readsS x))] → PC FD XA XN 0 (match ir46.body with | .seq _ (.seq _ (.seq _ (.seq _ c))) => c | _ => .skip) (fun x_1 E' L' => (x_1 = .norm ∨ x_1 = .ret) ∧ ∃ ps, press E' L' ir46.results = some ps ∧ pone1 ps = .slc 0 0 w w ∧ L' = [.row 90 (((readsS x).foldl (fun s r => putW s r.toNat) s0).map pw)]) E [.row 90 (s0.map pw)] := by
  intro E s0 hs0 he
  obtain ⟨e5, e6, -⟩ := he
  refine PW_ok _ ?_
  simp [ir46, e5, e6, ints]
  have hbl : big (readsS x).length := by unfold big; omega
  refine PC_loop0 (ThJ (readsS x) s0) ?_ (k := (readsS x).length) ⟨0, by simp, by simp, by simp [e5, hs0, ints]⟩
  clear e5 e6
  rintro m2 E L ⟨k, hkm, rfl, ⟨e5, e29, e30, e31, -⟩⟩
  by_cases hk : k < (readsS x).length
  case neg =>
   have hke : k = (readsS x).length := by omega
   subst hke
   rw [List.take_length]
   simp [e5, e29, e30, e31, hs0]
  have hc := cut1 (f := pin) hk
  have hf := fold_take (s0 := s0) hk
  obtain ⟨r0, r1⟩ := hrd _ (List.getElem_mem hk)
  have hwi := wrap_inc hk hbl
  have hcast : ((readsS x)[k].toNat : Int) = (readsS x)[k] := by omega
  simp [e5, e29, e30, e31, hk, ints, hc]
  unfold PFk
  have hl0 := foldPut_len ((readsS x).take k) s0
  generalize ((readsS x).take k).foldl (fun s r => putW s r.toNat) s0 = s1 at *
  generalize (readsS x)[k] = r at *
  rw [← hcast, ← hl0]
  refine put_w (t := 90) (i := 0) (ws := s1) rfl (by omega) (by omega) ?_
  simp [e5, e29, e30, e31, hwi]
  exact ⟨m2 - 1, by omega, k + 1, by omega, by rw [hf], by simp [e5, e29, e30]⟩
 by_cases hw9 : 0 ≤ writesS x
 ·rw [if_pos hw9]
  simp [hw9]
  refine PW_ok _ ?_
  obtain ⟨nw, hnw⟩ : ∃ n : Nat, writesS x = n := ⟨(writesS x).toNat, by omega⟩
  rw [hnw] at hwr ⊢
  rw [Int.toNat_natCast] at hwr ⊢
  simp
  unfold PFk
  rw [← hwm]
  refine drop_w (t := 90) (i := 0) (ws := s) rfl (by omega) (by omega) ?_
  simp
  rw [hwm]
  refine rest (s0 := dropW s nw) (by rw [dropW_len]; exact hwm) ?_
  simp [ints]
 ·rw [if_neg hw9]
  simp [hw9]
  refine PW_ok _ ?_
  simp
  refine rest (s0 := s) hwm ?_
  simp [ints]
end Go.Den
/- Live, by the program. -/
namespace Go.Den
open IrD
attribute [local irreducible] T.get T.set
open Classical in
noncomputable def Df.out (d : Df) (B : Nat) : List (List Nat) := (List.range d.n).map fun k => (List.range B).filter fun x => decide (d.D k x)
theorem Df.out_eq {d : Df} {w : Nat} {st : List (List W64)} (hn : ∀ k, k < d.n → ∀ m ∈ d.near k, m < d.n) (h : d.St w st) (hc : ∀ k, k < d.n → ∀ m ∈ d.near k, d.closedAt st k m) : st.map (fun s => listW s 0) = d.out (64 * w) := by
 unfold Df.out
 refine List.ext_getElem (by simp [h.len]) fun k h1 h2 => ?_
 rw [List.length_map] at h1
 rw [List.getElem_map, List.getElem_map, List.getElem_range]
 have hkn : k < d.n := by rw [← h.len]; exact h1
 have hd := fun x => Df.done hn h hc hkn x
 refine pw_ext listW_asc (List.Pairwise.filter _ List.pairwise_lt_range) fun x => ?_
 rw [listW_mem, List.mem_filter, List.mem_range]
 simp only [Nat.mul_zero, Nat.zero_le, true_and, Nat.sub_zero, decide_eq_true_eq]
 have := hd x
 rw [List.getD_eq_getElem?_getD, List.getElem?_eq_getElem h1, Option.getD_some] at this
 rw [this]
 refine ⟨fun hx => ⟨?_, hx⟩, fun hx => hx.2⟩
 have hx2 := this.2 hx
 refine Nat.lt_of_not_le fun hh => ?_
 rw [hasW_ge (by rw [h.wid _ (List.getElem_mem h1)]; exact hh)] at hx2
 cases hx2
def liveD (b : FBody) : Df := { n := b.code.length, near := fun k => match b.code[k]? with | some x => (succI x k).map Int.toNat | none => [], gen := fun m x => match b.code[m]? with | some i => decide ((x : Int) ∈ readsS i) | none => false, kill := fun m x => match b.code[m]? with | some i => decide ((x : Int) = writesS i) | none => false, init := fun _ _ => false }
theorem liveD_near {c : FCode} {b : FBody} (hb : OkB c b) {k : Nat} (hk : k < b.code.length) : natI ((liveD b).near k) = succI b.code[k] k := by
 simp only [liveD, List.getElem?_eq_getElem hk, natI, List.map_map]
 conv => rhs; rw [← List.map_id (succI b.code[k] k)]
 refine List.map_congr_left fun x hx => ?_
 have := succ_ok hb hk x hx
 simp; omega
theorem liveD_lt {c : FCode} {b : FBody} (hb : OkB c b) : ∀ k, k < b.code.length → ∀ m ∈ (liveD b).near k, m < b.code.length := by
 intro k hk m hm
 simp only [liveD, List.getElem?_eq_getElem hk, List.mem_map] at hm
 obtain ⟨x, hx, rfl⟩ := hm
 have := succ_ok hb hk x hx
 omega
theorem thrL_len {x : FIns} {s : List W64} : (thrL x s).length = s.length := by
 unfold thrL
 rw [foldPut_len]
 split
 ·rw [dropW_len]
 ·rfl
theorem thrL_mem {x : FIns} {s : List W64} {y : Nat} (hrd : ∀ r ∈ readsS x, 0 ≤ r ∧ r.toNat / 64 < s.length) (hwr : (writesS x).toNat / 64 < s.length) : hasW (thrL x s) y = (decide ((y : Int) ∈ readsS x) || (hasW s y && !decide ((y : Int) = writesS x))) := by
 unfold thrL
 rw [foldPut_mem _ _ _ (fun r hr => ⟨(hrd r hr).1, by split <;> simp [dropW_len, (hrd r hr).2]⟩), Bool.or_comm]
 congr 1
 split
 ·rename_i h0
  rw [hasW_drop hwr]
  congr 2
  by_cases e : y = (writesS x).toNat
  ·have : (y : Int) = writesS x := by omega
   simp [e, this]; omega
  ·have : ¬ (y : Int) = writesS x := by omega
   simp [e, this]
 ·have : ¬ (y : Int) = writesS x := by omega
  simp [this]
theorem Lof_frz {P J : List LObj} {w : Nat} {st : List (List W64)} {τ : List Nat} (hτ : ∀ i ∈ τ, i < P.length) (hw : ∀ s ∈ st, s.length = w) : Vw τ (Lof P w st ++ J) (.slc P.length 0 st.length st.length) (.fz 85 st.length (st.map wset)) := by
 have hl : (stCells (P.length + 1) w st.length).length = st.length := by simp [stCells]
 have hpr : prow (Lof P w st ++ J) P.length = some (85, stCells (P.length + 1) w st.length) := by simp only [prow, Lof_cells]
 refine .fzs (cs'' := stCells (P.length + 1) w st.length) (fun h => by have := hτ _ h; omega) hpr (by simp [stCells, nl]) (Nat.zero_le _) (by simp) (by simp [hl]) (fun k h1 h2 => ?_)
 rw [hl] at h1
 have e1 : (stCells (P.length + 1) w st.length)[k]'(by omega) = .slc (P.length + 1 + k) 0 w w := by simp [stCells]
 rw [e1, List.getElem_map]
 have hwk := hw _ (List.getElem_mem h1)
 have hpr2 : prow (Lof P w st ++ J) (P.length + 1 + k) = some (90, st[k].map pw) := by simp only [prow, Lof_set h1]
 unfold wset
 rw [hwk]
 exact .fzs (cs'' := st[k].map pw) (fun h => by have := hτ _ h; omega) hpr2 (by simp) (Nat.zero_le _) (by rw [List.take_of_length_le (by simp)]; rfl) (by simp) (fun j a b => .same (noIdL_get (by simp [noId]) j a))
def LvP (b : FBody) (n : Nat) : List LObj := [.row 55 [lists2 24 (succsL b.code)], .row 83 [.slc 3 0 n n], .row 65 (encBo b)]
theorem live_fn {c : FCode} {b : FBody} (hb : OkB c b) (hl : ∀ i ∈ b.code, i.list.length ≤ 1000000) : SvFn (liveD b) (LvP b b.code.length) (b.regs.toNat / 64 + 1) (.fn 45 [] [.ptr 0 0]) (.fn 46 [] [.ptr 1 0, .ptr 2 0]) (fun m st => match b.code[m]? with | some x => thrL x (st.getD m []) | none => []) := by
 have hr0 := hb.regs0
 have hr1 := hb.regs
 have hsl : (succsL b.code).length = b.code.length := succsL_len
 have hrd : ∀ m (h : m < b.code.length), ∀ r ∈ readsS b.code[m], 0 ≤ r ∧ r.toNat / 64 < b.regs.toNat / 64 + 1 := fun m h r hr => by
  have := reads_ok (hb.right _ (List.getElem_mem h)) hr
  refine ⟨this.1, ?_⟩
  have : r.toNat / 64 ≤ b.regs.toNat / 64 := Nat.div_le_div_right (by omega)
  omega
 have hwr : ∀ m (h : m < b.code.length), (writesS b.code[m]).toNat / 64 < b.regs.toNat / 64 + 1 := fun m h => by
  have := writes_ok hr0 (hb.right _ (List.getElem_mem h))
  have : (writesS b.code[m]).toNat / 64 ≤ b.regs.toNat / 64 := Nat.div_le_div_right (by omega)
  omega
 refine ⟨?_, ?_, ?_, ?_, liveD_lt hb, ?_⟩
 ·intro k hk st J K hs hK
  have hk' : k < b.code.length := hk
  rw [liveD_near hb hk'] at hK
  have he : (succsL b.code)[k]'(by rw [hsl]; exact hk') = succI b.code[k] k := by simp [succsL]
  rw [← he] at hK
  refine near_w (i := 0) (ty := 55) (t := 3) (t2 := 24) (ls := succsL b.code) ?_ (by rw [hsl]; exact hk') hK
  rfl
 ·intro m hm st J K hs hK
  have hm' : m < b.code.length := hm
  have hst : st.length = b.code.length := hs.len
  have h0 := thr0 (b := b) (st := st) (m := m) (w := b.regs.toNat / 64 + 1) hm' hst hs.wid (by omega) (by omega) (hl _ (List.getElem_mem hm')) (hrd m hm') (hwr m hm')
  refine (PF.ro (fv' := .fn 46 [] [.fp [.fz 85 st.length (st.map wset)], .fp (encBo b)]) (args' := [pin m]) ?_ (.cons (.same rfl) .nil) (by simp [noId, noIdL]) (by simp [noIdL, noId]) h0 (fun v0 L0 h => ?_) true).mono ?_
  ·refine .fn rfl (fun i h => by simp at h) rfl (fun i h h' => ?_)
   match i, h, h' with
   | 0, _, _ =>
    refine .fzp (cs'' := [.slc 3 0 b.code.length b.code.length]) (by simp) (t := 83) rfl rfl (by simp) rfl rfl (fun j h5 h6 => ?_)
    match j, h5, h6 with
    | 0, _, _ =>
     have := Lof_frz (P := LvP b b.code.length) (J := J) (τ := []) (by simp) hs.wid
     rw [hst] at this
     rw [hst]
     exact this
   | 1, _, _ => exact .fzp (cs'' := encBo b) (by simp) (t := 65) rfl (by simp) (by simp) rfl rfl (fun j a b => .same (noIdL_get (by simp) j a))
  ·obtain ⟨rfl, rfl⟩ := h
   refine ⟨rfl, fun o ho => ?_⟩
   rw [List.mem_singleton.1 ho]
   simp [zfO, zfL_iff]
   intro a _; rfl
  ·rintro v L' ⟨v0, L0, ⟨rfl, rfl⟩, rfl, rfl⟩
   have e2 : thrL b.code[m] (st[m]'(by omega)) = (match b.code[m]? with | some x => thrL x (st.getD m []) | none => []) := by simp [List.getElem?_eq_getElem hm', List.getElem?_eq_getElem (show m < st.length by omega)]
   rw [e2]
   simp only [ren, List.map_cons, List.map_nil, renO, renL_noId _ _ (show noIdL (((match b.code[m]? with | some x => thrL x (st.getD m []) | none => []) : List W64).map pw) = true by simp [noId]), Nat.zero_add]
   exact hK
 ·intro m st hm hs
  have hm' : m < b.code.length := hm
  have hst : st.length = b.code.length := hs.len
  simp only [List.getElem?_eq_getElem hm', thrL_len, List.getD_eq_getElem?_getD, List.getElem?_eq_getElem (show m < st.length by omega), Option.getD_some]
  exact hs.wid _ (List.getElem_mem _)
 ·intro m st h hs x
  have hst : st.length = b.code.length := hs.len
  have hm' : m < b.code.length := by omega
  have hwm := hs.wid _ (List.getElem_mem h)
  simp only [List.getElem?_eq_getElem hm', List.getD_eq_getElem?_getD, List.getElem?_eq_getElem h, Option.getD_some, Df.thr, liveD]
  exact thrL_mem (by rw [hwm]; exact hrd m hm') (by rw [hwm]; exact hwr m hm')
 ·intro k hk
  have hk' : k < b.code.length := hk
  simp only [liveD, List.getElem?_eq_getElem hk', List.length_map]
  unfold succI
  repeat' split
  all_goals simp
end Go.Den
/- Live, by the program: all of it. -/
namespace Go.Den
open IrD
attribute [local irreducible] T.get T.set
@[simp] theorem nl_recs {α : Type} {t : TypeId} {enc : α → List PV} {l : List α} : nl (recs t enc l) = true := rfl
@[simp] theorem pone_recs {α : Type} {t : TypeId} {enc : α → List PV} {l : List α} : pone (recs t enc l) = true := rfl
@[simp] theorem nl_ints {t : TypeId} {l : List Int} : nl (ints t l) = true := rfl
@[simp] theorem pone_ints {t : TypeId} {l : List Int} : pone (ints t l) = true := rfl
@[simp] theorem nl_lists2 {t : TypeId} {l : List (List Int)} : nl (lists2 t l) = true := rfl
@[simp] theorem pone_lists2 {t : TypeId} {l : List (List Int)} : pone (lists2 t l) = true := rfl
@[simp] theorem pcells_lists2 {t : TypeId} {l : List (List Int)} : pcells (lists2 t l) = [lists2 t l] := rfl
@[simp] theorem pcells_ints {t : TypeId} {l : List Int} : pcells (ints t l) = [ints t l] := rfl
theorem nat3_zero {l : List Nat} : (.fz 3 l.length (nat3 0 l) : PV) = ints 3 (natI l) := by simp [nat3, ints, natI]
noncomputable def liveS (c : FCode) (body : Int) : List (List Int) := if errS c body = 0 then match c.bodies[body.toNat]? with | some b => ((liveD b).out (64 * (b.regs.toNat / 64 + 1))).map natI | none => [] else []
def LvJ1 (b : FBody) (m : Nat) (E : PEnv) (L : List LObj) : Prop := ∃ i : Nat, i + m = b.code.length ∧
 L = LvP b b.code.length ++ (.row 85 (stCells 4 (newW b.regs.toNat).length i ++ List.replicate (b.code.length - i) (.v (.slice none 0 0))) :: List.replicate i (.row 90 ((newW b.regs.toNat).map pw))) ∧
 Has E [(6, .ptr 2 0), (8, .ptr 0 0), (9, .ptr 1 0), (30, .slc 3 0 b.code.length b.code.length), (31, pin b.code.length), (32, pin i)]
def LvJ2 (st : List (List W64)) (m : Nat) (E : PEnv) (L : List LObj) : Prop := ∃ i : Nat, i + m = st.length ∧ L = [.row 24 ((st.take i).map fun s => ints 3 (natI (listW s 0)))] ∧
 Has E [(11, .slc 0 0 i i), (48, .fz 85 st.length (st.map wset)), (49, pin st.length), (50, pin i)]
theorem repl_nil (n : Nat) : (repl [Value.slice none 0 0] n).map PV.v = List.replicate n (.v (.slice none 0 0)) := by
 induction n with
 | zero => rfl
 | succ k ih => rw [List.replicate_succ, ← ih]; rfl
theorem stCells_succ {base w i : Nat} : stCells base w (i + 1) = stCells base w i ++ [.slc (base + i) 0 w w] := by simp [stCells, List.range_succ]
set_option maxRecDepth 8000 in
set_option maxHeartbeats 8000000 in
theorem live_ok {c : FCode} {body : Int} (hc : OkC c) : PPd (.fn 24 [] []) [.agg (encC c), pin body] (.tup [lists2 24 (liveS c body), pin (errS c body)]) := by
 refine PP_code rfl rfl rfl (by simp) (by simp [noId]) (by simp [noId, noIdL]) ?_
 have hres : ir24.results = [.tmp 4, .tmp 5] := rfl
 have hcc : cut (encC c) 0 2 = encC c := rfl
 by_cases he : errS c body = 0
 case neg =>
  have hls : liveS c body = [] := by simp [liveS, he]
  rw [hls]
  refine PC_seq (PW_ok _ ?_)
  simp
  refine PC_seq (PW_ok _ ?_)
  simp [hcc]
  refine (given_err hc he).runk ?_
  have hps : psplice [PV.v (S []), PV.v (I 0), PV.v (I 0), PV.v (.slice none 0 0)] 0 zeroBo = zeroBo := psplice_full rfl
  have hl : zeroBo.length = 4 := rfl
  have ho : allOne zeroBo := by simp [zeroBo]
  simp [hps, hl, ho]
  refine PC_seq (PC_seq (PW_ok _ ?_))
  simp [he]
  refine PW_ok _ ?_
  simp [he, hres]
  exact .tup rfl (fun j a b => by
   match j, a, b with
   | 0, _, _ => exact .nil
   | 1, _, _ => exact .same rfl)
 have h0 : checkS c = 0 := by
  unfold errS at he
  by_cases h : checkS c = 0
  ·exact h
  ·rw [if_pos h] at he; exact absurd he h
 have hbd : 0 ≤ body ∧ body < c.bodies.length := by
  unfold errS at he
  rw [if_neg (by simp [h0])] at he
  split at he
  ·omega
  ·omega
 obtain ⟨k, rfl⟩ : ∃ k : Nat, body = k := ⟨body.toNat, by omega⟩
 have hk : k < c.bodies.length := by omega
 have hls : liveS c (k : Int) = ((liveD c.bodies[k]).out (64 * (c.bodies[k].regs.toNat / 64 + 1))).map natI := by simp [liveS, he, hk]
 have hg := given_ok hc h0 hk
 have hob := okB_of h0 hk
 have hil := hc.list _ (List.getElem_mem hk)
 rw [hls, he]
 generalize c.bodies[k] = b at *
 have hr0 := hob.regs0
 have hr1 := hob.regs
 obtain ⟨R, hR⟩ : ∃ R : Nat, b.regs = R := ⟨b.regs.toNat, by omega⟩
 have hRn : b.regs.toNat = R := by omega
 refine PC_seq (PW_ok _ ?_)
 simp
 refine PC_seq (PW_ok _ ?_)
 simp [hcc]
 refine hg.runk ?_
 have hps : psplice [PV.v (S []), PV.v (I 0), PV.v (I 0), PV.v (.slice none 0 0)] 0 (encBo b) = encBo b := psplice_full rfl
 have hb3 : (encBo b)[3]? = some (recs 62 encI b.code) := rfl
 have hb1 : (encBo b)[1]? = some (pin b.regs) := rfl
 simp [hps]
 refine PC_seq (PC_seq (PW_ok _ ?_))
 simp
 refine PW_ok _ ?_
 simp
 refine PC_seq (PW_ok _ ?_)
 simp [hb3]
 have hcl := hob.code
 refine (successors_ok (l := b.code) (by omega)).runk ?_
 simp
 refine PC_seq (PW_ok _ ?_)
 have hz : ∀ n, zfL (List.replicate n (.v (.slice none 0 0))) = true := fun n => by rw [zfL_iff]; intro p hp; rw [List.eq_of_mem_replicate hp]; rfl
 have hn1 : (b.code.length : Int) ≤ 9223372036854775807 ∧ 24 * (b.code.length : Int) ≤ 281474976710656 := by omega
 simp [hb3, recs, hn1, one, repl_nil]
 generalize hn : b.code.length = n at *
 refine PC.abs (Abs.keep [2, 4, 1, 3] [(6, .ptr 2 0), (8, .ptr 0 0), (9, .ptr 1 0)] (L' := LvP b n ++ [.row 85 (List.replicate n (.v (.slice none 0 0)))]) (by simp) (by simp) ?_ ?_) ?_
 ·refine .cons ⟨_, rfl, ?_⟩ (.cons ⟨_, rfl, ?_⟩ (.cons ⟨_, rfl, ?_⟩ (.cons ⟨_, rfl, ?_⟩ .nil)))
  ·exact .row (VwL.same (by simp [noIdL]))
  ·exact .row (.cons (.slc rfl) .nil)
  ·exact .row (VwL.same (by simp))
  ·exact .row (VwL.same (noIdL_iff.2 fun p hp => by rw [List.eq_of_mem_replicate hp]; rfl))
 ·simp
  exact ⟨.ptr rfl, .ptr rfl, .ptr rfl⟩
 have envE : Has (envOf [(6, .ptr 2 0), (8, .ptr 0 0), (9, .ptr 1 0)]) [(6, .ptr 2 0), (8, .ptr 0 0), (9, .ptr 1 0)] := Has.env (by simp)
 generalize envOf [(6, .ptr 2 0), (8, .ptr 0 0), (9, .ptr 1 0)] = E at envE ⊢
 obtain ⟨e6, e8, e9, -⟩ := envE
 refine PC_seq (PC_seq (PW_ok _ ?_))
 have hP : LvP b n = [.row 55 [lists2 24 (succsL b.code)], .row 83 [.slc 3 0 n n], .row 65 (encBo b)] := rfl
 simp [e6, e8, e9, hP]
 have hbig : big n := by unfold big; omega
 refine PC_block (PC_loopG (LvJ1 b) ?_ (k := n) ⟨0, by omega, by simp [hP, hn, stCells], by simp [e6, e8, e9, hn]⟩)
 clear e6 e8 e9
 rintro m E L ⟨i, him, rfl, ⟨e6, e8, e9, e30, e31, e32, -⟩⟩
 rw [hn] at e30 e31 him ⊢
 rw [hRn]
 by_cases hi : i < n
 case pos =>
  have hi' : (i : Int) < n := by omega
  have hw := wrap_inc hi hbig
  simp [e6, e8, e9, e30, e31, e32, hi', hP, hb1, hR]
  unfold PGk
  refine new_w (by omega) true ?_
  have hlen : (stCells 4 (newW R).length i ++ List.replicate (n - i) (PV.v (.slice none 0 0))).length = n := by simp [stCells]; omega
  have hil2 : i < (stCells 4 (newW R).length i ++ List.replicate (n - i) (PV.v (.slice none 0 0))).length := by omega
  have hset : (stCells 4 (newW R).length i ++ List.replicate (n - i) (PV.v (.slice none 0 0))).set i (.slc (4 + i) 0 (newW R).length (newW R).length) = stCells 4 (newW R).length (i + 1) ++ List.replicate (n - (i + 1)) (PV.v (.slice none 0 0)) := by
   rw [stCells_succ, List.set_append_right _ _ (by simp [stCells]), show i - (stCells 4 (newW R).length i).length = 0 by simp [stCells], show n - i = (n - (i + 1)) + 1 by omega, List.replicate_succ, List.set_cons_zero, List.append_assoc]
   rfl
  generalize stCells 4 (newW R).length i ++ List.replicate (n - i) (PV.v (.slice none 0 0)) = cells at *
  simp [e6, e8, e9, e30, e31, e32, hi, hi', hil2, hw, hset]
  have e4 : i + 1 + 1 + 1 + 1 = 4 + i := by omega
  rw [e4, hset]
  refine GoOn.same (m - 1) (by omega) ⟨i + 1, by omega, ?_, by simp [e6, e8, e9, e30, e31, hn]⟩
  rw [hn, hRn, hP, List.replicate_succ']
  rfl
 have hie : i = n := by omega
 subst hie
 have hwl : (newW R).length = R / 64 + 1 := by simp [newW]
 have hD : (liveD b).n = i := hn
 have hlof : LvP b i ++ (.row 85 (stCells 4 (newW R).length i ++ List.replicate (i - i) (PV.v (.slice none 0 0))) :: List.replicate i (.row 90 ((newW R).map pw))) = Lof (LvP b i) (R / 64 + 1) (List.replicate i (newW R)) := by
  rw [hwl]
  simp [Lof, stObjs, hP]
 rw [hlof]
 simp [e6, e8, e9, e30, e31, e32]
 have hst0 : (liveD b).St (R / 64 + 1) (List.replicate i (newW R)) := by
  refine ⟨by simp [hD], fun s hs => by rw [List.eq_of_mem_replicate hs, hwl], fun k h x hx => ?_, fun k h x hx => by cases hx⟩
  rw [List.getElem_replicate, hasW_new] at hx
  cases hx
 have hfn := live_fn hob hil
 rw [hn, hRn] at hfn
 have g0 : (Lof (LvP b i) (R / 64 + 1) (List.replicate i (newW R)))[1]? = some (.row 83 [.slc 3 0 i i]) := rfl
 have g2 : (Lof (LvP b i) (R / 64 + 1) (List.replicate i (newW R)))[2]? = some (.row 65 (encBo b)) := rfl
 refine PC_seq (PW_ok _ ?_)
 simp [e6, e8, e9, g0, g2, hb3]
 unfold PFk
 have hsv := fun K hk => solve_ok (K := K) (J0 := []) (ins := b.code) hfn hst0 (by rw [hD, hn]) (by rw [hD]; omega) (by omega) hk
 rw [hD, List.append_nil] at hsv
 refine hsv _ fun st J hst hcl2 => ?_
 clear hsv g0 g2 hst0 hlof
 have hsl : st.length = i := by rw [hst.len, hD]
 have hout := Df.out_eq (by rw [hD]; have := liveD_lt hob; rw [hn] at this; exact this) hst (by rw [hD]; exact hcl2)
 have hlists : ((liveD b).out (64 * (R / 64 + 1))).map natI = st.map fun s => natI (listW s 0) := by rw [← hout, List.map_map]; rfl
 have hbs : big st.length := by unfold big; omega
 rw [hlists]
 simp
 refine PC.abs (Abs.dropAll [(9, .fp [.fz 85 st.length (st.map wset)])] ?_) ?_
 ·simp [e9]
  refine .fzp (cs'' := [.slc 3 0 i i]) (by simp) (t := 83) rfl rfl (by simp) rfl rfl (fun j h5 h6 => ?_)
  match j, h5, h6 with
  | 0, _, _ =>
   have := Lof_frz (P := LvP b i) (J := J) (τ := []) (by simp) hst.wid
   rw [hsl] at this ⊢
   exact this
 clear e6 e8 e9 e30 e31 e32
 refine PC_seq (PW_ok _ ?_)
 simp
 refine PC_seq (PC_seq (PW_ok _ ?_))
 simp [envC, envC_nil]
 refine PC.abs ((Abs.addNil 0 _ []).trans (Abs.keep [0] [(11, .slc 0 0 0 0), (48, .fz 85 st.length (st.map wset)), (49, pin st.length), (50, pin (0 : Nat))] (L' := [.row 24 []]) (by simp) (by simp) (.cons ⟨_, rfl, .nilr⟩ .nil) ?_)) ?_
 ·simp
  exact ⟨.nilr rfl rfl, .same (by simp [noId]), .same rfl, .same rfl⟩
 refine PC_block (PC_loopG (LvJ2 st) ?_ (k := st.length) ⟨0, by simp, by simp, Has.env (by simp)⟩)
 rintro m2 E2 L ⟨j, hjm, rfl, ⟨e11, e48, e49, e50, -⟩⟩
 by_cases hj : j < st.length
 case neg =>
  have hje : j = st.length := by omega
  subst hje
  rw [List.take_length]
  simp [e11, e48, e49, e50]
  refine PW_ok _ ?_
  simp [e11, hres]
  exact .tup rfl (fun j a b => by
   match j, a, b with
   | 0, _, _ => exact Vw.frz rfl (by simp) (by simp) (by simp [lists2])
   | 1, _, _ => exact .same rfl)
 have hcut := cut1 (f := wset) hj
 have hws := hst.wid _ (List.getElem_mem hj)
 have htk : st.take (j + 1) = st.take j ++ [st[j]] := List.take_succ_eq_append_getElem hj
 have hlo := list_ok (ws := st[j]) (plus := 0) (by rw [hws]; omega) (by omega)
 rw [nat3_zero] at hlo
 have hwj := wrap_inc hj hbs
 have rr : roomy (j + 1) 24 := roomy_of (by omega) (by omega)
 have hj' : (j : Int) < st.length := by omega
 have hmin : min j st.length = j := by omega
 have hjle : j ≤ st.length := by omega
 have hv : ∀ {τ : List Nat} {L : List LObj}, VwL τ L ((st.map (fun s => ints 3 (natI (listW s 0)))).take j ++ [ints 3 (natI (listW st[j] 0))]) ((st.take (j + 1)).map fun s => ints 3 (natI (listW s 0))) := by
  intro τ L
  rw [htk, List.map_append, ← List.map_take]
  exact VwL.same (by simp [noIdL_append, noIdL])
 simp [e11, e48, e49, e50, hj, hj', hcut]
 refine hlo.runk ?_
 simp [e11, e48, e49, e50, hwj, rr, hmin, hjle]
 refine GoOn.keep [2] [(11, .slc 0 0 (j + 1) (j + 1)), (48, .fz 85 st.length (st.map wset)), (49, pin st.length), (50, pin (j + 1 : Nat))] (L' := [.row 24 ((st.take (j + 1)).map fun s => ints 3 (natI (listW s 0)))]) (m2 - 1) (by omega) (by simp) (by simp) (.cons ⟨_, rfl, .row hv⟩ .nil) ?_ ⟨j + 1, by omega, rfl, Has.env (by simp)⟩
 simp [e48, e49]
 exact ⟨.slc rfl, .same (by simp [noId]), .same rfl, .same rfl⟩
end Go.Den
/- Flows of sets as ascending lists: the plain law. -/
namespace Go.Den
def shiftI (s : Int) (l : List Nat) : List Int := l.map fun (y : Nat) => (y : Int) - s
structure InR (s : Int) (B : Nat) (l : List Int) : Prop where
 asc : Asc l
 rng : ∀ v ∈ l, ∃ y : Nat, v = (y : Int) - s ∧ y < B
theorem InR.eq {s : Int} {B : Nat} {l : List Int} (h : InR s B l) : l = shiftI s ((List.range B).filter fun (y : Nat) => decide (((y : Int) - s) ∈ l)) := by
 refine asc_ext h.asc ?_ fun x => ?_
 ·unfold Asc shiftI
  rw [List.pairwise_map]
  exact (List.Pairwise.filter _ (List.pairwise_lt_range)).imp fun h => by omega
 ·simp only [shiftI, List.mem_map, List.mem_filter, List.mem_range, decide_eq_true_eq]
  constructor
  ·intro hx
   obtain ⟨k, rfl, hk⟩ := h.rng x hx
   exact ⟨k, ⟨hk, hx⟩, rfl⟩
  ·rintro ⟨k, ⟨_, h2⟩, rfl⟩; exact h2
theorem InR.len {s : Int} {B : Nat} {l : List Int} (h : InR s B l) : l.length ≤ B := by
 rw [h.eq]
 unfold shiftI
 rw [List.length_map]
 exact Nat.le_trans (List.length_filter_le _ _) (by simp)
theorem InR.put {s : Int} {B : Nat} {l : List Int} (h : InR s B l) {v : Int} (hv : ∃ y : Nat, v = (y : Int) - s ∧ y < B) : InR s B (putL l v) :=
 ⟨putL_asc h.asc, fun w hw => (putL_mem.1 hw).elim (h.rng w) (fun e => e ▸ hv)⟩
theorem foldPutL_mem {v : Int} : ∀ {l b : List Int}, v ∈ l.foldl putL b ↔ v ∈ b ∨ v ∈ l := by
 intro l
 induction l with
 | nil => intro b; simp
 | cons a l ih => intro b; rw [List.foldl_cons, ih, putL_mem, List.mem_cons, or_assoc]
theorem InR.fold {s : Int} {B : Nat} : ∀ {l b : List Int}, InR s B b → (∀ v ∈ l, ∃ y : Nat, v = (y : Int) - s ∧ y < B) → InR s B (l.foldl putL b) := by
 intro l
 induction l with
 | nil => intro b h _; exact h
 | cons a l ih => intro b h hl; exact ih (h.put (hl a (by simp))) fun v hv => hl v (by simp [hv])
theorem InR.same {s : Int} {B : Nat} {l l' : List Int} (h : InR s B l) (h' : InR s B l') (hs : ∀ v ∈ l, v ∈ l') (hl : l'.length ≤ l.length) : l = l' := by
 have e := h.eq
 have e' := h'.eq
 have h1 : ((List.range B).filter fun (y : Nat) => decide (((y : Int) - s) ∈ l)).length = l.length := by conv => rhs; rw [e]; unfold shiftI; rw [List.length_map]
 have h2 : ((List.range B).filter fun (y : Nat) => decide (((y : Int) - s) ∈ l')).length = l'.length := by conv => rhs; rw [e']; unfold shiftI; rw [List.length_map]
 refine asc_ext h.asc h'.asc fun x => ⟨hs x, fun hx => ?_⟩
 refine Classical.byContradiction fun hn => ?_
 obtain ⟨y, rfl, hy⟩ := h'.rng x hx
 have := countP_lt (l := List.range B) (p := fun (y : Nat) => decide (((y : Int) - s) ∈ l')) (q := fun (y : Nat) => decide (((y : Int) - s) ∈ l)) (a := y) (fun z hz => by simp only [decide_eq_true_eq] at hz ⊢; exact hs _ hz) (by simpa using hy) (by simpa using hx) (by simpa using hn)
 rw [List.countP_eq_length_filter, List.countP_eq_length_filter, h1, h2] at this
 omega
def lenSum (outs : List (List Int)) : Nat := (outs.map List.length).sum
theorem lenSum_set {outs : List (List Int)} {k : Nat} (hk : k < outs.length) (l : List Int) : lenSum (outs.set k l) + outs[k].length = lenSum outs + l.length := by
 have := sum_set (l := outs.map List.length) (k := k) (a := l.length) (by simpa using hk)
 unfold lenSum
 rw [List.map_set]
 simpa using this
theorem lenSum_le {outs : List (List Int)} {B : Nat} (h : ∀ l ∈ outs, l.length ≤ B) : lenSum outs ≤ B * outs.length := by
 unfold lenSum
 induction outs with
 | nil => simp
 | cons a l ih =>
  have h1 := h a (by simp)
  have h2 := ih fun x hx => h x (by simp [hx])
  simp only [List.map_cons, List.sum_cons, List.length_cons, Nat.mul_add, Nat.mul_one]
  omega
structure Df.Ls (d : Df) (s : Int) (B : Nat) (outs : List (List Int)) : Prop where
 len : outs.length = d.n
 inr : ∀ l ∈ outs, InR s B l
 sound : ∀ k (h : k < outs.length), ∀ y : Nat, (y : Int) - s ∈ outs[k] → d.D k y
 init : ∀ k (h : k < outs.length), ∀ y : Nat, d.init k y = true → (y : Int) - s ∈ outs[k]
def memS (s : Int) (l : List Int) (y : Nat) : Bool := decide ((y : Int) - s ∈ l)
def Df.closedL (d : Df) (s : Int) (outs : List (List Int)) (k m : Nat) : Prop := ∀ y, d.thr m (memS s (outs.getD m [])) y = true → memS s (outs.getD k []) y = true
theorem Df.Ls.eq {d : Df} {s : Int} {B : Nat} {outs : List (List Int)} (h : d.Ls s B outs) (hn : ∀ k, k < d.n → ∀ m ∈ d.near k, m < d.n) (hc : ∀ k, k < d.n → ∀ m ∈ d.near k, d.closedL s outs k m) : outs = (d.out B).map (shiftI s) := by
 refine List.ext_getElem (by simp [Df.out, h.len]) fun k h1 h2 => ?_
 have hk : k < d.n := by rw [← h.len]; exact h1
 rw [List.getElem_map, (h.inr _ (List.getElem_mem h1)).eq]
 unfold Df.out
 rw [List.getElem_map, List.getElem_range]
 congr 1
 refine List.filter_congr fun y _ => ?_
 rw [Bool.eq_iff_iff]
 simp only [decide_eq_true_eq]
 refine ⟨fun hy => h.sound k h1 y hy, fun hy => ?_⟩
 have key : ∀ {k y}, d.D k y → k < d.n → memS s (outs.getD k []) y = true := by
  intro k y hd
  induction hd with
  | @init k x hi =>
   intro hk
   have hk' : k < outs.length := by rw [h.len]; exact hk
   rw [List.getD_eq_getElem?_getD, List.getElem?_eq_getElem hk']
   simpa [memS] using h.init k hk' x hi
  | @gen k m x hm hg => intro hk; exact hc k hk m hm x (by simp [Df.thr, hg])
  | @pass k m x hm _ hkl ih => intro hk; exact hc k hk m hm x (by unfold Df.thr; rw [ih (hn k hk m hm), hkl]; simp)
 have := key hy hk
 rw [List.getD_eq_getElem?_getD, List.getElem?_eq_getElem h1] at this
 simpa [memS] using this
theorem Df.Ls.upd {d : Df} {s : Int} {B : Nat} {outs : List (List Int)} (h : d.Ls s B outs) {k : Nat} (hk : k < outs.length) {l : List Int} (hl : InR s B l) (hs : ∀ v ∈ outs[k], v ∈ l) (hd : ∀ y : Nat, (y : Int) - s ∈ l → d.D k y) : d.Ls s B (outs.set k l) := by
 refine ⟨by simpa using h.len, fun x hx => ?_, fun k' hk' y hy => ?_, fun k' hk' y hy => ?_⟩
 ·rcases List.mem_or_eq_of_mem_set hx with h1 | rfl
  ·exact h.inr x h1
  ·exact hl
 ·rw [List.length_set] at hk'
  rw [List.getElem_set] at hy
  by_cases e : k = k'
  ·subst e; rw [if_pos rfl] at hy; exact hd y hy
  ·rw [if_neg e] at hy; exact h.sound k' hk' y hy
 ·rw [List.length_set] at hk'
  rw [List.getElem_set]
  by_cases e : k = k'
  ·subst e; rw [if_pos rfl]; exact hs _ (h.init k hk' y hy)
  ·rw [if_neg e]; exact h.init k' hk' y hy
end Go.Den
/- ahead, by the reference. -/
namespace Go.Den
open IrD
attribute [local irreducible] T.get T.set
theorem foldPutL_len : ∀ {l b : List Int}, (l.foldl putL b).length ≤ b.length + l.length := by
 intro l
 induction l with
 | nil => intro b; simp
 | cons a l ih => intro b; have h1 := ih (b := putL b a); have h2 := putL_len (l := b) (n := a); simp only [List.foldl_cons, List.length_cons]; omega
def notW (x : FIns) (l : List Int) : List Int := l.filter fun v => !decide (v = writesS x)
def aheadL (x : FIns) (l : List Int) : List Int := (readsS x).foldl putL ((notW x l).foldl putL [])
theorem aheadL_mem {x : FIns} {l : List Int} {v : Int} : v ∈ aheadL x l ↔ v ∈ readsS x ∨ (v ∈ l ∧ v ≠ writesS x) := by
 unfold aheadL notW
 rw [foldPutL_mem, foldPutL_mem]
 simp [List.mem_filter, or_comm]
theorem notW_take {x : FIns} {l : List Int} {i : Nat} (hi : i < l.length) : notW x (l.take (i + 1)) = if l[i] = writesS x then notW x (l.take i) else notW x (l.take i) ++ [l[i]] := by
 unfold notW
 rw [List.take_succ_eq_append_getElem hi, List.filter_append]
 by_cases h : l[i] = writesS x <;> simp [h]
theorem notW_len {x : FIns} {l : List Int} : (notW x l).length ≤ l.length := List.length_filter_le _ _
theorem fold_snoc {l b : List Int} {v : Int} : (l ++ [v]).foldl putL b = putL (l.foldl putL b) v := by rw [List.foldl_append]; rfl
def AhJ1 (x : FIns) (l : List Int) (m : Nat) (E : PEnv) (L : List LObj) : Prop := ∃ i : Nat, i + m = l.length ∧ L = [] ∧ Has E [(1, ints 3 l), (5, ints 3 (readsS x)), (6, pin (writesS x)), (7, ints 3 ((notW x (l.take i)).foldl putL [])), (8, pin i)]
def AhJ2 (r b : List Int) (m : Nat) (E : PEnv) (L : List LObj) : Prop := ∃ i : Nat, i + m = r.length ∧ L = [] ∧ Has E [(5, ints 3 r), (7, ints 3 ((r.take i).foldl putL b)), (9, pin i)]
set_option maxRecDepth 8000 in
set_option maxHeartbeats 4000000 in
theorem ahead_ok {x : FIns} {l : List Int} (hx : x.list.length ≤ 100000) (hl : l.length ≤ 100000) : PPd (.fn 54 [] []) [.agg (encI x), ints 3 l] (ints 3 (aheadL x l)) := by
 refine PP_code rfl rfl rfl (by simp) (by simp [noId]) (by simp) ?_
 have hcl : cut (encI x) 0 7 = encI x := cut_all rfl
 have hrl := readsS_len (i := x)
 have hbl : big l.length := by unfold big; omega
 refine PC_seq (PW_ok _ ?_)
 simp
 refine PC_seq (PW_ok _ ?_)
 simp [hcl]
 refine (usesR_ok (i := x) (by omega)).runk ?_
 simp [usesV]
 refine PC_seq (PW_ok _ ?_)
 simp
 refine PC_seq (PC_seq (PW_ok _ ?_))
 simp
 refine PC.abs (Abs.dropAll [(1, ints 3 l), (5, ints 3 (readsS x)), (6, pin (writesS x)), (7, ints 3 []), (8, pin (0 : Nat))] ?_) ?_
 ·simp
  exact ⟨.same (by simp), .same (by simp), .same rfl, Vw.frz rfl (by simp) rfl rfl, .same rfl⟩
 refine PC_block (PC_loopG (AhJ1 x l) ?_ (k := l.length) ⟨0, by simp, rfl, Has.env (by simp)⟩)
 rintro m E L ⟨i, him, rfl, ⟨e1, e5, e6, e7, e8, -⟩⟩
 by_cases hi : i < l.length
 case pos =>
  have hcut := cut1 (f := pin) hi
  have hn := notW_take (x := x) hi
  have hw := wrap_inc hi hbl
  have hfl := foldPutL_len (l := notW x (l.take i)) (b := [])
  have hnl := notW_len (x := x) (l := l.take i)
  simp at hfl hnl
  generalize l[i] = v at *
  by_cases hv : v = writesS x
  ·rw [if_pos hv] at hn
   simp [e1, e5, e6, e7, e8, ints, hi, hcut, hv, hw]
   exact GoOn.same (m - 1) (by omega) ⟨i + 1, by omega, rfl, by rw [hn]; simp [e1, e5, e6, e7, ints]⟩
  ·rw [if_neg hv] at hn
   have hp := put_ok (l := (notW x (l.take i)).foldl putL []) (n := v) (by omega)
   rw [← fold_snoc, ← hn] at hp
   simp [e1, e5, e6, e7, e8, ints, hi, hcut, hv, hw]
   refine hp.runk ?_
   simp [e1, e5, e6, e7, e8, ints, hw]
   exact GoOn.same (m - 1) (by omega) ⟨i + 1, by omega, rfl, by simp [e1, e5, e6, ints]⟩
 have hie : i = l.length := by omega
 subst hie
 rw [List.take_length] at e7
 have hfl := foldPutL_len (l := notW x l) (b := [])
 have hnl := notW_len (x := x) (l := l)
 simp at hfl hnl
 have hah : aheadL x l = (readsS x).foldl putL ((notW x l).foldl putL []) := rfl
 rw [hah]
 generalize (notW x l).foldl putL [] = b at *
 generalize readsS x = r at *
 simp [e1, e5, e6, e7, e8, ints]
 refine PC_seq (PC_seq (PW_ok _ ?_))
 simp [e1, e5, e6, e7, e8]
 have hbr : big r.length := by unfold big; omega
 refine PC_block (PC_loopG (AhJ2 r b) ?_ (k := r.length) ⟨0, by simp, rfl, by simp [e5, e7]⟩)
 clear e1 e5 e6 e7 e8
 rintro m E L ⟨i, him, rfl, ⟨e5, e7, e9, -⟩⟩
 by_cases hi : i < r.length
 case pos =>
  have hcut := cut1 (f := pin) hi
  have hw := wrap_inc hi hbr
  have hfl2 := foldPutL_len (l := r.take i) (b := b)
  have htk : r.take (i + 1) = r.take i ++ [r[i]] := List.take_succ_eq_append_getElem hi
  have hp := put_ok (l := (r.take i).foldl putL b) (n := r[i]) (by simp at hfl2; omega)
  rw [← fold_snoc, ← htk] at hp
  simp [e5, e7, e9, ints, hi, hcut]
  refine hp.runk ?_
  simp [e5, e7, e9, ints, hw]
  exact GoOn.same (m - 1) (by omega) ⟨i + 1, by omega, rfl, by simp [e5, ints]⟩
 have hie : i = r.length := by omega
 subst hie
 rw [List.take_length] at e7
 simp [e5, e7, e9, ints]
 refine PW_ok _ ?_
 have hres : ir54.results = [.tmp 4] := rfl
 simp [e7, hres]
 exact .same (by simp)
def stepL (code : List FIns) (outs : List (List Int)) (now : List Int) (f : Int) : List Int := match code[f.toNat]?, outs[f.toNat]? with
 | some x, some l => (aheadL x l).foldl putL now
 | _, _ => now
theorem stepL_at {code : List FIns} {outs : List (List Int)} {now : List Int} {k : Nat} (h : k < code.length) (h' : k < outs.length) : stepL code outs now (k : Int) = (aheadL code[k] outs[k]).foldl putL now := by
 simp only [stepL, Int.toNat_natCast, List.getElem?_eq_getElem h, List.getElem?_eq_getElem h']
theorem nowL_mem {code : List FIns} {outs : List (List Int)} {v : Int} : ∀ {fl : List Int} {b : List Int}, v ∈ fl.foldl (stepL code outs) b ↔ v ∈ b ∨ ∃ f ∈ fl, ∃ x l, code[f.toNat]? = some x ∧ outs[f.toNat]? = some l ∧ v ∈ aheadL x l := by
 intro fl
 induction fl with
 | nil => intro b; simp
 | cons a fl ih =>
  intro b
  rw [List.foldl_cons, ih]
  have : v ∈ stepL code outs b a ↔ v ∈ b ∨ ∃ x l, code[a.toNat]? = some x ∧ outs[a.toNat]? = some l ∧ v ∈ aheadL x l := by
   unfold stepL
   split
   ·rename_i x l h1 h2
    rw [foldPutL_mem, h1, h2]
    simp
   ·rename_i hno
    refine ⟨.inl, fun h => h.elim id ?_⟩
    rintro ⟨x, l, h1, h2, _⟩
    exact absurd h2 (hno x l h1)
  rw [this]
  constructor
  ·rintro ((h | h) | ⟨f, hf, h⟩)
   ·exact .inl h
   ·exact .inr ⟨a, by simp, h⟩
   ·exact .inr ⟨f, by simp [hf], h⟩
  ·rintro (h | ⟨f, hf, h⟩)
   ·exact .inl (.inl h)
   ·rcases List.mem_cons.1 hf with rfl | hf
    ·exact .inl (.inr h)
    ·exact .inr ⟨f, hf, h⟩
theorem nowL_inr {s : Int} {B : Nat} {code : List FIns} {outs : List (List Int)} : ∀ {fl : List Int} {b : List Int}, InR s B b → (∀ f ∈ fl, ∀ x l, code[f.toNat]? = some x → outs[f.toNat]? = some l → ∀ v ∈ aheadL x l, ∃ y : Nat, v = (y : Int) - s ∧ y < B) → InR s B (fl.foldl (stepL code outs) b) := by
 intro fl
 induction fl with
 | nil => intro b h _; exact h
 | cons a fl ih =>
  intro b h hf
  rw [List.foldl_cons]
  refine ih ?_ fun f hm => hf f (by simp [hm])
  unfold stepL
  split
  ·rename_i x l h1 h2
   exact h.fold (hf a (by simp) x l h1 h2)
  ·exact h
theorem follow_mem {x : FIns} {i : Nat} {v : Int} : v ∈ followI x i ↔ v ∈ succI x i := by
 unfold followI succI
 repeat' split
 all_goals simp [putL_mem]
theorem memS0 {l : List Int} {y : Nat} : memS 0 l y = decide ((y : Int) ∈ l) := by simp [memS]
theorem lvInr {c : FCode} {b : FBody} {B : Nat} {outs : List (List Int)} (hb : OkB c b) (hB : b.regs ≤ B) (h : (liveD b).Ls 0 B outs) {i : Nat} (hi : i < b.code.length) (fl : List Int) : InR 0 B (fl.foldl (stepL b.code outs) (outs.getD i [])) := by
 have hlen : outs.length = b.code.length := h.len
 have hio : i < outs.length := by omega
 have hget : outs.getD i [] = outs[i] := by simp [List.getD_eq_getElem?_getD, hio]
 rw [hget]
 refine nowL_inr (h.inr _ (List.getElem_mem hio)) fun f hf x l hx hl v hv => ?_
 obtain ⟨h1, rfl⟩ := List.getElem?_eq_some_iff.1 hx
 obtain ⟨h2, rfl⟩ := List.getElem?_eq_some_iff.1 hl
 rcases aheadL_mem.1 hv with h3 | ⟨h3, _⟩
 ·have := reads_ok (hb.right _ (List.getElem_mem h1)) h3
  exact ⟨v.toNat, by omega, by omega⟩
 ·exact (h.inr _ (List.getElem_mem _)).rng v h3
theorem aheadL_len {x : FIns} {l : List Int} : (aheadL x l).length ≤ l.length + (readsS x).length := by
 have h1 := foldPutL_len (l := readsS x) (b := (notW x l).foldl putL [])
 have h2 := foldPutL_len (l := notW x l) (b := [])
 have h3 := notW_len (x := x) (l := l)
 unfold aheadL
 simp at h2; omega
structure LvStep (c : FCode) (b : FBody) (B : Nat) (outs : List (List Int)) (i : Nat) (hi : i < b.code.length) (now : List Int) : Prop where
 inr : InR 0 B now
 sub : ∀ v ∈ outs.getD i [], v ∈ now
 sound : ∀ y : Nat, (y : Int) - 0 ∈ now → (liveD b).D i y
 all : ∀ m ∈ (liveD b).near i, ∀ y, (liveD b).thr m (memS 0 (outs.getD m [])) y = true → (y : Int) ∈ now
theorem lvStep {c : FCode} {b : FBody} {B : Nat} {outs : List (List Int)} (hb : OkB c b) (hB : b.regs ≤ B) (h : (liveD b).Ls 0 B outs) {i : Nat} (hi : i < b.code.length) : LvStep c b B outs i hi ((followI b.code[i] i).foldl (stepL b.code outs) (outs.getD i [])) := by
 have hlen : outs.length = b.code.length := h.len
 have hio : i < outs.length := by omega
 have hget : ∀ k (h : k < outs.length), outs.getD k [] = outs[k] := fun k h => by simp [List.getD_eq_getElem?_getD, h]
 have hah : ∀ k (hk : k < b.code.length), ∀ v ∈ aheadL b.code[k] (outs[k]'(by omega)), ∃ y : Nat, v = (y : Int) - 0 ∧ y < B := by
  intro k hk v hv
  rcases aheadL_mem.1 hv with h1 | ⟨h1, _⟩
  ·have := reads_ok (hb.right _ (List.getElem_mem hk)) h1
   exact ⟨v.toNat, by omega, by omega⟩
  ·exact (h.inr _ (List.getElem_mem _)).rng v h1
 refine ⟨?_, fun v hv => nowL_mem.2 (.inl hv), fun y hy => ?_, fun m hm y hy => ?_⟩
 ·rw [hget i hio]
  refine nowL_inr (h.inr _ (List.getElem_mem hio)) fun f hf x l hx hl v hv => ?_
  obtain ⟨h1, rfl⟩ := List.getElem?_eq_some_iff.1 hx
  obtain ⟨h2, rfl⟩ := List.getElem?_eq_some_iff.1 hl
  exact hah _ h1 v hv
 ·rcases nowL_mem.1 hy with h1 | ⟨f, hf, x, l, hx, hl, hv⟩
  ·rw [hget i hio] at h1
   exact h.sound i hio y h1
  ·obtain ⟨h1, rfl⟩ := List.getElem?_eq_some_iff.1 hx
   obtain ⟨h2, rfl⟩ := List.getElem?_eq_some_iff.1 hl
   have hf' := follow_mem.1 hf
   have hnr : f.toNat ∈ (liveD b).near i := by simp only [liveD, List.getElem?_eq_getElem hi, List.mem_map]; exact ⟨f, hf', rfl⟩
   rw [Int.sub_zero] at hv
   rcases aheadL_mem.1 hv with h3 | ⟨h3, h4⟩
   ·exact .gen hnr (by simp only [liveD, List.getElem?_eq_getElem h1]; simpa using h3)
   ·exact .pass hnr (h.sound _ h2 y (by rw [Int.sub_zero]; exact h3)) (by simp only [liveD, List.getElem?_eq_getElem h1]; simpa using h4)
 ·simp only [liveD, List.getElem?_eq_getElem hi, List.mem_map] at hm
  obtain ⟨f, hf, rfl⟩ := hm
  have hfr := succ_ok hb hi f hf
  have hfn : f.toNat < b.code.length := by omega
  refine nowL_mem.2 (.inr ⟨f, follow_mem.2 hf, b.code[f.toNat], outs[f.toNat]'(by omega), List.getElem?_eq_getElem hfn, List.getElem?_eq_getElem (by omega), aheadL_mem.2 ?_⟩)
  simp only [Df.thr, liveD, List.getElem?_eq_getElem hfn, hget _ (show f.toNat < outs.length by omega), memS0, Bool.or_eq_true, Bool.and_eq_true, decide_eq_true_eq, Bool.not_eq_true', decide_eq_false_iff_not] at hy
  exact hy
def PassL (outs0 outs : List (List Int)) (ag : Bool) (Cl : Prop) : Prop := (ag = true ∧ lenSum outs0 < lenSum outs) ∨ (ag = false ∧ outs = outs0 ∧ Cl)
def LrJ1 (b : FBody) (B : Nat) (m : Nat) (E : PEnv) (L : List LObj) : Prop := ∃ outs ag, m = (B * b.code.length - lenSum outs) + (if ag = true then 1 else 0) ∧ L = [.row 24 (outs.map (ints 3))] ∧ (liveD b).Ls 0 B outs ∧
 (ag = false → ∀ k, k < b.code.length → ∀ m ∈ (liveD b).near k, (liveD b).closedL 0 outs k m) ∧ Has E [(7, recs 62 encI b.code), (8, .slc 0 0 b.code.length b.code.length), (9, pbool ag)]
def LrJ2 (b : FBody) (B : Nat) (outs0 : List (List Int)) (m : Nat) (E : PEnv) (L : List LObj) : Prop := ∃ outs ag, m ≤ b.code.length ∧ L = [.row 24 (outs.map (ints 3))] ∧ (liveD b).Ls 0 B outs ∧
 PassL outs0 outs ag (∀ k, m ≤ k → k < b.code.length → ∀ m ∈ (liveD b).near k, (liveD b).closedL 0 outs0 k m) ∧ Has E [(7, recs 62 encI b.code), (8, .slc 0 0 b.code.length b.code.length), (9, pbool ag), (10, pin ((m : Int) - 1))]
def LrJ3 (b : FBody) (outs : List (List Int)) (ag : Bool) (i : Nat) (fl : List Int) (m : Nat) (E : PEnv) (L : List LObj) : Prop := ∃ k : Nat, k + m = fl.length ∧ L = [.row 24 (outs.map (ints 3))] ∧
 Has E [(7, recs 62 encI b.code), (8, .slc 0 0 b.code.length b.code.length), (9, pbool ag), (10, pin i), (11, ints 3 fl), (12, ints 3 ((fl.take k).foldl (stepL b.code outs) (outs.getD i []))), (13, pin k)]
def LrJ4 (b : FBody) (outs : List (List Int)) (ag : Bool) (i k : Nat) (fl inn now : List Int) (m : Nat) (E : PEnv) (L : List LObj) : Prop := ∃ j : Nat, j + m = inn.length ∧ L = [.row 24 (outs.map (ints 3))] ∧
 Has E [(7, recs 62 encI b.code), (8, .slc 0 0 b.code.length b.code.length), (9, pbool ag), (10, pin i), (11, ints 3 fl), (12, ints 3 ((inn.take j).foldl putL now)), (13, pin k), (14, ints 3 inn), (15, pin j)]
theorem shiftI0 : shiftI 0 = natI := by funext l; simp [shiftI, natI]
set_option maxRecDepth 8000 in
set_option maxHeartbeats 8000000 in
theorem liveR_ok {c : FCode} {body : Int} (hc : OkC c) (h5 : ∀ b ∈ c.bodies, ∀ i ∈ b.code, i.list.length ≤ 1000) : PPd (.fn 25 [] []) [.agg (encC c), pin body] (.tup [lists2 24 (liveS c body), pin (errS c body)]) := by
 refine PP_code rfl rfl rfl (by simp) (by simp [noId]) (by simp [noId, noIdL]) ?_
 have hres : ir25.results = [.tmp 4, .tmp 5] := rfl
 have hcc : cut (encC c) 0 2 = encC c := rfl
 refine PC_seq (PW_ok _ ?_)
 simp
 refine PC_seq (PC_seq (PW_ok _ ?_))
 simp [hcc]
 refine (checkBody_ok hc).runk ?_
 by_cases he : errS c body = 0
 case neg =>
  have hls : liveS c body = [] := by simp [liveS, he]
  rw [hls]
  simp
  refine PW_ok _ ?_
  simp [he]
  simp [he, hres]
  exact .tup rfl (fun j a b => by
   match j, a, b with
   | 0, _, _ => exact .nil
   | 1, _, _ => exact .same rfl)
 have h0 : checkS c = 0 := by
  unfold errS at he
  by_cases h : checkS c = 0
  ·exact h
  ·rw [if_pos h] at he; exact absurd he h
 have hbd : 0 ≤ body ∧ body < c.bodies.length := by
  unfold errS at he
  rw [if_neg (by simp [h0])] at he
  split at he
  ·omega
  ·omega
 obtain ⟨k, rfl⟩ : ∃ k : Nat, body = k := ⟨body.toNat, by omega⟩
 have hk : k < c.bodies.length := by omega
 have hls : liveS c (k : Int) = ((liveD c.bodies[k]).out (64 * (c.bodies[k].regs.toNat / 64 + 1))).map natI := by simp [liveS, he, hk]
 have hob := okB_of h0 hk
 have hil := h5 _ (List.getElem_mem hk)
 have hcb := cutBo hk
 have hE1 : (encC c)[1]? = some (recs 65 encBo c.bodies) := rfl
 rw [hls, he]
 have hkc : (k : Int) < c.bodies.length := by omega
 generalize c.bodies[k] = b at *
 have hr0 := hob.regs0
 have hr1 := hob.regs
 have hb3 : (encBo b)[3]? = some (recs 62 encI b.code) := rfl
 have hd3 : (encBo b).drop 3 = [recs 62 encI b.code] := rfl
 have hlen4 : (3 : Nat) ≤ (encBo b).length := by show 3 ≤ 4; omega
 simp [he]
 refine PW_ok _ ?_
 simp
 refine PC_seq (PW_ok _ ?_)
 simp [hE1, recs, hk, hkc, hcb, hd3]
 refine PC_seq (PW_ok _ ?_)
 have hcl := hob.code
 have hn1 : (b.code.length : Int) ≤ 9223372036854775807 ∧ 24 * (b.code.length : Int) ≤ 281474976710656 := by omega
 simp [one, repl_nil, hn1]
 refine PC_seq (PC_seq (PW_ok _ ?_))
 simp
 generalize hB : 64 * (b.regs.toNat / 64 + 1) = B
 have hBr : b.regs ≤ B := by omega
 have hBl : B ≤ 10000 := by omega
 have hls0 : (liveD b).Ls 0 B (List.replicate b.code.length []) := by
  refine ⟨by simp [liveD], fun l hl => ?_, fun k h y hy => ?_, fun k h y hy => by cases hy⟩
  ·rw [List.eq_of_mem_replicate hl]; exact ⟨.nil, fun v hv => by simp at hv⟩
  ·simp at hy
 refine PC.abs (Abs.keep [1] [(7, recs 62 encI b.code), (8, .slc 0 0 b.code.length b.code.length), (9, pbool true)] (L' := [.row 24 ((List.replicate b.code.length ([] : List Int)).map (ints 3))]) (by simp) (by simp) (.cons ⟨_, rfl, .row (F2.of_idx (by simp) fun i h1 h2 => ?_)⟩ .nil) ?_) ?_
 ·simp
  exact .nil
 ·simp [recs]
  exact ⟨.same (by simp [noId]), .slc rfl, .same rfl⟩
 have hbig : big b.code.length := by unfold big; omega
 have hnlt := liveD_lt hob
 have hDn : (liveD b).n = b.code.length := rfl
 refine PC_block (PC_loopG (LrJ1 b B) ?_ (k := B * b.code.length - lenSum (List.replicate b.code.length []) + 1) ⟨_, true, by simp, rfl, hls0, by simp, Has.env (by simp)⟩)
 rintro m E L ⟨outs, ag, hm, rfl, ho, hcl2, ⟨e7, e8, e9, -⟩⟩
 have hlo : outs.length = b.code.length := ho.len
 cases ag with
 | false =>
  have heq := ho.eq hnlt (hcl2 rfl)
  rw [shiftI0] at heq
  simp [e7, e8, e9]
  refine PW_ok _ ?_
  simp [e8, hres]
  rw [← heq]
  exact .tup rfl (fun j a b => by
   match j, a, b with
   | 0, _, _ => exact Vw.frz rfl (by simp) (by simp) (by simp [lists2, hlo])
   | 1, _, _ => exact .same rfl)
 | true =>
 have hw0 : IntKind.wrap .i64 ((b.code.length : Int) - 1) = (b.code.length : Int) - 1 := wrap64 (by omega) (by omega)
 simp [e7, e8, e9, recs, hw0]
 refine PC_loopG (LrJ2 b B outs) ?_ (k := b.code.length) ⟨outs, false, by omega, rfl, ho, .inr ⟨rfl, rfl, fun k h1 h2 => by omega⟩, by simp [e7, e8, recs]⟩
 clear e7 e8 e9
 rintro m2 E L ⟨outs2, ag, hm2, rfl, ho2, hp, ⟨e7, e8, e9, e10, -⟩⟩
 have hlo2 : outs2.length = b.code.length := ho2.len
 have hsum : ∀ {o}, (liveD b).Ls 0 B o → lenSum o ≤ B * b.code.length := fun {o} h => by
  have := lenSum_le (B := B) fun l hl => (h.inr l hl).len
  rwa [show o.length = b.code.length from h.len] at this
 cases m2 with
 | zero =>
  simp [e7, e8, e9, e10]
  refine GoOn.same (B * b.code.length - lenSum outs2 + (if ag = true then 1 else 0)) ?_ ⟨outs2, ag, rfl, rfl, ho2, fun hag => ?_, by simp [e7, e8, e9]⟩
  ·have h1 := hsum ho
   have h2 := hsum ho2
   rcases hp with ⟨h3, h4⟩ | ⟨h3, h4, _⟩
   ·rw [hm, h3]; simp; omega
   ·rw [hm, h3, h4]; simp
  ·rcases hp with ⟨h3, _⟩ | ⟨_, h4, h5⟩
   ·rw [h3] at hag; cases hag
   ·rw [h4]; exact fun k hk => h5 k (by omega) hk
 | succ i =>
 have hi : i < b.code.length := by omega
 have hi1 : (((i + 1 : Nat) : Int) - 1) = i := by omega
 rw [hi1] at e10
 have hfo := follow_ok (l := b.code) (i := i) hi (by omega)
 have hst := lvStep hob hBr ho2 hi
 have hg0 : (outs2.map (ints 3))[i]? = some (ints 3 (outs2.getD i [])) := by simp [List.getD_eq_getElem?_getD, hlo2, hi]
 have hfl : (followI b.code[i] i).length ≤ 2 := by
  unfold followI
  repeat' split
  all_goals first | (simp; done) | exact Nat.le_trans putL_len (by simp)
 have hfr : ∀ f ∈ followI b.code[i] i, 0 ≤ f ∧ f < b.code.length := fun f hf => succ_ok hob hi f (follow_mem.1 hf)
 generalize hfle : followI b.code[i] i = fl at *
 have hi' : (i : Int) < b.code.length := by omega
 simp [e7, e8, e9, e10]
 refine hfo.runk ?_
 simp [e7, e8, e9, e10, hi', hi, hlo2, hg0]
 refine PC_loopG (LrJ3 b outs2 ag i fl) ?_ (k := fl.length) ⟨0, by simp, rfl, by simp [e7, e8, e9, e10, List.getD_eq_getElem?_getD, hlo2, hi]⟩
 clear e7 e8 e9 e10
 rintro m3 E L ⟨j, hjm, rfl, ⟨e7, e8, e9, e10, e11, e12, e13, -⟩⟩
 have hbf : big fl.length := by unfold big; omega
 by_cases hj : j < fl.length
 case neg =>
  have hje : j = fl.length := by omega
  subst hje
  rw [List.take_length] at e12
  have hnl := hst.inr.len
  generalize hnow : fl.foldl (stepL b.code outs2) (outs2.getD i []) = now at *
  have hwi : IntKind.wrap .i64 ((i : Int) - 1) = (i : Int) - 1 := wrap64 (by omega) (by omega)
  have hio : i < outs2.length := by omega
  have hol : outs2.getD i [] = outs2[i] := by simp [List.getD_eq_getElem?_getD, hio]
  have hsub : ∀ v ∈ outs2[i], v ∈ now := fun v hv => hst.sub v (by rw [hol]; exact hv)
  have ho3 := ho2.upd hio hst.inr hsub hst.sound
  have hls3 := lenSum_set hio now
  have hmap : (outs2.map (ints 3)).set i (ints 3 now) = (outs2.set i now).map (ints 3) := by rw [List.map_set]
  have hole : outs2[i].length ≤ now.length := by
   have h1 := ho2.inr _ (List.getElem_mem hio)
   refine Nat.le_of_not_lt fun hh => ?_
   have h2 := h1.same hst.inr hsub (by omega)
   rw [← h2] at hh; omega
  -- what the pass says then
  have fin : ∀ {E' : PEnv} {ag' : Bool}, E'.get 7 = some (recs 62 encI b.code) → E'.get 8 = some (.slc 0 0 b.code.length b.code.length) → E'.get 9 = some (pbool ag') → E'.get 10 = some (pin ((i : Int) - 1)) → (ag' = (ag || decide (outs2[i].length < now.length))) → GoOn (LrJ2 b B outs) (i + 1) E' [.row 24 ((outs2.map (ints 3)).set i (ints 3 now))] := by
   intro E' ag' a7 a8 a9 a10 hag
   rw [hmap]
   refine GoOn.same i (by omega) ⟨outs2.set i now, ag', by omega, rfl, ho3, ?_, a7, a8, a9, a10, trivial⟩
   by_cases hlt : outs2[i].length < now.length
   ·left
    rw [hag]
    refine ⟨by simp [hlt], ?_⟩
    rcases hp with ⟨_, h2⟩ | ⟨_, h2, _⟩
    ·omega
    ·rw [← h2]; omega
   ·have hsame := (ho2.inr _ (List.getElem_mem hio)).same hst.inr hsub (by omega)
    have hset : outs2.set i now = outs2 := by rw [← hsame]; exact set_self hio
    rw [hset, hag]
    rcases hp with ⟨h1, h2⟩ | ⟨h1, h2, h3⟩
    ·exact .inl ⟨by simp [h1], h2⟩
    ·refine .inr ⟨by simp [h1, hlt], h2, fun k hk1 hk2 => ?_⟩
     by_cases e : k = i
     ·subst e
      intro m' hm' y hy
      rw [← h2] at hy ⊢
      have := hst.all m' hm' y hy
      rw [memS0, hol, hsame]
      simpa using this
     ·exact h3 k (by omega) hk2
  have hrow : ((outs2.map (ints 3)).set i (ints 3 now))[i]? = some (ints 3 now) := by simp [hio]
  have hil2 : i < (outs2.map (ints 3)).length := by simpa using hio
  have hgi : (outs2.map (ints 3))[i]? = some (ints 3 outs2[i]) := by simp [hio]
  have hgi' : ∀ h : i < (outs2.map (ints 3)).length, (outs2.map (ints 3))[i] = ints 3 outs2[i] := fun h => by simp
  generalize outs2.map (ints 3) = rowv at *
  generalize outs2[i] = oi at *
  cases ag with
  | true =>
   simp [e7, e8, e9, e10, e11, e12, e13, hi, hi', hil2, ints, hwi]
   exact fin (ag' := true) (by simp [e7]) (by simp [e8]) (by simp) (by simp) (by simp)
  | false =>
   by_cases hlt : oi.length < now.length
   ·have hlt' : (oi.length : Int) < now.length := by omega
    simp [e7, e8, e9, e10, e11, e12, e13, hi, hi', hil2, hgi, hgi', ints, hwi, hlt, hlt']
    exact fin (ag' := true) (by simp [e7]) (by simp [e8]) (by simp) (by simp) (by simp [hlt])
   ·have hlt' : ¬ (oi.length : Int) < now.length := by omega
    simp [e7, e8, e9, e10, e11, e12, e13, hi, hi', hil2, hgi, hgi', ints, hwi, hlt, hlt']
    exact fin (ag' := false) (by simp [e7]) (by simp [e8]) (by simp) (by simp) (by simp [hlt])
 have hcut := cut1 (f := pin) hj
 have htk : fl.take (j + 1) = fl.take j ++ [fl[j]] := List.take_succ_eq_append_getElem hj
 obtain ⟨f0, f1⟩ := hfr _ (List.getElem_mem hj)
 have hwj := wrap_inc hj hbf
 have hnext : (fl.take (j + 1)).foldl (stepL b.code outs2) (outs2.getD i []) = stepL b.code outs2 ((fl.take j).foldl (stepL b.code outs2) (outs2.getD i [])) fl[j] := by rw [htk, List.foldl_append]; rfl
 have hcur : InR 0 B ((fl.take j).foldl (stepL b.code outs2) (outs2.getD i [])) := lvInr hob hBr ho2 hi _
 obtain ⟨fk, hfk⟩ : ∃ n : Nat, fl[j] = n := ⟨fl[j].toNat, by omega⟩
 have hfkn : fk < b.code.length := by omega
 have hfko : fk < outs2.length := by omega
 rw [hfk] at hnext hcut
 rw [stepL_at hfkn hfko] at hnext
 have hcutI := cutI hfkn
 have hxl := hil _ (List.getElem_mem hfkn)
 have hfk' : (fk : Int) < b.code.length := by omega
 have hgk : (outs2.map (ints 3))[fk]? = some (ints 3 outs2[fk]) := by simp [hfko]
 have hgk' : ∀ h : fk < (outs2.map (ints 3)).length, (outs2.map (ints 3))[fk] = ints 3 outs2[fk] := fun h => by simp
 have hfl2 : fk < (outs2.map (ints 3)).length := by simpa using hfko
 have hcI : List.take 7 (encI b.code[fk]) = encI b.code[fk] := rfl
 have hoi := (ho2.inr _ (List.getElem_mem hfko)).len
 have hrl := readsS_len (i := b.code[fk])
 have hal := aheadL_len (x := b.code[fk]) (l := outs2[fk])
 have hahok := ahead_ok (x := b.code[fk]) (l := outs2[fk]) (by omega) (by omega)
 have hnl := hcur.len
 generalize (fl.take j).foldl (stepL b.code outs2) (outs2.getD i []) = now at *
 have hin : ∀ j, ((aheadL b.code[fk] outs2[fk]).take j).length ≤ 20000 := fun j => by rw [List.length_take]; omega
 have hbi : big (aheadL b.code[fk] outs2[fk]).length := by unfold big; omega
 generalize aheadL b.code[fk] outs2[fk] = inn at *
 generalize hrowv : outs2.map (ints 3) = rowv at *
 simp [e7, e8, e9, e10, e11, e12, e13, hj, hcut, recs, hfkn, hfk', hcutI, hgk, hgk', hfl2, hcI, ints]
 refine hahok.runk ?_
 simp [e7, e8, e9, e10, e11, e12, e13, ints]
 refine PC_loopG (LrJ4 b outs2 ag i j fl inn now) ?_ (k := inn.length) ⟨0, by simp, by rw [hrowv], by simp [e7, e8, e9, e10, e11, e12, e13, recs, ints]⟩
 clear e7 e8 e9 e10 e11 e12 e13
 rintro m4 E L ⟨q, hqm, rfl, ⟨e7, e8, e9, e10, e11, e12, e13, e14, e15, -⟩⟩
 rw [hrowv]
 by_cases hq : q < inn.length
 case neg =>
  have hqe : q = inn.length := by omega
  subst hqe
  rw [List.take_length, ← hnext] at e12
  simp [e7, e8, e9, e10, e11, e12, e13, e14, e15, ints, hwj]
  exact GoOn.same (m3 - 1) (by omega) ⟨j + 1, by omega, by rw [hrowv], by simp [e7, e8, e9, e10, e11, e12, ints]⟩
 have hcq := cut1 (f := pin) hq
 have htq : inn.take (q + 1) = inn.take q ++ [inn[q]] := List.take_succ_eq_append_getElem hq
 have hfp := foldPutL_len (l := inn.take q) (b := now)
 have hp9 := put_ok (l := (inn.take q).foldl putL now) (n := inn[q]) (by have := hin q; omega)
 rw [← fold_snoc, ← htq] at hp9
 have hwq := wrap_inc hq hbi
 simp [e7, e8, e9, e10, e11, e12, e13, e14, e15, hq, hcq, ints]
 refine hp9.runk ?_
 simp [e7, e8, e9, e10, e11, e12, e13, e14, e15, ints, hwq]
 exact GoOn.same (m4 - 1) (by omega) ⟨q + 1, by omega, by rw [hrowv], by simp [e7, e8, e9, e10, e11, e13, e14, ints]⟩
def cellOf : Option Nat → List PV → PV
 | none, _ => .v (.slice none 0 0)
 | some j, l => .slc j 0 l.length l.length
structure HL (L : List LObj) (b : Nat) (t : TypeId) (js : List (Option Nat)) (ls : List (List PV)) : Prop where
 len : js.length = ls.length
 ge : ∀ j, some j ∈ js → b ≤ j
 nd : ∀ (r r' j : Nat), js[r]? = some (some j) → js[r']? = some (some j) → r = r'
 at_ : ∀ (r j : Nat) (l : List PV), js[r]? = some (some j) → ls[r]? = some l → L[j]? = some (.row t l)
 nil : ∀ (r : Nat) (l : List PV), js[r]? = some none → ls[r]? = some l → l = []
def cellsOf (js : List (Option Nat)) (ls : List (List PV)) : List PV := List.zipWith cellOf js ls
theorem cellsOf_len {js : List (Option Nat)} {ls : List (List PV)} (h : js.length = ls.length) : (cellsOf js ls).length = js.length := by simp [cellsOf, h]
theorem cellsOf_get {js : List (Option Nat)} {ls : List (List PV)} {r : Nat} {j : Option Nat} {l : List PV} (h1 : js[r]? = some j) (h2 : ls[r]? = some l) : (cellsOf js ls)[r]? = some (cellOf j l) := by simp [cellsOf, List.getElem?_zipWith, h1, h2]
theorem cellsOf_set {js : List (Option Nat)} {ls : List (List PV)} {r : Nat} {j : Option Nat} {l : List PV} : (cellsOf js ls).set r (cellOf j l) = cellsOf (js.set r j) (ls.set r l) := by
 unfold cellsOf
 refine List.ext_getElem? fun n => ?_
 simp only [List.getElem?_set, List.getElem?_zipWith, List.length_zipWith]
 by_cases e : r = n
 ·subst e
  by_cases h1 : r < js.length
  ·by_cases h2 : r < ls.length
   ·have : r < min js.length ls.length := by omega
    simp [h1, h2, this]
   ·have : ¬ r < min js.length ls.length := by omega
    simp [h1, h2, this]
  ·have : ¬ r < min js.length ls.length := by omega
   simp [h1, this]
 ·simp [e]
theorem HL.mono {L L' : List LObj} {b : Nat} {t : TypeId} {js : List (Option Nat)} {ls : List (List PV)} (h : HL L b t js ls) (hL : ∀ j o, b ≤ j → L[j]? = some o → L'[j]? = some o) : HL L' b t js ls :=
 ⟨h.len, h.ge, h.nd, fun r j l h1 h2 => hL j _ (h.ge j (List.mem_of_getElem? h1)) (h.at_ r j l h1 h2), h.nil⟩
theorem HL.upd {L L' : List LObj} {b : Nat} {t : TypeId} {js : List (Option Nat)} {ls : List (List PV)} (h : HL L b t js ls) {r k : Nat} {l' : List PV} (hk : L'[k]? = some (.row t l')) (hk2 : L.length ≤ k) (hb : b ≤ L.length)
  (hL : ∀ j, b ≤ j → j < L.length → js[r]? ≠ some (some j) → L'[j]? = L[j]?) : HL L' b t (js.set r (some k)) (ls.set r l') := by
 refine ⟨by simp [h.len], fun j hj => ?_, fun p q j hp hq => ?_, fun p j l hp hl => ?_, fun p l hp hl => ?_⟩
 ·rcases List.mem_or_eq_of_mem_set hj with h1 | h1
  ·exact h.ge j h1
  ·cases h1; omega
 ·rw [List.getElem?_set] at hp hq
  have key : ∀ p j, js[p]? = some (some j) → j < L.length := fun p j hp => by
   have hp' := (List.getElem?_eq_some_iff.1 hp).1
   have := h.at_ p j _ hp (List.getElem?_eq_getElem (by rw [← h.len]; exact hp'))
   exact (List.getElem?_eq_some_iff.1 this).1
  by_cases e1 : r = p
  ·by_cases e2 : r = q
   ·omega
   ·rw [if_neg e2] at hq
    rw [if_pos e1] at hp
    split at hp
    ·cases hp; have := key q _ hq; omega
    ·cases hp
  ·rw [if_neg e1] at hp
   by_cases e2 : r = q
   ·rw [if_pos e2] at hq
    split at hq
    ·cases hq; have := key p _ hp; omega
    ·cases hq
   ·rw [if_neg e2] at hq
    exact h.nd p q j hp hq
 ·rw [List.getElem?_set] at hp hl
  by_cases e1 : r = p
  ·rw [if_pos e1] at hp hl
   split at hp
   ·cases hp
    split at hl
    ·cases hl; exact hk
    ·cases hl
   ·cases hp
  ·rw [if_neg e1] at hp hl
   have h1 := h.at_ p j l hp hl
   rw [hL j (h.ge j (List.mem_of_getElem? hp)) (List.getElem?_eq_some_iff.1 h1).1 (fun hh => e1 (h.nd r p j hh hp))]
   exact h1
 ·rw [List.getElem?_set] at hp hl
  by_cases e1 : r = p
  ·rw [if_pos e1] at hp
   split at hp <;> cases hp
  ·rw [if_neg e1] at hp hl
   exact h.nil p l hp hl
theorem HL.push {L L' : List LObj} {b : Nat} {t : TypeId} {js : List (Option Nat)} {ls : List (List PV)} (h : HL L b t js ls) {k : Nat} {l' : List PV} (hk : L'[k]? = some (.row t l')) (hk2 : L.length ≤ k) (hb : b ≤ L.length)
  (hL : ∀ j, b ≤ j → j < L.length → L'[j]? = L[j]?) : HL L' b t (js ++ [some k]) (ls ++ [l']) := by
 have key : ∀ p j, js[p]? = some (some j) → j < L.length := fun p j hp => by
  have hp' := (List.getElem?_eq_some_iff.1 hp).1
  have := h.at_ p j _ hp (List.getElem?_eq_getElem (by rw [← h.len]; exact hp'))
  exact (List.getElem?_eq_some_iff.1 this).1
 have cas : ∀ p j, (js ++ [some k])[p]? = some j → js[p]? = some j ∨ (p = js.length ∧ j = some k) := fun p j hp => by
  rw [List.getElem?_append] at hp
  split at hp
  ·exact .inl hp
  ·rename_i hge
   have : p - js.length < 1 := by have := (List.getElem?_eq_some_iff.1 hp).1; simpa using this
   have e : p = js.length := by omega
   subst e
   simp at hp
   exact .inr ⟨rfl, hp.symm⟩
 refine ⟨by simp [h.len], fun j hj => ?_, fun p q j hp hq => ?_, fun p j l hp hl => ?_, fun p l hp hl => ?_⟩
 ·rcases List.mem_append.1 hj with h1 | h1
  ·exact h.ge j h1
  ·simp at h1; omega
 ·rcases cas p _ hp with h1 | ⟨h1, h2⟩
  ·rcases cas q _ hq with h3 | ⟨h3, h4⟩
   ·exact h.nd p q j h1 h3
   ·cases h4; have := key p _ h1; omega
  ·rcases cas q _ hq with h3 | ⟨h3, h4⟩
   ·cases h2; have := key q _ h3; omega
   ·omega
 ·rcases cas p _ hp with h1 | ⟨h1, h2⟩
  ·have hlt := (List.getElem?_eq_some_iff.1 h1).1
   rw [List.getElem?_append_left (by rw [← h.len]; exact hlt)] at hl
   rw [hL j (h.ge j (List.mem_of_getElem? h1)) (key p j h1)]
   exact h.at_ p j l h1 hl
  ·cases h2
   rw [h1, h.len] at hl
   simp at hl
   rw [← hl]; exact hk
 ·rcases cas p _ hp with h1 | ⟨h1, h2⟩
  ·have hlt := (List.getElem?_eq_some_iff.1 h1).1
   rw [List.getElem?_append_left (by rw [← h.len]; exact hlt)] at hl
   exact h.nil p l h1 hl
  ·cases h2
def fzl (t : TypeId) (l : List PV) : PV := .fz t l.length l
theorem HL.frz {L : List LObj} {b : Nat} {t : TypeId} {js : List (Option Nat)} {ls : List (List PV)} {τ : List Nat} (h : HL L b t js ls) (hτ : ∀ i ∈ τ, i < b) (hn : ∀ l ∈ ls, allNl l ∧ noIdL l = true) : VwL τ L (cellsOf js ls) (ls.map (fzl t)) := by
 refine F2.of_idx (by rw [cellsOf_len h.len, List.length_map, h.len]) fun i h1 h2 => ?_
 rw [cellsOf_len h.len] at h1
 rw [List.length_map] at h2
 have e1 := cellsOf_get (js := js) (ls := ls) (r := i) (List.getElem?_eq_getElem h1) (List.getElem?_eq_getElem h2)
 have e2 : (cellsOf js ls)[i]'(by rw [cellsOf_len h.len]; exact h1) = cellOf js[i] ls[i] := by rw [List.getElem?_eq_getElem (by rw [cellsOf_len h.len]; exact h1)] at e1; exact Option.some.inj e1
 rw [e2, List.getElem_map]
 obtain ⟨a, c⟩ := hn _ (List.getElem_mem h2)
 cases hj : js[i] with
 | none =>
  have := h.nil i _ (by rw [List.getElem?_eq_getElem h1, hj]) (List.getElem?_eq_getElem h2)
  rw [this]
  exact .nil
 | some j =>
  have hji : js[i]? = some (some j) := by rw [List.getElem?_eq_getElem h1, hj]
  have h3 := h.at_ i j _ hji (List.getElem?_eq_getElem h2)
  have h4 := h.ge j (List.mem_of_getElem? hji)
  have hpr : prow L j = some (t, ls[i]) := by simp only [prow, h3]
  unfold fzl cellOf
  exact .fzs (cs'' := ls[i]) (fun hm => by have := hτ j hm; omega) hpr a (Nat.zero_le _) (by simp) rfl (fun q x y => .same (noIdL_get c q x))
def numM : List PV → Nat → List (Value × PV × Nat)
 | [], _ => []
 | p :: ps, c => (.int .i64 c, p, c) :: numM ps (c + 1)
theorem numM_snoc {ps : List PV} {p : PV} : ∀ {c : Nat}, numM (ps ++ [p]) c = numM ps c ++ [(.int .i64 ((c + ps.length : Nat) : Int), p, c + ps.length)] := by
 induction ps with
 | nil => intro c; simp [numM]
 | cons a ps ih => intro c; simp only [numM, List.cons_append, ih, List.length_cons]; rw [show c + 1 + ps.length = c + (ps.length + 1) by omega]
theorem numM_find {ps : List PV} : ∀ {c i w : Nat} (h : w < ps.length), pfind .int (.int .i64 ((c + w : Nat) : Int)) (numM ps c) i = some (some (i + w, ps[w])) := by
 induction ps with
 | nil => intro c i w h; simp at h
 | cons a ps ih =>
  intro c i w h
  cases w with
  | zero => simp [numM, pfind_cons, keyEq]
  | succ w =>
   have := ih (c := c + 1) (i := i + 1) (w := w) (by simpa using h)
   have hne : ((c + (w + 1) : Nat) : Int) ≠ (c : Int) := by omega
   simp only [numM, pfind_cons, keyEq]
   rw [show c + 1 + w = c + (w + 1) by omega] at this
   have hb : (((c + (w + 1) : Nat) : Int) == (c : Int)) = false := by simpa using hne
   simp only [hb, if_true, this, List.getElem_cons_succ]
   rw [show i + 1 + w = i + (w + 1) by omega]
theorem numM_none {ps : List PV} : ∀ {c i : Nat} {w : Int}, (w < c ∨ (c + ps.length : Nat) ≤ w) → pfind .int (.int .i64 w) (numM ps c) i = some none := by
 induction ps with
 | nil => intro c i w _; simp [numM, pfind_nil]
 | cons a ps ih =>
  intro c i w h
  have := ih (c := c + 1) (i := i + 1) (w := w) (by simp at h; omega)
  have hne : w ≠ (c : Int) := by simp at h; omega
  have hb : (w == (c : Int)) = false := by simpa using hne
  simp only [numM, pfind_cons, keyEq, hb, if_true, this]
theorem numM_modify {ps : List PV} {p : PV} {k : Value} : ∀ {c w : Nat}, w < ps.length → k = .int .i64 ((c + w : Nat) : Int) → (numM ps c).modify w (fun e => (k, p, e.2.2)) = numM (ps.set w p) c := by
 induction ps with
 | nil => intro c w h; simp at h
 | cons a ps ih =>
  intro c w h hk
  cases w with
  | zero => subst hk; simp [numM]
  | succ w => simp only [numM, List.modify_succ_cons, List.set_cons_succ]; rw [ih (by simpa using h) (by rw [hk]; congr 2; omega)]
theorem numM_view {τ : List Nat} {L : List LObj} : ∀ {ps ps' : List PV} {c : Nat}, VwL τ L ps ps' → F2 (fun a b => a.1 = b.1 ∧ a.2.2 = b.2.2 ∧ Vw τ L a.2.1 b.2.1) (numM ps c) (numM ps' c)
 | [], _, _, h => by cases h; exact .nil
 | a :: ps, _, c, h => by
  cases h with
  | cons h1 h2 => exact .cons ⟨rfl, rfl, h1⟩ (numM_view (c := c + 1) h2)
theorem numM_vals {ps : List PV} : ∀ {c : Nat}, (numM ps c).map (·.2.1) = ps := by
 induction ps with
 | nil => intro c; rfl
 | cons a ps ih => intro c; simp [numM, ih]
theorem PP.roc {F : FuncId → Option IFunc} {X0 X : Ext} {L : List LObj} {fv fv' v : PV} {args args' : List PV} {K : PV → List LObj → Prop} (h : PP F X0 X fv' args' v) (hfv : Vw [] L fv fv') (hargs : VwL [] L args args') (ha : noIdL args' = true) (hf : noId fv' = true) (hv : noId v = true) (hz : zf v = true) (q : Bool) (hk : K v L) : PF F X0 X q fv args L K := by
 refine (PF.ro (K := fun v' L' => v' = v ∧ L' = []) hfv hargs hf ha (h true []) (fun v0 L0 h => by rw [h.1, h.2]; exact ⟨hz, fun o ho => by simp at ho⟩) q).mono ?_
 rintro v' L' ⟨v0, L0, ⟨rfl, rfl⟩, rfl, rfl⟩
 rw [ren_noId _ _ hv]
 simpa using hk
theorem of_ok {b : FBody} {d : Int} (h0 : 0 ≤ b.regs) (h1 : b.regs ≤ 5000) (h2 : -1000000 ≤ d) (h3 : d ≤ 1000000) : PPd (.fn 55 [] [.fp (encBo b)]) [pin d] (pin (d + b.regs)) := by
 refine PP_code rfl rfl rfl (by simp [noId, noIdL]) (by simp [noId]) (by simp) (PW_ok _ ?_)
 have hd : (encBo b).drop 1 = [pin b.regs, pin b.args, recs 62 encI b.code] := rfl
 have hw : IntKind.wrap .i64 (d + b.regs) = d + b.regs := wrap64 (by omega) (by omega)
 have hl : (1 : Nat) ≤ (encBo b).length := by show 1 ≤ 4; omega
 simp [ir55, hd, hw]
 exact .same rfl
theorem of_w {b : FBody} {d : Int} {i : Nat} {t : TypeId} {L : List LObj} {K : PV → List LObj → Prop} (q : Bool) (hL : L[i]? = some (.row t (encBo b))) (h0 : 0 ≤ b.regs) (h1 : b.regs ≤ 5000) (h2 : -1000000 ≤ d) (h3 : d ≤ 1000000) (hk : K (pin (d + b.regs)) L) : PF FD XA XN q (.fn 55 [] [.ptr i 0]) [pin d] L K := by
 have hpr : prow L i = some (t, encBo b) := by simp only [prow, hL]
 refine PP.roc (fv := .fn 55 [] [.ptr i 0]) (of_ok (b := b) (d := d) h0 h1 h2 h3) (.fn rfl (fun i h => by simp at h) rfl (fun i h h' => ?_)) (.cons (.same rfl) .nil) rfl (by simp [noId, noIdL]) rfl rfl q hk
 match i, h, h' with
 | 0, _, _ => exact .fzp (cs'' := encBo b) (by simp) hpr (by simp) (by simp) rfl rfl (fun j a b => .same (noIdL_get (by simp) j a))
def writesAt (b : FBody) (j : Nat) : Int := match b.code[j]? with | some x => writesS x | none => -1
def wrL (b : FBody) (R i w : Nat) : List Nat := (R - 1 - w) :: ((List.range i).filter fun j => decide (writesAt b j = (w : Int))).map (· + R)
theorem wrL_len {b : FBody} {R i w : Nat} : (wrL b R i w).length ≤ i + 1 := by
 unfold wrL
 simp only [List.length_cons, List.length_map]
 have := List.length_filter_le (fun j => decide (writesAt b j = (w : Int))) (List.range i)
 simp at this; omega
theorem wrL_lt {b : FBody} {R i w x : Nat} (hw : w < R) (hx : x ∈ wrL b R i w) : x < R + i := by
 unfold wrL at hx
 simp only [List.mem_cons, List.mem_map, List.mem_filter, List.mem_range] at hx
 rcases hx with rfl | ⟨j, ⟨h1, _⟩, rfl⟩ <;> omega
theorem foldDrop_len : ∀ (l : List Nat) (s : List W64), (l.foldl dropW s).length = s.length := by
 intro l
 induction l with
 | nil => intro s; rfl
 | cons a l ih => intro s; rw [List.foldl_cons, ih, dropW_len]
theorem foldDrop_mem : ∀ (l : List Nat) (s : List W64) (x : Nat), (∀ r ∈ l, r / 64 < s.length) → hasW (l.foldl dropW s) x = (hasW s x && !decide (x ∈ l)) := by
 intro l
 induction l with
 | nil => intro s x _; simp
 | cons a l ih =>
  intro s x h
  have h1 := h a (by simp)
  rw [List.foldl_cons, ih _ _ (fun r hr => by rw [dropW_len]; exact h r (List.mem_cons_of_mem _ hr)), hasW_drop h1]
  simp only [List.mem_cons, Bool.decide_or, Bool.not_or, Bool.and_assoc]
def thrW (b : FBody) (R m : Nat) (s : List W64) : List W64 := if 0 ≤ writesAt b m then putW ((wrL b R b.code.length (writesAt b m).toNat).foldl dropW s) (m + R) else s
theorem fzl_ints {l : List Nat} : fzl 3 ((natI l).map pin) = ints 3 (natI l) := by simp [fzl, ints]
def wrLs (b : FBody) (R : Nat) : List PV := (List.range R).map fun w => ints 3 (natI (wrL b R b.code.length w))
@[simp] theorem wrLs_len {b : FBody} {R : Nat} : (wrLs b R).length = R := by simp [wrLs]
def DpJ (l : List Nat) (s0 : List W64) (o : LObj) (b : FBody) (m2 : Nat) (m : Nat) (E : PEnv) (L : List LObj) : Prop := ∃ k : Nat, k + m = l.length ∧ L = [o, .row 90 (((l.take k).foldl dropW s0).map pw)] ∧
 Has E [(0, pin m2), (4, .fp [.fn 55 [] [.fp (encBo b)]]), (7, .slc 1 0 s0.length s0.length), (30, ints 3 (natI l)), (31, pin l.length), (32, pin k)]
set_option maxRecDepth 8000 in
set_option maxHeartbeats 4000000 in
theorem thr1 {b : FBody} {R c0 : Nat} {st : List (List W64)} {m w : Nat} (hR : b.regs = R) (hR5 : R ≤ 5000) (hn : b.code.length ≤ 20000) (hm : m < b.code.length) (hst : st.length = b.code.length) (hw : ∀ s ∈ st, s.length = w) (hw0 : (R + b.code.length) / 64 < w) (hw1 : w ≤ 10000) (hli : b.code[m].list.length ≤ 1000000)
  (hwr : writesS b.code[m] < R) :
  PF FD XA XN false (.fn 57 [] [.fp [.fz 85 st.length (st.map wset)], .fp (encBo b), .fp [.mapr 0], .fp [.fn 55 [] [.fp (encBo b)]]]) [pin m] [.rmap (numM (wrLs b R) 0) c0] (fun v L => v = .slc 1 0 w w ∧ L = [.rmap (numM (wrLs b R) 0) c0, .row 90 ((thrW b R m (st[m]'(by omega))).map pw)]) := by
 refine PF_code0 rfl rfl rfl ?_
 have hres : ir57.results = [.tmp 6] := rfl
 have hms : m < st.length := by omega
 have hcut1 := cut1 (f := wset) hms
 have hwm : st[m].length = w := hw _ (List.getElem_mem hms)
 have hcutI := cutI hm
 have hcl : cut (encI b.code[m]) 0 7 = encI b.code[m] := cut_all rfl
 have hE3 : (encBo b).drop 3 = [recs 62 encI b.code] := rfl
 have hlen3 : (3 : Nat) ≤ (encBo b).length := by show 3 ≤ 4; omega
 have hms' : (m : Int) < st.length := by omega
 have hm' : (m : Int) < b.code.length := by omega
 have huse := uses_ok (i := b.code[m]) hli
 have hwa : writesAt b m = writesS b.code[m] := by simp [writesAt, hm]
 have hthr : thrW b R m st[m] = if 0 ≤ writesS b.code[m] then putW ((wrL b R b.code.length (writesS b.code[m]).toNat).foldl dropW st[m]) (m + R) else st[m] := by unfold thrW; rw [hwa]
 rw [hthr]
 generalize st[m] = s at *
 generalize b.code[m] = x at *
 generalize hO : LObj.rmap (numM (wrLs b R) 0) c0 = o
 refine PC_seq (PW_ok _ ?_)
 simp
 refine PC_seq (PW_ok _ ?_)
 simp [hms, hms', hcut1]
 unfold PFk
 refine clone_w (by omega) (by omega) false ?_
 simp
 refine PC_seq (PC_seq (PW_ok _ ?_))
 simp [hE3, recs, hm, hm', hcutI, hcl]
 refine huse.runk ?_
 simp [usesV]
 rw [hwm]
 by_cases hw9 : 0 ≤ writesS x
 case neg =>
  rw [if_neg hw9]
  refine PC_seq (PW_ok _ ?_)
  simp [hw9]
  refine PW_ok _ ?_
  simp
  refine PW_ok _ ?_
  simp [hres]
 rw [if_pos hw9]
 obtain ⟨nw, hnw⟩ : ∃ n : Nat, writesS x = n := ⟨(writesS x).toNat, by omega⟩
 rw [hnw] at hwr ⊢
 rw [Int.toNat_natCast]
 have hnR : nw < R := by omega
 have hfind := numM_find (ps := wrLs b R) (c := 0) (i := 0) (w := nw) (by simpa using hnR)
 simp only [Nat.zero_add] at hfind
 have hget : (wrLs b R)[nw]'(by simpa using hnR) = ints 3 (natI (wrL b R b.code.length nw)) := by simp [wrLs]
 rw [hget] at hfind
 have hllen := wrL_len (b := b) (R := R) (i := b.code.length) (w := nw)
 have hllt : ∀ x ∈ wrL b R b.code.length nw, x < R + b.code.length := fun x hx => wrL_lt hnR hx
 generalize wrL b R b.code.length nw = l at *
 have hnl : (natI l).length = l.length := by simp [natI]
 refine PC_seq (PW_ok _ ?_)
 simp
 refine PW_ok _ ?_
 subst hO
 have hko : keyOk .int (.int .i64 (nw : Int)) = true := rfl
 simp [hfind, hko, ints, hnl]
 have hbl : big l.length := by unfold big; omega
 generalize hO : LObj.rmap (numM (wrLs b R) 0) c0 = o
 refine PC_loop0 (DpJ l s o b m) ?_ (k := l.length) ⟨0, by simp, by simp, by simp [ints, hnl, hwm]⟩
 rintro m3 E L ⟨k, hkm, rfl, ⟨e0, e4, e7, e30, e31, e32, -⟩⟩
 by_cases hk : k < l.length
 case neg =>
  have hke : k = l.length := by omega
  subst hke
  rw [List.take_length]
  have hl0 := foldDrop_len l s
  simp [e0, e4, e7, e30, e31, e32]
  refine (of_ok (b := b) (d := m) (by omega) (by omega) (by omega) (by omega)).runk ?_
  have hcast : (m : Int) + b.regs = ((m + R : Nat) : Int) := by omega
  rw [hcast]
  generalize l.foldl dropW s = s1 at *
  simp [e7]
  unfold PFk
  rw [← hl0]
  have hq : (m + R) / 64 < s1.length := by
   have : (m + R) / 64 ≤ (R + b.code.length) / 64 := Nat.div_le_div_right (by omega)
   omega
  have hcast2 : ((m : Int) + R) = ((m + R : Nat) : Int) := by omega
  rw [hcast2]
  refine put_w (t := 90) (i := 1) (ws := s1) rfl (by omega) hq ?_
  simp [e7, hl0, hwm]
  refine PW_ok _ ?_
  simp [e7, hres, hwm]
 have hc : cut ((natI l).map pin) k 1 = [pin (l[k] : Nat)] := by rw [cut1 (by rw [hnl]; exact hk)]; simp [natI]
 have hf : (l.take (k + 1)).foldl dropW s = dropW ((l.take k).foldl dropW s) l[k] := by rw [List.take_succ_eq_append_getElem hk, List.foldl_append]; rfl
 have hr1 := hllt _ (List.getElem_mem hk)
 have hwi := wrap_inc hk hbl
 simp [e0, e4, e7, e30, e31, e32, hk, ints, hnl, hc]
 unfold PFk
 have hl0 := foldDrop_len (l.take k) s
 generalize (l.take k).foldl dropW s = s1 at *
 generalize l[k] = r at *
 rw [← hl0]
 have hq : r / 64 < s1.length := by
  have : r / 64 ≤ (R + b.code.length) / 64 := Nat.div_le_div_right (by omega)
  omega
 refine drop_w (t := 90) (i := 1) (ws := s1) rfl (by omega) hq ?_
 simp [e0, e4, e7, e30, e31, e32, hwi, hl0]
 exact ⟨m3 - 1, by omega, k + 1, by omega, by rw [hf], by simp [e0, e4, e7, e30, e31]⟩
def dropSeq : Nat → ICode → ICode
 | 0, c => c
 | k + 1, .seq _ b => dropSeq k b
 | _, c => c
def headSeq : ICode → ICode
 | .seq a _ => a
 | c => c
def defsTo (b : FBody) (R i r : Nat) : List (List PV) := (List.range r).map fun w => (natI (wrL b R i w)).map pin
structure Wm (b : FBody) (R i r : Nat) (L : List LObj) (js : List (Option Nat)) : Prop where
 h0 : L[0]? = some (.row 65 (encBo b))
 h1 : L[1]? = some (.row 97 [.fn 55 [] [.ptr 0 0]])
 h2 : L[2]? = some (.row 98 [.mapr 3])
 h3 : L[3]? = some (.map (numM (cellsOf js (defsTo b R i r)) 0) r)
 hl : HL L 4 3 js (defsTo b R i r)
theorem defsTo_len {b : FBody} {R i r : Nat} : (defsTo b R i r).length = r := by simp [defsTo]
theorem Wm.jlen {b : FBody} {R i r : Nat} {L : List LObj} {js : List (Option Nat)} (h : Wm b R i r L js) : js.length = r := by rw [h.hl.len, defsTo_len]
def WmJ1 (b : FBody) (R : Nat) (m : Nat) (E : PEnv) (L : List LObj) : Prop := ∃ (r : Nat) (js : List (Option Nat)), r + m = R ∧ Wm b R 0 r L js ∧ Has E [(6, .ptr 0 0), (8, .ptr 1 0), (9, .ptr 2 0), (38, pin R), (39, pin r)]
theorem wrL_zero {b : FBody} {R w : Nat} : wrL b R 0 w = [R - 1 - w] := by simp [wrL]
set_option maxRecDepth 8000 in
set_option maxHeartbeats 4000000 in
theorem defs_a {b : FBody} {R : Nat} {E : PEnv} (hR : b.regs = R) (hR5 : R ≤ 5000) (he : Has E [(6, .ptr 0 0), (8, .ptr 1 0), (9, .ptr 2 0)]) :
  PC FD XA XN 0 (headSeq (dropSeq 5 ir26.body)) (fun x E' L' => x = .norm ∧ Has E' [(6, .ptr 0 0), (8, .ptr 1 0), (9, .ptr 2 0)] ∧ ∃ js, Wm b R 0 R L' js) E [.row 65 (encBo b), .row 97 [.fn 55 [] [.ptr 0 0]], .row 98 [.mapr 3], .map [] 0] := by
 obtain ⟨e6, e8, e9, -⟩ := he
 have hb1 : (encBo b)[1]? = some (pin b.regs) := rfl
 refine PW_ok _ ?_
 simp [headSeq, dropSeq, ir26, e6, e8, e9, hb1, hR]
 have hbig : big R := by unfold big; omega
 refine PC_loopG (WmJ1 b R) ?_ (k := R) ⟨0, [], by simp, ⟨rfl, rfl, rfl, rfl, ⟨rfl, by simp, by simp, by simp, by simp⟩⟩, by simp [e6, e8, e9]⟩
 clear e6 e8 e9
 rintro m E L ⟨r, js, hrm, hw, ⟨e6, e8, e9, e38, e39, -⟩⟩
 obtain ⟨h0, h1, h2, h3, hl⟩ := hw
 have hjl : js.length = r := by rw [hl.len, defsTo_len]
 by_cases hr : r < R
 case neg =>
  have : r = R := by omega
  subst this
  simp [e6, e8, e9, e38, e39]
  exact ⟨js, h0, h1, h2, h3, hl⟩
 have hL3 : 3 < L.length := (List.getElem?_eq_some_iff.1 h3).1
 have hcl : (cellsOf js (defsTo b R 0 r)).length = r := by rw [cellsOf_len hl.len, hjl]
 have hnone := numM_none (ps := cellsOf js (defsTo b R 0 r)) (c := 0) (i := 0) (w := (r : Int)) (.inr (by rw [hcl]; omega))
 have hko : keyOk .int (.int .i64 (r : Int)) = true := rfl
 have hw1 : IntKind.wrap .i64 (-1 - (r : Int)) = -1 - (r : Int) := wrap64 (by omega) (by omega)
 have ha : ∀ (X : List LObj) (j : Nat), j < 4 → (L ++ X)[j]? = L[j]? := fun X j hj => List.getElem?_append_left (by omega)
 have hwr := wrap_inc hr hbig
 have hsn := numM_snoc (ps := cellsOf js (defsTo b R 0 r)) (p := .slc (L.length + 1) 0 1 1) (c := 0)
 rw [hcl] at hsn
 simp only [Nat.zero_add] at hsn
 have hr' : (r : Int) < R := by omega
 have rr : roomy 1 8 := by decide
 generalize hes : numM (cellsOf js (defsTo b R 0 r)) 0 = es at *
 simp [e6, e8, e9, e38, e39, hr', h0, h1, h2, h3, hnone, hko, hw1]
 unfold PGk
 refine of_w (b := b) (d := -1 - (r : Int)) true h0 (by omega) (by omega) (by omega) (by omega) ?_
 have hval : (-1 - (r : Int)) + b.regs = ((R - 1 - r : Nat) : Int) := by omega
 rw [hval]
 generalize hx : R - 1 - r = x at *
 simp [e6, e8, e9, e38, e39, rr, ha, h3, hnone, hko, hwr]
 have hds : defsTo b R 0 (r + 1) = defsTo b R 0 r ++ [[pin x]] := by
  unfold defsTo
  rw [List.range_succ, List.map_append]
  simp [wrL_zero, hx, natI]
 have hcs : cellsOf (js ++ [some (L.length + 1)]) (defsTo b R 0 (r + 1)) = cellsOf js (defsTo b R 0 r) ++ [.slc (L.length + 1) 0 1 1] := by
  unfold cellsOf
  rw [hds, List.zipWith_append (by exact hl.len)]
  rfl
 have hlow : ∀ (o : LObj) (X : List LObj) (j : Nat), j < 4 → j ≠ 3 → ((L ++ X).set 3 o)[j]? = L[j]? := fun o X j hj hj3 => by rw [List.getElem?_set_ne (by omega), ha X j hj]
 have hhi : ∀ (o : LObj) (X : List LObj) (j : Nat), 4 ≤ j → ((L ++ X).set 3 o)[j]? = (L ++ X)[j]? := fun o X j hj => by rw [List.getElem?_set_ne (by omega)]
 refine GoOn.same (m - 1) (by omega) ⟨r + 1, js ++ [some (L.length + 1)], by omega, ⟨?_, ?_, ?_, ?_, ?_⟩, by simp [e6, e8, e9, e38]⟩
 ·rw [hlow _ _ 0 (by omega) (by omega)]; exact h0
 ·rw [hlow _ _ 1 (by omega) (by omega)]; exact h1
 ·rw [hlow _ _ 2 (by omega) (by omega)]; exact h2
 ·rw [List.getElem?_set_self (by simp; omega), hcs, hsn]
 ·rw [hds]
  refine hl.push ?_ (by omega) (by omega) (fun j h4 h5 => ?_)
  ·rw [hhi _ _ _ (by omega), List.getElem?_append_right (by omega)]
   simp
  ·rw [hhi _ _ _ h4, List.getElem?_append_left h5]
def WmJ2 (b : FBody) (R : Nat) (m : Nat) (E : PEnv) (L : List LObj) : Prop := ∃ (i : Nat) (js : List (Option Nat)), i + m = b.code.length ∧ Wm b R i R L js ∧ Has E [(6, .ptr 0 0), (8, .ptr 1 0), (9, .ptr 2 0), (55, recs 62 encI b.code), (56, pin b.code.length), (57, pin i)]
theorem wrL_next {b : FBody} {R i w : Nat} : wrL b R (i + 1) w = if writesAt b i = (w : Int) then wrL b R i w ++ [i + R] else wrL b R i w := by
 unfold wrL
 rw [List.range_succ, List.filter_append, List.map_append]
 by_cases h : writesAt b i = (w : Int)
 ·simp [h]
 ·simp [h]
theorem defsTo_get {b : FBody} {R i r w : Nat} (h : w < r) : (defsTo b R i r)[w]? = some ((natI (wrL b R i w)).map pin) := by simp [defsTo, h]
theorem defsTo_same {b : FBody} {R i r : Nat} (h : writesAt b i < 0) : defsTo b R (i + 1) r = defsTo b R i r := by
 unfold defsTo
 refine List.map_congr_left fun w _ => ?_
 rw [wrL_next, if_neg (by omega)]
theorem defsTo_upd {b : FBody} {R i r nw : Nat} (h : writesAt b i = (nw : Int)) : defsTo b R (i + 1) r = (defsTo b R i r).set nw ((natI (wrL b R i nw)).map pin ++ [pin ((i + R : Nat) : Int)]) := by
 refine List.ext_getElem? fun w => ?_
 rw [List.getElem?_set, defsTo_len]
 by_cases hw : w < r
 ·rw [defsTo_get hw]
  by_cases e : nw = w
  ·subst e
   rw [if_pos rfl, if_pos hw, wrL_next, if_pos h]
   simp [natI]
  ·rw [if_neg e, defsTo_get hw, wrL_next, if_neg (by omega)]
 ·rw [List.getElem?_eq_none (by rw [defsTo_len]; omega)]
  split
  ·split
   ·omega
   ·rfl
  ·rw [List.getElem?_eq_none (by rw [defsTo_len]; omega)]
set_option maxRecDepth 8000 in
set_option maxHeartbeats 4000000 in
theorem defs_b {b : FBody} {R : Nat} {E : PEnv} {L : List LObj} {js : List (Option Nat)} (hR : b.regs = R) (hR5 : R ≤ 5000) (hn : b.code.length ≤ 20000) (hil : ∀ i ∈ b.code, i.list.length ≤ 1000000) (hwr : ∀ m (h : m < b.code.length), writesS b.code[m] < R)
  (hw : Wm b R 0 R L js) (he : Has E [(6, .ptr 0 0), (8, .ptr 1 0), (9, .ptr 2 0)]) :
  PC FD XA XN 0 (headSeq (dropSeq 6 ir26.body)) (fun x E' L' => x = .norm ∧ Has E' [(6, .ptr 0 0), (8, .ptr 1 0), (9, .ptr 2 0)] ∧ ∃ js, Wm b R b.code.length R L' js) E L := by
 obtain ⟨e6, e8, e9, -⟩ := he
 have hb3 : (encBo b)[3]? = some (recs 62 encI b.code) := rfl
 refine PW_ok _ ?_
 have h00 := hw.h0
 simp [headSeq, dropSeq, ir26, e6, e8, e9, hb3, h00, recs]
 have hbig : big b.code.length := by unfold big; omega
 refine PC_loopG (WmJ2 b R) ?_ (k := b.code.length) ⟨0, js, by simp, hw, by simp [e6, e8, e9, recs]⟩
 clear e6 e8 e9 hw h00 js L
 rintro m E L ⟨i, js, him, hw, ⟨e6, e8, e9, e55, e56, e57, -⟩⟩
 have hjl := hw.jlen
 obtain ⟨h0, h1, h2, h3, hl⟩ := hw
 by_cases hi : i < b.code.length
 case neg =>
  have : i = b.code.length := by omega
  subst this
  simp [e6, e8, e9, e55, e56, e57]
  exact ⟨js, h0, h1, h2, h3, hl⟩
 have hL3 : 3 < L.length := (List.getElem?_eq_some_iff.1 h3).1
 have hcl : (cellsOf js (defsTo b R i R)).length = R := by rw [cellsOf_len hl.len, hjl]
 have ha : ∀ (X : List LObj) (j : Nat), j < 4 → (L ++ X)[j]? = L[j]? := fun X j hj => List.getElem?_append_left (by omega)
 have hwi := wrap_inc hi hbig
 have hi' : (i : Int) < b.code.length := by omega
 have hcutI := cutI hi
 have hcl7 : cut (encI b.code[i]) 0 7 = encI b.code[i] := cut_all rfl
 have hps : psplice [PV.v (I 0), PV.v (I 0), PV.v (I 0), PV.v (I 0), PV.v (I 0), PV.v (S []), PV.v (.slice none 0 0)] 0 (encI b.code[i]) = encI b.code[i] := psplice_full rfl
 have hl7 : (encI b.code[i]).length = 7 := rfl
 have huse := uses_ok (i := b.code[i]) (hil _ (List.getElem_mem hi))
 have hwa : writesAt b i = writesS b.code[i] := by simp [writesAt, hi]
 have hwri := hwr i hi
 generalize b.code[i] = x at *
 have h1' : ∀ X : List LObj, (L ++ X)[1]? = some (.row 97 [.fn 55 [] [.ptr 0 0]]) := fun X => by rw [ha X 1 (by omega)]; exact h1
 have h2' : ∀ X : List LObj, (L ++ X)[2]? = some (.row 98 [.mapr 3]) := fun X => by rw [ha X 2 (by omega)]; exact h2
 have h3' : ∀ X : List LObj, (L ++ X)[3]? = some (.map (numM (cellsOf js (defsTo b R i R)) 0) R) := fun X => by rw [ha X 3 (by omega)]; exact h3
 by_cases hw9 : 0 ≤ writesS x
 case neg =>
  have hds := defsTo_same (b := b) (R := R) (i := i) (r := R) (by omega)
  simp [e6, e8, e9, e55, e56, e57, hi, hi', recs, hcutI, hcl7, hps, hl7]
  refine huse.runk ?_
  simp [usesV, e6, e8, e9, e55, e56, e57, hw9, hwi]
  refine GoOn.same (m - 1) (by omega) ⟨i + 1, js, by omega, ⟨?_, ?_, ?_, ?_, ?_⟩, by simp [e6, e8, e9, e55, e56]⟩
  ·rw [ha _ 0 (by omega)]; exact h0
  ·rw [ha _ 1 (by omega)]; exact h1
  ·rw [ha _ 2 (by omega)]; exact h2
  ·rw [ha _ 3 (by omega), hds]; exact h3
  ·rw [hds]
   exact hl.mono fun j o _ h => by rw [List.getElem?_append_left (List.getElem?_eq_some_iff.1 h).1]; exact h
 obtain ⟨nw, hnw⟩ : ∃ n : Nat, writesS x = n := ⟨(writesS x).toNat, by omega⟩
 rw [hnw] at hwri
 have hnR : nw < R := by omega
 have hds := defsTo_upd (b := b) (R := R) (i := i) (r := R) (nw := nw) (by omega)
 have hfind := numM_find (ps := cellsOf js (defsTo b R i R)) (c := 0) (i := 0) (w := nw) (by omega)
 simp only [Nat.zero_add] at hfind
 have hgl := defsTo_get (b := b) (R := R) (i := i) hnR
 obtain ⟨jo, hjo⟩ : ∃ jo, js[nw]? = some jo := ⟨_, List.getElem?_eq_getElem (by omega)⟩
 have hwl := wrL_len (b := b) (R := R) (i := i) (w := nw)
 have hne : wrL b R i nw ≠ [] := by simp [wrL]
 generalize hlw : wrL b R i nw = lw at *
 have hll : ((natI lw).map pin).length = lw.length := by simp [natI]
 obtain ⟨j, rfl⟩ : ∃ j, jo = some j := by
  cases jo with
  | some j => exact ⟨j, rfl⟩
  | none =>
   have := hl.nil nw _ hjo hgl
   simp [natI] at this
   exact absurd this hne
 have hcg := cellsOf_get hjo hgl
 rw [List.getElem?_eq_getElem (by omega)] at hcg
 have hcell : (cellsOf js (defsTo b R i R))[nw]'(by omega) = .slc j 0 lw.length lw.length := by rw [Option.some.inj hcg, cellOf, hll]
 rw [hcell] at hfind
 have hLj := hl.at_ nw j _ hjo hgl
 have hj4 := hl.ge j (List.mem_of_getElem? hjo)
 have hjL := (List.getElem?_eq_some_iff.1 hLj).1
 have hj' : ∀ X : List LObj, (L ++ X)[j]? = some (.row 3 ((natI lw).map pin)) := fun X => by rw [List.getElem?_append_left hjL]; exact hLj
 have hko : keyOk .int (.int .i64 (nw : Int)) = true := rfl
 have rr : roomy (lw.length + 1) 8 := roomy_of (by omega) (by omega)
 have hcells : ∀ p : PV, (numM (cellsOf js (defsTo b R i R)) 0).modify nw (fun e => (.int .i64 (nw : Int), p, e.2.2)) = numM ((cellsOf js (defsTo b R i R)).set nw p) 0 := fun p => numM_modify (by omega) (by simp)
 have h3s : ∀ (X : List LObj) (o : LObj), (((L ++ X).set j o))[3]? = some (.map (numM (cellsOf js (defsTo b R i R)) 0) R) := fun X o => by rw [List.getElem?_set_ne (by omega)]; exact h3' X
 have h3t : ∀ (X Y : List LObj) (o : LObj), (((L ++ X).set j o ++ Y))[3]? = some (.map (numM (cellsOf js (defsTo b R i R)) 0) R) := fun X Y o => by rw [List.getElem?_append_left (by simp; omega)]; exact h3s X o
 generalize hes : numM (cellsOf js (defsTo b R i R)) 0 = es at *
 have hone : allOne ((natI lw).map pin) := by simp
 generalize hrow : (natI lw).map pin = rowv at *
 simp [e6, e8, e9, e55, e56, e57, hi, hi', recs, hcutI, hcl7, hps, hl7]
 refine huse.runk ?_
 simp [usesV, e6, e8, e9, e55, e56, e57, hnw, hwi, h1', h2', h3', hfind, hko]
 unfold PGk
 refine of_w (b := b) (d := i) (t := 65) true (by rw [ha _ 0 (by omega)]; exact h0) (by omega) (by omega) (by omega) (by omega) ?_
 have hval : (i : Int) + b.regs = ((i + R : Nat) : Int) := by omega
 rw [hval]
 generalize i + R = y at *
 simp [e6, e8, e9, e55, e56, e57, hj', rr, hll, hone, h3s, h3t, hfind, hko, hcells, hwi]
 have hlow : ∀ (X Y : List LObj) (o o' : LObj) (q : Nat), q ≠ 3 → q ≠ j → q < L.length → (((L ++ X).set j o ++ Y).set 3 o')[q]? = L[q]? := fun X Y o o' q h5 h6 h7 => by
  rw [List.getElem?_set_ne (by omega), List.getElem?_append_left (by simp; omega), List.getElem?_set_ne (by omega), List.getElem?_append_left h7]
 have hset := cellsOf_set (js := js) (ls := defsTo b R i R) (r := nw) (j := some (L.length + 2)) (l := rowv ++ [pin (y : Nat)])
 have hcell2 : cellOf (some (L.length + 2)) (rowv ++ [pin (y : Nat)]) = .slc (L.length + 2) 0 (lw.length + 1) (lw.length + 1) := by simp [cellOf, hll]
 rw [hcell2, ← hds] at hset
 refine GoOn.same (m - 1) (by omega) ⟨i + 1, js.set nw (some (L.length + 2)), by omega, ⟨?_, ?_, ?_, ?_, ?_⟩, by simp [e6, e8, e9, e55, e56, recs]⟩
 ·rw [hlow _ _ _ _ 0 (by omega) (by omega) (by omega)]; exact h0
 ·rw [hlow _ _ _ _ 1 (by omega) (by omega) (by omega)]; exact h1
 ·rw [hlow _ _ _ _ 2 (by omega) (by omega) (by omega)]; exact h2
 ·rw [List.getElem?_set_self (by simp; omega), hset]
 ·rw [hds]
  refine hl.upd ?_ (by omega) (by omega) (fun q h4 h5 h6 => ?_)
  ·rw [List.getElem?_set_ne (by omega), List.getElem?_append_right (by simp)]
   simp
  ·refine hlow _ _ _ _ q (by omega) ?_ h5
   rintro rfl
   exact h6 hjo
def succAt (b : FBody) (p : Nat) : List Int := (succsL b.code).getD p []
def predTo (b : FBody) (i k : Nat) : List Nat := (List.range i).flatMap fun p => ((succAt b p).filter fun v => decide (v = (k : Int))).map fun _ => p
def predJ (b : FBody) (i j k : Nat) : List Nat := predTo b i k ++ (((succAt b i).take j).filter fun v => decide (v = (k : Int))).map fun _ => i
def predLs (b : FBody) (i j : Nat) : List (List PV) := (List.range b.code.length).map fun k => (natI (predJ b i j k)).map pin
theorem predLs_len {b : FBody} {i j : Nat} : (predLs b i j).length = b.code.length := by simp [predLs]
theorem predLs_get {b : FBody} {i j k : Nat} (h : k < b.code.length) : (predLs b i j)[k]? = some ((natI (predJ b i j k)).map pin) := by simp [predLs, h]
theorem predJ_zero {b : FBody} {k : Nat} : predJ b 0 0 k = [] := by simp [predJ, predTo]
theorem predJ_row {b : FBody} {i k : Nat} : predJ b i (succAt b i).length k = predJ b (i + 1) 0 k := by
 unfold predJ predTo
 rw [List.take_length, List.range_succ, List.flatMap_append]
 simp
theorem predJ_next {b : FBody} {i j k : Nat} {x : Nat} (hj : j < (succAt b i).length) (hx : (succAt b i)[j] = (x : Int)) : predJ b i (j + 1) k = if k = x then predJ b i j k ++ [i] else predJ b i j k := by
 unfold predJ
 rw [List.take_succ_eq_append_getElem hj, List.filter_append, List.map_append, hx, ← List.append_assoc]
 by_cases h : k = x
 ·subst h; simp
 ·have : ¬ (x : Int) = (k : Int) := by omega
  simp [h, this]
theorem predLs_next {b : FBody} {i j x : Nat} (hj : j < (succAt b i).length) (hx : (succAt b i)[j] = (x : Int)) : predLs b i (j + 1) = (predLs b i j).set x ((natI (predJ b i j x)).map pin ++ [pin (i : Nat)]) := by
 refine List.ext_getElem? fun w => ?_
 rw [List.getElem?_set, predLs_len]
 by_cases hw : w < b.code.length
 ·rw [predLs_get hw]
  by_cases e : x = w
  ·subst e
   rw [if_pos rfl, if_pos hw, predJ_next hj hx, if_pos rfl]
   simp [natI]
  ·rw [if_neg e, predLs_get hw, predJ_next hj hx, if_neg (fun h => e h.symm)]
 ·rw [List.getElem?_eq_none (by rw [predLs_len]; omega)]
  split
  ·split
   ·omega
   ·rfl
  ·rw [List.getElem?_eq_none (by rw [predLs_len]; omega)]
theorem predLs_row {b : FBody} {i : Nat} : predLs b i (succAt b i).length = predLs b (i + 1) 0 := by
 unfold predLs
 exact List.map_congr_left fun k _ => by rw [predJ_row]
theorem succAt_len {b : FBody} {p : Nat} : (succAt b p).length ≤ 2 := by
 unfold succAt
 rw [List.getD_eq_getElem?_getD]
 by_cases h : p < b.code.length
 ·rw [List.getElem?_eq_getElem (by rw [succsL_len]; exact h)]
  simp only [succsL, List.getElem_mapIdx, Option.getD_some]
  unfold succI
  repeat' split
  all_goals simp
 ·rw [List.getElem?_eq_none (by rw [succsL_len]; omega)]
  simp
theorem predJ_len {b : FBody} {i j k : Nat} : (predJ b i j k).length ≤ 2 * i + 2 := by
 have h1 : ∀ i, (predTo b i k).length ≤ 2 * i := by
  intro i
  induction i with
  | zero => simp [predTo]
  | succ i ih =>
   unfold predTo at ih ⊢
   rw [List.range_succ, List.flatMap_append]
   have := List.length_filter_le (fun v => decide (v = (k : Int))) (succAt b i)
   have := succAt_len (b := b) (p := i)
   simp; simp at ih; omega
 have h2 := List.length_filter_le (fun v => decide (v = (k : Int))) ((succAt b i).take j)
 have h3 := succAt_len (b := b) (p := i)
 have := h1 i
 unfold predJ
 simp at h2 ⊢; omega
structure Ap (b : FBody) (base : List LObj) (i j : Nat) (L : List LObj) (js : List (Option Nat)) : Prop where
 low : ∀ k, k < 4 → L[k]? = base[k]?
 h4 : L[4]? = some (.row 24 (cellsOf js (predLs b i j)))
 h5 : L[5]? = some (.row 55 [.slc 4 0 b.code.length b.code.length])
 hl : HL L 6 3 js (predLs b i j)
theorem Ap.jlen {b : FBody} {base : List LObj} {i j : Nat} {L : List LObj} {js : List (Option Nat)} (h : Ap b base i j L js) : js.length = b.code.length := by rw [h.hl.len, predLs_len]
def ApJ1 (b : FBody) (base : List LObj) (m : Nat) (E : PEnv) (L : List LObj) : Prop := ∃ (i : Nat) (js : List (Option Nat)), i + m = b.code.length ∧ Ap b base i 0 L js ∧
 Has E [(6, .ptr 0 0), (8, .ptr 1 0), (9, .ptr 2 0), (15, .ptr 5 0), (86, lists2 24 (succsL b.code)), (87, pin b.code.length), (88, pin i)]
def ApJ2 (b : FBody) (base : List LObj) (i : Nat) (m : Nat) (E : PEnv) (L : List LObj) : Prop := ∃ (j : Nat) (js : List (Option Nat)), j + m = (succAt b i).length ∧ Ap b base i j L js ∧
 Has E [(6, .ptr 0 0), (8, .ptr 1 0), (9, .ptr 2 0), (15, .ptr 5 0), (16, pin i), (86, lists2 24 (succsL b.code)), (87, pin b.code.length), (88, pin i), (93, ints 3 (succAt b i)), (94, pin (succAt b i).length), (95, pin j)]
set_option maxRecDepth 8000 in
set_option maxHeartbeats 4000000 in
theorem defs_c {c : FCode} {b : FBody} {base : List LObj} {E : PEnv} (hob : OkB c b) (hb0 : base[0]? = some (.row 65 (encBo b))) (hbl : base.length = 4) (he : Has E [(6, .ptr 0 0), (8, .ptr 1 0), (9, .ptr 2 0), (15, .ptr 5 0)]) :
  PC FD XA XN 0 (headSeq (dropSeq 8 ir26.body)) (fun x E' L' => x = .norm ∧ Has E' [(6, .ptr 0 0), (8, .ptr 1 0), (9, .ptr 2 0), (15, .ptr 5 0)] ∧ ∃ js, Ap b base b.code.length 0 L' js) E
   (base ++ [.row 24 (List.replicate b.code.length (.v (.slice none 0 0))), .row 55 [.slc 4 0 b.code.length b.code.length]]) := by
 obtain ⟨e6, e8, e9, e15, -⟩ := he
 have hb3 : (encBo b)[3]? = some (recs 62 encI b.code) := rfl
 have hcl := hob.code
 have hbig : big b.code.length := by unfold big; omega
 have h00 : ∀ X : List LObj, (base ++ X)[0]? = some (.row 65 (encBo b)) := fun X => by rw [List.getElem?_append_left (by omega)]; exact hb0
 have h01 := h00 [.row 24 (List.replicate b.code.length (.v (.slice none 0 0))), .row 55 [.slc 4 0 b.code.length b.code.length]]
 generalize hL0 : base ++ [.row 24 (List.replicate b.code.length (.v (.slice none 0 0))), .row 55 [.slc 4 0 b.code.length b.code.length]] = L0 at h01 ⊢
 refine PW_ok _ ?_
 simp [headSeq, dropSeq, ir26, e6, e8, e9, e15, hb3, h01]
 refine (successors_ok (l := b.code) (by omega)).runk ?_
 simp [lists2, e6, e8, e9, e15, succsL_len]
 subst hL0
 have hnil : cellsOf (List.replicate b.code.length none) (predLs b 0 0) = List.replicate b.code.length (.v (.slice none 0 0)) := by
  refine List.ext_getElem (by rw [cellsOf_len (by rw [predLs_len]; simp)]; simp) fun k h1 h2 => ?_
  simp [cellsOf, cellOf]
 refine PC_loopG (ApJ1 b base) ?_ (k := b.code.length) ⟨0, List.replicate b.code.length none, by simp, ⟨fun k hk => List.getElem?_append_left (by omega), ?_, ?_, ⟨by simp [predLs_len], fun j hj => ?_, fun r r' j h1 _ => ?_, fun r j l h1 _ => ?_, fun r l h1 h2 => ?_⟩⟩, by simp [e6, e8, e9, e15, lists2, succsL_len]⟩
 rotate_left
 ·rw [hnil, List.getElem?_append_right (by omega), hbl]; rfl
 ·rw [List.getElem?_append_right (by omega), hbl]; rfl
 ·cases List.eq_of_mem_replicate hj
 ·cases List.eq_of_mem_replicate (List.mem_of_getElem? h1)
 ·cases List.eq_of_mem_replicate (List.mem_of_getElem? h1)
 ·have hr := (List.getElem?_eq_some_iff.1 h2).1
  rw [predLs_len] at hr
  rw [predLs_get hr, predJ_zero] at h2
  cases h2; rfl
 clear e6 e8 e9 e15
 rintro m E L ⟨i, js, him, ha, ⟨e6, e8, e9, e15, e86, e87, e88, -⟩⟩
 by_cases hi : i < b.code.length
 case neg =>
  have : i = b.code.length := by omega
  subst this
  simp [e6, e8, e9, e15, e86, e87, e88]
  exact ⟨js, ha⟩
 have hwi := wrap_inc hi hbig
 have hi' : (i : Int) < b.code.length := by omega
 have hsl : i < (succsL b.code).length := by rw [succsL_len]; exact hi
 have hcut := cutL (t := 3) hsl
 have hsa : succAt b i = (succsL b.code)[i] := by simp [succAt, List.getD_eq_getElem?_getD, hsl]
 have hse : succAt b i = succI b.code[i] i := by rw [hsa]; simp [succsL]
 have hok := succ_ok hob hi
 rw [← hse] at hok
 rw [← hsa] at hcut
 simp [e6, e8, e9, e15, e86, e87, e88, hi', hi, lists2, succsL_len, hcut, ints]
 refine PC_loopG (ApJ2 b base i) ?_ (k := (succAt b i).length) ⟨0, js, by simp, ha, by simp [e6, e8, e9, e15, e86, e87, e88, lists2, succsL_len, ints]⟩
 clear e6 e8 e9 e15 e86 e87 e88 ha js
 rintro m2 E L ⟨j, js, hjm, ha, ⟨e6, e8, e9, e15, e16, e86, e87, e88, e93, e94, e95, -⟩⟩
 have hjl := ha.jlen
 obtain ⟨low, h4, h5, hl⟩ := ha
 by_cases hj : j < (succAt b i).length
 case neg =>
  have : j = (succAt b i).length := by omega
  subst this
  rw [predLs_row] at h4 hl
  simp [e6, e8, e9, e15, e16, e86, e87, e88, e93, e94, e95, hwi]
  exact GoOn.same (m - 1) (by omega) ⟨i + 1, js, by omega, ⟨low, h4, h5, hl⟩, by simp [e6, e8, e9, e15, e86, e87]⟩
 have hcj := cut1 (f := pin) hj
 obtain ⟨x0, x1⟩ := hok _ (List.getElem_mem hj)
 obtain ⟨x, hx⟩ : ∃ x : Nat, (succAt b i)[j] = x := ⟨(succAt b i)[j].toNat, by omega⟩
 rw [hx] at hcj x1
 have hxn : x < b.code.length := by omega
 have hnext := predLs_next hj hx
 have hwj := wrap_inc hj (show big (succAt b i).length by have := succAt_len (b := b) (p := i); unfold big; omega)
 have hgl := predLs_get (b := b) (i := i) (j := j) hxn
 have hpl := predJ_len (b := b) (i := i) (j := j) (k := x)
 obtain ⟨jo, hjo⟩ : ∃ jo, js[x]? = some jo := ⟨_, List.getElem?_eq_getElem (by omega)⟩
 have hcg := cellsOf_get hjo hgl
 have hclen : (cellsOf js (predLs b i j)).length = b.code.length := by rw [cellsOf_len hl.len, hjl]
 generalize hlw : predJ b i j x = lw at *
 have hll : ((natI lw).map pin).length = lw.length := by simp [natI]
 have hL5 := (List.getElem?_eq_some_iff.1 h5).1
 have rr : roomy (lw.length + 1) 8 := roomy_of (by omega) (by omega)
 have a4 : ∀ X : List LObj, (L ++ X)[4]? = some (.row 24 (cellsOf js (predLs b i j))) := fun X => by rw [List.getElem?_append_left (by omega)]; exact h4
 have hset := fun k l => cellsOf_set (js := js) (ls := predLs b i j) (r := x) (j := some k) (l := l)
 have hone : allOne ((natI lw).map pin) := by simp
 have hnl : nl (cellOf jo ((natI lw).map pin)) = true := by cases jo <;> rfl
 generalize hcc : cellsOf js (predLs b i j) = cc at *
 cases jo with
 | none =>
  have hem := hl.nil x _ hjo hgl
  have hl0 : lw = [] := by simpa [natI] using hem
  subst hl0
  simp only [cellOf] at hcg
  have rr1 : roomy 1 8 := by decide
  have hcg' : ∀ h : x < cc.length, cc[x] = .v (.slice none 0 0) := fun h => by rw [List.getElem?_eq_getElem h] at hcg; exact Option.some.inj hcg
  simp [e6, e8, e9, e15, e16, e86, e87, e88, e93, e94, e95, hj, ints, hcj, h5, h4, a4, hcg, hcg', hxn, x1, hclen, rr1, hwj]
  have hs2 := hset (L.length + 1) [pin (i : Nat)]
  have hs3 : cellOf (some (L.length + 1)) [pin (i : Nat)] = .slc (L.length + 1) 0 1 1 := rfl
  have hls : (predLs b i j).set x [pin (i : Nat)] = predLs b i (j + 1) := by rw [hnext]; simp [natI]
  rw [hs3, hls] at hs2
  refine GoOn.same (m2 - 1) (by omega) ⟨j + 1, js.set x (some (L.length + 1)), by omega, ⟨fun k hk => ?_, ?_, ?_, ?_⟩, by simp [e6, e8, e9, e15, e16, e86, e87, e88, e93, e94, lists2, succsL_len, ints]⟩
  ·rw [List.getElem?_set_ne (by omega), List.getElem?_append_left (by omega)]; exact low k hk
  ·rw [List.getElem?_set_self (by simp; omega), hs2]
  ·rw [List.getElem?_set_ne (by omega), List.getElem?_append_left (by omega)]; exact h5
  ·rw [← hls]
   refine hl.upd ?_ (by omega) (by omega) (fun q h6 h7 h8 => ?_)
   ·rw [List.getElem?_set_ne (by omega), List.getElem?_append_right (by omega)]
    simp
   ·rw [List.getElem?_set_ne (by omega), List.getElem?_append_left h7]
 | some k =>
  have hcell : cellOf (some k) ((natI lw).map pin) = .slc k 0 lw.length lw.length := by simp [cellOf, hll]
  rw [hcell] at hcg
  have hcg' : ∀ h : x < cc.length, cc[x] = .slc k 0 lw.length lw.length := fun h => by rw [List.getElem?_eq_getElem h] at hcg; exact Option.some.inj hcg
  have hLk := hl.at_ x k _ hjo hgl
  have hk6 := hl.ge k (List.mem_of_getElem? hjo)
  have hkL := (List.getElem?_eq_some_iff.1 hLk).1
  have hk' : ∀ X : List LObj, (L ++ X)[k]? = some (.row 3 ((natI lw).map pin)) := fun X => by rw [List.getElem?_append_left hkL]; exact hLk
  have a4s : ∀ (X Y : List LObj) (o : LObj), ((L ++ X).set k o ++ Y)[4]? = some (.row 24 cc) := fun X Y o => by rw [List.getElem?_append_left (by simp; omega), List.getElem?_set_ne (by omega)]; exact a4 X
  have hs2 := hset (L.length + 1) ((natI lw).map pin ++ [pin (i : Nat)])
  rw [← hnext] at hs2
  have hs3 : cellOf (some (L.length + 1)) ((natI lw).map pin ++ [pin (i : Nat)]) = .slc (L.length + 1) 0 (lw.length + 1) (lw.length + 1) := by simp [cellOf, hll]
  rw [hs3] at hs2
  generalize hrow : (natI lw).map pin = rowv at *
  simp [e6, e8, e9, e15, e16, e86, e87, e88, e93, e94, e95, hj, ints, hcj, h5, h4, a4, hcg, hcg', hxn, x1, hclen, rr, hwj, hk', hll, hone, a4s]
  have hlow : ∀ (X Y : List LObj) (o o' : LObj) (q : Nat), q ≠ 4 → q ≠ k → q < L.length → (((L ++ X).set k o ++ Y).set 4 o')[q]? = L[q]? := fun X Y o o' q h5 h6 h7 => by
   rw [List.getElem?_set_ne (by omega), List.getElem?_append_left (by simp; omega), List.getElem?_set_ne (by omega), List.getElem?_append_left h7]
  refine GoOn.same (m2 - 1) (by omega) ⟨j + 1, js.set x (some (L.length + 1)), by omega, ⟨fun q hq => ?_, ?_, ?_, ?_⟩, by simp [e6, e8, e9, e15, e16, e86, e87, e88, e93, e94, lists2, succsL_len, ints]⟩
  ·rw [hlow _ _ _ _ q (by omega) (by omega) (by omega)]; exact low q hq
  ·rw [List.getElem?_set_self (by simp; omega), hs2]
  ·rw [hlow _ _ _ _ 5 (by omega) (by omega) (by omega)]; exact h5
  ·rw [hnext]
   refine hl.upd ?_ (by omega) (by omega) (fun q h6 h7 h8 => ?_)
   ·rw [List.getElem?_set_ne (by omega), List.getElem?_append_right (by simp)]
    simp
   ·refine hlow _ _ _ _ q (by omega) ?_ h7
    rintro rfl
    exact h8 hjo
end Go.Den
