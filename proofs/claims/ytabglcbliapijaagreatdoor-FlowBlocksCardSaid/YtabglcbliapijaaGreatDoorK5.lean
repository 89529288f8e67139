/- Part 5 of the proof: a compiled form, its executor, what it computes. -/
import Derived.Test.YtabglcbliapijaaGreatDoorK4
import Derived.ChangeArms
import Derived.DataReads
import Derived.SizedLaws
import Derived.Lib.SlicesCompact
set_option linter.all false
set_option maxRecDepth 8000
set_option maxHeartbeats 8000000
/- Blocks, by the program: the blocks and their numbers. -/
namespace Go.Den
open IrD
attribute [local irreducible] T.get T.set
theorem lds_full {l : List FIns} : lds l l.length = (List.range (l.length + 1)).map (leadL l) := by simp [lds]
theorem leadL_zero {l : List FIns} : leadL l 0 = true := by simp [leadL]
def enc0 (x : Nat × Nat) : List PV := [pin x.1,pin x.2,nilS]
@[simp] theorem enc0_len (x : Nat × Nat) : (enc0 x).length = 3 := rfl
@[simp] theorem enc0_noId (x : Nat × Nat) : noIdL (enc0 x) = true := by simp [enc0,noIdL,noId]
theorem enc0_flat (o : List (Nat × Nat)) : (o.flatMap enc0).length = o.length * 3 := flatMap_len enc0_len
@[simp] theorem enc0_flat_noId (o : List (Nat × Nat)) : noIdL (o.flatMap enc0) = true := by
 induction o with
 | nil => rfl
 | cons x o ih => rw [List.flatMap_cons,noIdL_append,enc0_noId,ih]; exact ⟨rfl,rfl⟩
theorem allB_len {f : Nat → Bool} {i : Nat} (h : i ≠ 0) : (allB f i).length = (stB f i).1.length + 1 := by simp [allB,h]
theorem numB_eq {f : Nat → Bool} {i : Nat} : (allB f (i + 1)).length = numB f i + 1 := by rw [allB_len (by omega)]; rfl
theorem allB_lead {f : Nat → Bool} {i : Nat} (h : f i = true) : allB f (i + 1) = allB f i ++ [(i,i + 1)] := by
 by_cases h0 : i = 0
 ·subst h0; simp [allB,stB]
 ·simp [allB,h0,stB_lead h0 h]
theorem allB_go {f : Nat → Bool} {i : Nat} (h0 : i ≠ 0) (h : f i = false) : allB f (i + 1) = (stB f i).1 ++ [((stB f i).2,i + 1)] ∧ allB f i = (stB f i).1 ++ [((stB f i).2,i)] ∧ numB f i = (stB f i).1.length := by
 refine ⟨?_, ?_, ?_⟩
 ·simp [allB,stB_go h0 h]
 ·simp [allB,h0]
 ·simp [numB,stB_go h0 h]
theorem set_to {o : List (Nat × Nat)} {a b c : PV} (x : PV) : (o.flatMap enc0 ++ [a,b,c]).set (o.length * 3 + 1) x = o.flatMap enc0 ++ [a,x,c] := by
 rw [List.set_append_right _ _ (by rw [enc0_flat]; omega),enc0_flat]
 have : o.length * 3 + 1 - o.length * 3 = 1 := by omega
 rw [this]; rfl
def numC (l : List FIns) (i : Nat) : List PV := pre (l.length + 1) (fun j => pin (numB (leadL l) j)) (pin 0) i
def BlJ (l : List FIns) (m : Nat) (E : PEnv) (L : List LObj) : Prop := ∃ i : Nat,i + m = l.length ∧ L = [.row 3 (numC l i),.row 143 ((allB (leadL l) i).flatMap enc0)] ∧
 Has E [(0,recs 65 encI l),(3,blist 4 (lds l l.length)),(8,.slc 0 0 (l.length + 1) (l.length + 1)),(9,.slc 1 0 (allB (leadL l) i).length (allB (leadL l) i).length),(55,recs 65 encI l),(56,pin l.length),(57,pin i)]
theorem numC_len {l : List FIns} {i : Nat} : (numC l i).length = l.length + 1 := pre_len
theorem numC_set {l : List FIns} {i : Nat} : (numC l i).set i (pin (numB (leadL l) i)) = numC l (i + 1) := pre_set (g := fun j => pin (numB (leadL l) j))
@[simp] theorem numC_noId {l : List FIns} {i : Nat} : noIdL (numC l i) = true := noIdL_pre (fun j => rfl) rfl
theorem block_loop {l : List FIns} {Q : Ex → PEnv → List LObj → Prop} (hl : l.length ≤ 1000)
  (hQ : ∀ E L,L = [.row 3 (numC l l.length),.row 143 ((allB (leadL l) l.length).flatMap enc0)] → Has E [(0,recs 65 encI l),(8,.slc 0 0 (l.length + 1) (l.length + 1)),(9,.slc 1 0 (allB (leadL l) l.length).length (allB (leadL l) l.length).length)] → Q .norm E L)
  {E : PEnv} {L : List LObj} (h : BlJ l l.length E L) : PC FD XA XN 0 (dSq 1 (hSq (dSq 6 ir70.body))) Q E L := by
 have hb : big l.length := by unfold big; omega
 simp [ir70,hSq,dSq]
 refine PW_ok _ ?_
 simp
 refine PCl (BlJ l) ?_ (k := l.length) h
 clear h
 rintro m E L ⟨i,him,rfl,⟨e0,e3,e8,e9,e55,e56,e57, -⟩⟩
 by_cases hi : i < l.length
 case neg =>
  have hie : i = l.length := by omega
  subst hie
  simp [e0,e3,e8,e9,e55,e56,e57]
  exact hQ _ _ rfl (by simp [e0,e8,e9])
 have hw := wnc hi hb
 have hw' : IntKind.wrap .i64 ((i : Int) + 1) = (i : Int) + 1 := by rw [hw]; simp
 have hi2 : i < (lds l l.length).length := by rw [lds_len]; omega
 have hcut := cut1 (f := pbool) hi2
 have hgi : (lds l l.length)[i] = leadL l i := by simp only [lds_full,List.getElem_map,List.getElem_range]
 rw [hgi] at hcut
 have hfl := enc0_flat (allB (leadL l) i)
 have hle : (allB (leadL l) i).length ≤ i := allB_ok.2
 have hnl := numC_len (l := l) (i := i)
 have hi3 : i < l.length + 1 := by omega
 have hi4 : (i : Int) < (l.length : Int) + 1 := by omega
 have hns := numC_set (l := l) (i := i)
 have hbl : blist 4 (lds l l.length) = .fz 4 (l.length + 1) ((lds l l.length).map pbool) := by simp [blist]
 have go : ∀ {E' : PEnv} {L' : List LObj} {j k : Nat},E'.get 0 = some (recs 65 encI l) → E'.get 3 = some (blist 4 (lds l l.length)) → E'.get 8 = some (.slc 0 0 (l.length + 1) (l.length + 1)) → E'.get 9 = some (.slc j 0 k k) → k = (allB (leadL l) (i + 1)).length →
   E'.get 55 = some (recs 65 encI l) → E'.get 56 = some (pin l.length) → E'.get 57 = some (pin (i + 1 : Nat)) → L'[0]? = some (.row 3 (numC l (i + 1))) → L'[j]? = some (.row 143 ((allB (leadL l) (i + 1)).flatMap enc0)) → j ≠ 0 → GoOn (BlJ l) m E' L' := by
  intro E' L' j k a0 a3 a8 a9 hk a55 a56 a57 h0 h1 hj
  subst hk
  refine GoOn.keep [0,j] [(0,recs 65 encI l),(3,blist 4 (lds l l.length)),(8,.slc 0 0 (l.length + 1) (l.length + 1)),(9,.slc 1 0 (allB (leadL l) (i + 1)).length (allB (leadL l) (i + 1)).length),(55,recs 65 encI l),(56,pin l.length),(57,pin (i + 1 : Nat))]
   (L' := [.row 3 (numC l (i + 1)),.row 143 ((allB (leadL l) (i + 1)).flatMap enc0)]) (m - 1) (by omega) (by simp; omega) (by simp; exact ⟨(List.getElem?_eq_some_iff.1 h0).1,(List.getElem?_eq_some_iff.1 h1).1⟩)
   (.cons ⟨_,h0,.row (VwL.same (by simp))⟩ (.cons ⟨_,h1,.row (VwL.same (by simp))⟩ .nil)) ?_ ⟨i + 1,by omega,rfl,Has.env (by simp)⟩
  simp only [HasV_cons,HasV_nil,and_true]
  exact ⟨⟨_,a0,.same (by simp)⟩,⟨_,a3,.same (by simp)⟩,⟨_,a8,.slc rfl⟩,⟨_,a9,.slc rfl⟩,⟨_,a55,.same (by simp)⟩,⟨_,a56,.same rfl⟩,⟨_,a57,.same rfl⟩⟩
 cases hf : leadL l i with
 | true =>
  rw [hf] at hcut
  have ha := allB_lead (f := leadL l) hf
  have hn : numB (leadL l) i = (allB (leadL l) i).length := by have := numB_eq (f := leadL l) (i := i); rw [ha] at this; simp at this; omega
  have hst := set_to (o := allB (leadL l) i) (a := pin (i : Nat)) (b := pin 0) (c := nilS) (pin ((i + 1 : Nat) : Int))
  have hfin : (allB (leadL l) i).flatMap enc0 ++ [pin (i : Nat),pin ((i + 1 : Nat) : Int),nilS] = (allB (leadL l) (i + 1)).flatMap enc0 := by rw [ha,List.flatMap_append]; rfl
  rw [hfin] at hst
  have hlen : (allB (leadL l) (i + 1)).length = (allB (leadL l) i).length + 1 := by rw [ha]; simp
  rw [hn] at hns
  generalize allB (leadL l) (i + 1) = o' at *
  generalize allB (leadL l) i = o at *
  have rr : roomy (o.length + 1) 40 := rmf (by omega) (by omega)
  have hsub : IntKind.wrap .i64 (o.length : Int) = (o.length : Int) := wrap64 (by omega) (by omega)
  have hst' : (o.flatMap enc0 ++ [pin (i : Nat),pin 0,nilS]).set (o.length * 3 + 1) (pin ((i : Int) + 1)) = o'.flatMap enc0 := by rw [← hst]; simp
  have hlt : o.length * 3 + 1 < o.length * 3 + 3 := by omega
  have hio : (o.length : Int) < (o.length : Int) + 1 := by omega
  have ho1 : o.length < o.length + 1 := by omega
  simp [e0,e3,e8,e9,e55,e56,e57,hi,hi3,hi4,hbl,hcut,hw,hw',hfl,rr,hnl,hsub,hst',hns,hio]
  exact go (j := 3) (k := o.length + 1) (by simp [e0]) (by simp [e3]) (by simp [e8]) (by simp) hlen.symm (by simp [e55]) (by simp [e56]) (by simp) (by simp) (by simp) (by omega)
 | false =>
  rw [hf] at hcut
  have h0 : i ≠ 0 := fun h => by subst h; rw [leadL_zero] at hf; cases hf
  obtain ⟨ha,hb',hn⟩ := allB_go (f := leadL l) h0 hf
  generalize (stB (leadL l) i).2 = a at *
  generalize (stB (leadL l) i).1 = o at *
  have hst := set_to (o := o) (a := pin (a : Nat)) (b := pin (i : Nat)) (c := nilS) (pin ((i + 1 : Nat) : Int))
  have hfin : o.flatMap enc0 ++ [pin (a : Nat),pin ((i + 1 : Nat) : Int),nilS] = (allB (leadL l) (i + 1)).flatMap enc0 := by rw [ha,List.flatMap_append]; rfl
  rw [hfin] at hst
  have hold : (allB (leadL l) i).flatMap enc0 = o.flatMap enc0 ++ [pin (a : Nat),pin (i : Nat),nilS] := by rw [hb',List.flatMap_append]; rfl
  have hlen : (allB (leadL l) (i + 1)).length = o.length + 1 := by rw [ha]; simp
  have hlen0 : (allB (leadL l) i).length = o.length + 1 := by rw [hb']; simp
  have hfl2 := enc0_flat o
  rw [hn] at hns
  rw [hlen0] at e9 hle
  generalize allB (leadL l) (i + 1) = o' at *
  have hsub : IntKind.wrap .i64 (o.length : Int) = (o.length : Int) := wrap64 (by omega) (by omega)
  have hst' : (o.flatMap enc0 ++ [pin (a : Nat),pin (i : Nat),nilS]).set (o.length * 3 + 1) (pin ((i : Int) + 1)) = o'.flatMap enc0 := by rw [← hst]; simp
  have hio : (o.length : Int) < (o.length : Int) + 1 := by omega
  rw [hold]
  simp [e0,e3,e8,e9,e55,e56,e57,hi,hi3,hi4,hbl,hcut,hw,hw',hfl2,hnl,hsub,hst',hns,hio]
  exact go (j := 1) (k := o.length + 1) (by simp [e0]) (by simp [e3]) (by simp [e8]) (by simp [e9]) hlen.symm (by simp [e55]) (by simp [e56]) (by simp) (by simp) (by simp) (by omega)
def cellsN (nx : Nat → List Int) (k : Nat) : Nat → List (Nat × Nat) → List PV
 | _,[] => []
 | s,x :: o => pin x.1 :: pin x.2 :: (if s < k then ints 3 (nx s) else nilS) :: cellsN nx k (s + 1) o
theorem cellsN_hi {nx : Nat → List Int} {k : Nat} : ∀ (o : List (Nat × Nat)) (s : Nat),k ≤ s → cellsN nx k s o = o.flatMap enc0 := by
 intro o
 induction o with
 | nil => intro s _; rfl
 | cons x o ih => intro s h; simp only [cellsN,if_neg (Nat.not_lt.2 h),ih (s + 1) (by omega),List.flatMap_cons,enc0]; rfl
theorem cellsN_len {nx : Nat → List Int} {k : Nat} : ∀ (o : List (Nat × Nat)) (s : Nat),(cellsN nx k s o).length = o.length * 3 := by
 intro o
 induction o with
 | nil => intro s; rfl
 | cons x o ih => intro s; simp only [cellsN,List.length_cons,ih]; omega
theorem cellsN_noId {nx : Nat → List Int} {k : Nat} : ∀ (o : List (Nat × Nat)) (s : Nat),noIdL (cellsN nx k s o) = true := by
 intro o
 induction o with
 | nil => intro s; rfl
 | cons x o ih =>
  intro s
  have := ih (s + 1)
  simp only [cellsN]
  split <;> simp [noIdL,noId,this]
theorem cellsN_set {nx : Nat → List Int} {k : Nat} : ∀ (o : List (Nat × Nat)) (s j : Nat),s + j = k → j < o.length → (cellsN nx k s o).set (j * 3 + 2) (ints 3 (nx k)) = cellsN nx (k + 1) s o := by
 intro o
 induction o with
 | nil => intro s j _ h; simp at h
 | cons x o ih =>
  intro s j hs hj
  cases j with
  | zero =>
   have : s = k := by omega
   subst this
   simp only [cellsN,Nat.zero_mul,Nat.zero_add,List.set_cons_succ,List.set_cons_zero]
   rw [cellsN_hi o (s + 1) (by omega),cellsN_hi o (s + 1) (by omega),if_pos (by omega)]
  | succ j =>
   have h1 : (j + 1) * 3 + 2 = (j * 3 + 2) + 1 + 1 + 1 := by omega
   rw [h1]
   simp only [cellsN,List.set_cons_succ]
   rw [ih (s + 1) j (by omega) (by simpa using hj),if_pos (by omega),if_pos (by omega)]
theorem cellsN_get {nx : Nat → List Int} {k : Nat} : ∀ (o : List (Nat × Nat)) (s j : Nat) (x : Nat × Nat),o[j]? = some x → (cellsN nx k s o)[j * 3]? = some (pin x.1) ∧ (cellsN nx k s o)[j * 3 + 1]? = some (pin x.2) := by
 intro o
 induction o with
 | nil => intro s j x h; simp at h
 | cons y o ih =>
  intro s j x h
  cases j with
  | zero => simp at h; subst h; simp [cellsN]
  | succ j =>
   have h1 : (j + 1) * 3 = (j * 3) + 1 + 1 + 1 := by omega
   have h2 : (j + 1) * 3 + 1 = (j * 3 + 1) + 1 + 1 + 1 := by omega
   rw [h1]
   have := ih (s + 1) j x (by simpa using h)
   refine ⟨?_, ?_⟩
   ·simp only [cellsN,List.getElem?_cons_succ]; exact this.1
   ·have h3 : (j * 3) + 1 + 1 + 1 + 1 = (j * 3 + 1) + 1 + 1 + 1 := by omega
    rw [h3]; simp only [cellsN,List.getElem?_cons_succ]; exact this.2
theorem cellsN_nil {nx : Nat → List Int} {k : Nat} : ∀ (o : List (Nat × Nat)) (s j : Nat),k ≤ s + j → j < o.length → (cellsN nx k s o)[j * 3 + 2]? = some nilS := by
 intro o
 induction o with
 | nil => intro s j _ h; simp at h
 | cons y o ih =>
  intro s j h hj
  cases j with
  | zero => simp [cellsN]; intro h2; omega
  | succ j =>
   have h3 : (j + 1) * 3 + 2 = (j * 3 + 2) + 1 + 1 + 1 := by omega
   rw [h3]
   simp only [cellsN,List.getElem?_cons_succ]
   exact ih (s + 1) j (by omega) (by simpa using hj)
theorem set_self {α : Type} {l : List α} {i : Nat} {a : α} (h : l[i]? = some a) : l.set i a = l := by
 apply List.ext_getElem?
 intro j
 rw [List.getElem?_set]
 by_cases e : i = j
 ·subst e; rw [if_pos rfl,if_pos (List.getElem?_eq_some_iff.1 h).1,h]
 ·rw [if_neg e]
def blkAt (l : List FIns) (o : List (Nat × Nat)) (k : Nat) : Blk := match o[k]? with
 | some x => ⟨x.1,x.2,match l[x.2 - 1]? with | some y => nextB (leadL l) k y | none => []⟩
 | none => ⟨0,0,[]⟩
def nxA (l : List FIns) (k : Nat) : List Int := (blkAt l (allB (leadL l) l.length) k).next
def blkL (l : List FIns) : List Blk := (List.range (allB (leadL l) l.length).length).map (blkAt l (allB (leadL l) l.length))
theorem cellsN_full {l : List FIns} {p : List (Nat × Nat)} : ∀ (o : List (Nat × Nat)) (s k : Nat),s + o.length ≤ k → (∀ j,o[j]? = p[s + j]?) →
  cellsN (fun j => (blkAt l p j).next) k s o = ((List.range o.length).map fun j => blkAt l p (s + j)).flatMap encB := by
 intro o
 induction o with
 | nil => intro s k _ _; rfl
 | cons x o ih =>
  intro s k hk hp
  simp only [List.length_cons] at hk
  rw [List.length_cons,List.range_succ_eq_map,List.map_cons,List.flatMap_cons,List.map_map]
  have h0 := hp 0
  simp only [List.getElem?_cons_zero,Nat.add_zero] at h0
  have h1 := ih (s + 1) k (by omega) (fun j => by have := hp (j + 1); rw [List.getElem?_cons_succ] at this; rw [this]; congr 1; omega)
  simp only [cellsN,if_pos (show s < k by omega)]
  rw [h1]
  have h2 : ((fun j => blkAt l p (s + j)) ∘ Nat.succ) = fun j => blkAt l p (s + 1 + j) := by funext j; simp only [Function.comp,Nat.succ_eq_add_one]; congr 1; omega
  rw [h2]
  show _ = encB (blkAt l p s) ++ _
  have h3 : encB (blkAt l p s) = [pin x.1,pin x.2,ints 3 (blkAt l p s).next] := by unfold blkAt; rw [← h0]; rfl
  rw [h3]; rfl
theorem blkL_len {l : List FIns} : (blkL l).length = (allB (leadL l) l.length).length := by simp [blkL]
theorem cells_blkL {l : List FIns} : cellsN (nxA l) (allB (leadL l) l.length).length 0 (allB (leadL l) l.length) = (blkL l).flatMap encB := by
 have := cellsN_full (l := l) (p := allB (leadL l) l.length) (allB (leadL l) l.length) 0 (allB (leadL l) l.length).length (by omega) (fun j => by rw [Nat.zero_add])
 simp only [Nat.zero_add] at this
 exact this
def LkJ (l : List FIns) (m : Nat) (E : PEnv) (L : List LObj) : Prop := ∃ k : Nat,k + m = (allB (leadL l) l.length).length ∧ L = [.row 143 (cellsN (nxA l) k 0 (allB (leadL l) l.length))] ∧
 Has E [(0,recs 65 encI l),(8,.fz 3 (l.length + 1) (numC l l.length)),(9,.slc 0 0 (allB (leadL l) l.length).length (allB (leadL l) l.length).length),(84,.slc 0 0 (allB (leadL l) l.length).length (allB (leadL l) l.length).length),(85,pin (allB (leadL l) l.length).length),(86,pin k)]
theorem cut1g {cs : List PV} {i : Nat} {p : PV} (h : cs[i]? = some p) : cut cs i 1 = [p] := by
 obtain ⟨h1,h2⟩ := List.getElem?_eq_some_iff.1 h
 unfold cut
 rw [List.drop_eq_getElem_cons h1,h2]; rfl
theorem link_loop {l : List FIns} {Q : Ex → PEnv → List LObj → Prop} (hl : l.length ≤ 1000) (hc : ∀ x ∈ l,opT x = true → 0 ≤ x.c ∧ x.c < l.length)
  (hQ : ∀ E L,L = [.row 143 ((blkL l).flatMap encB)] → Has E [(9,.slc 0 0 (blkL l).length (blkL l).length)] → Q .norm E L)
  {E : PEnv} {L : List LObj} (h : LkJ l (blkL l).length E L) : PC FD XA XN 0 (dSq 1 (hSq (dSq 7 ir70.body))) Q E L := by
 have hb : big l.length := by unfold big; omega
 simp [ir70,hSq,dSq]
 refine PW_ok _ ?_
 simp
 refine PCl (LkJ l) ?_ (k := (blkL l).length) h
 clear h
 rintro m E L ⟨k,hkm,rfl,⟨e0,e8,e9,e84,e85,e86, -⟩⟩
 have hlen := blkL_len (l := l)
 by_cases hk : k < (allB (leadL l) l.length).length
 case neg =>
  have hke : k = (allB (leadL l) l.length).length := by omega
  subst hke
  rw [cells_blkL]
  simp [e0,e8,e9,e84,e85,e86]
  exact hQ _ _ rfl (by simp [e9,hlen])
 have hle := allB_ok (f := leadL l) (n := l.length)
 have hnx : nxA l k = (blkAt l (allB (leadL l) l.length) k).next := rfl
 generalize hnk : nxA l k = nx at *
 have hset := cellsN_set (nx := nxA l) (k := k) (allB (leadL l) l.length) 0 k (by omega) hk
 rw [hnk] at hset
 have hcl := cellsN_len (nx := nxA l) (k := k) (allB (leadL l) l.length) 0
 have hni := cellsN_noId (nx := nxA l) (k := k) (allB (leadL l) l.length) 0
 obtain ⟨x,hx⟩ : ∃ x,(allB (leadL l) l.length)[k]? = some x := ⟨_,List.getElem?_eq_getElem hk⟩
 obtain ⟨hg1,hg2⟩ := cellsN_get (nx := nxA l) (k := k) (allB (leadL l) l.length) 0 k x hx
 have hx1 := hle.1 x (List.mem_of_getElem? hx)
 obtain ⟨y,hy⟩ : ∃ y,l[x.2 - 1]? = some y := ⟨_,List.getElem?_eq_getElem (by omega)⟩
 have hny : nx = nextB (leadL l) k y := by rw [hnx]; unfold blkAt; rw [hx]; simp only [hy]
 have hym := List.mem_of_getElem? hy
 have hyc := hc y hym
 have hyi : x.2 - 1 < l.length := by omega
 have hcut := cutI hyi
 have hyg : l[x.2 - 1] = y := by rw [List.getElem?_eq_getElem hyi] at hy; simpa using hy
 rw [hyg] at hcut
 have hkl : k ≤ 1000 := by omega
 have hncut : ∀ c : Nat,c < l.length → cut (numC l l.length) c 1 = [pin (numB (leadL l) c)] := fun c hcc => cut1g (by unfold numC; rw [pre_getD (by omega),if_pos hcc])
 have go : ∀ {E' : PEnv} {L' : List LObj} {p : PV},E'.get 0 = some (recs 65 encI l) → E'.get 8 = some (.fz 3 (l.length + 1) (numC l l.length)) → E'.get 9 = some (.slc 0 0 (allB (leadL l) l.length).length (allB (leadL l) l.length).length) →
   E'.get 84 = some (.slc 0 0 (allB (leadL l) l.length).length (allB (leadL l) l.length).length) → E'.get 85 = some (pin (allB (leadL l) l.length).length) → E'.get 86 = some (pin (k + 1 : Nat)) →
   L'[0]? = some (.row 143 ((cellsN (nxA l) k 0 (allB (leadL l) l.length)).set (k * 3 + 2) p)) → Vw [0] L' p (ints 3 nx) → GoOn (LkJ l) m E' L' := by
  intro E' L' p a0 a8 a9 a84 a85 a86 h0 hp
  refine GoOn.keep [0] [(0,recs 65 encI l),(8,.fz 3 (l.length + 1) (numC l l.length)),(9,.slc 0 0 (allB (leadL l) l.length).length (allB (leadL l) l.length).length),(84,.slc 0 0 (allB (leadL l) l.length).length (allB (leadL l) l.length).length),(85,pin (allB (leadL l) l.length).length),(86,pin (k + 1 : Nat))]
   (L' := [.row 143 (cellsN (nxA l) (k + 1) 0 (allB (leadL l) l.length))]) (m - 1) (by omega) (by simp) (by simpa using (List.getElem?_eq_some_iff.1 h0).1)
   (.cons ⟨_,h0,.row (by rw [← hset]; exact F2.set (VwL.same hni) hp)⟩ .nil) ?_ ⟨k + 1,by omega,rfl,Has.env (by simp)⟩
  simp only [HasV_cons,HasV_nil,and_true]
  exact ⟨⟨_,a0,.same (by simp)⟩,⟨_,a8,.same (by simp [noId])⟩,⟨_,a9,.slc rfl⟩,⟨_,a84,.slc rfl⟩,⟨_,a85,.same rfl⟩,⟨_,a86,.same rfl⟩⟩
 have hnilc := cellsN_nil (nx := nxA l) (k := k) (allB (leadL l) l.length) 0 k (by omega) hk
 generalize allB (leadL l) l.length = o at *
 generalize hcs : cellsN (nxA l) k 0 o = cs at *
 have hki : (k : Int) < (o.length : Int) := by omega
 have hw : IntKind.wrap .i64 ((k : Int) + 1) = (k : Int) + 1 := wrap64 (by omega) (by omega)
 have hxe : encI y = [pin y.op,pin y.a,pin y.b,pin y.c,pin y.d,pstr y.text,ints 3 y.list] := rfl
 obtain ⟨b,hbx⟩ : ∃ b : Nat,x.2 = b + 1 := ⟨x.2 - 1,by omega⟩
 rw [hbx] at hg2 hcut hyi
 simp only [Nat.add_sub_cancel] at hcut hyi
 have hws : IntKind.wrap .i64 (b : Int) = (b : Int) := wrap64 (by omega) (by omega)
 have hlc : k * 3 + 1 < cs.length := by omega
 have hlc2 : k * 3 + 2 < cs.length := by omega
 rw [hxe] at hcut
 by_cases h22 : y.op = 22
 ·have hs : nx = [] := by rw [hny]; unfold nextB; rw [if_pos h22]
  simp [e0,e8,e9,e84,e85,e86,hk,hki,hw,hg1,hg2,hws,hcut,recs,ints,hyi,h22]
  exact go (p := nilS) (by simp [e0,recs]) (by simp [e8]) (by simp [e9]) (by simp [e84]) (by simp [e85]) (by simp) (by simp [set_self hnilc]) (by rw [hs]; exact .nil)
 by_cases h19 : y.op = 19
 ·obtain ⟨c,hcn⟩ : ∃ c : Nat,y.c = c := ⟨y.c.toNat,by have := hyc (by simp [opT,h19]); omega⟩
  have hcl := hyc (by simp [opT,h19])
  rw [hcn] at hcl
  have hs : nx = [((numB (leadL l) c : Nat) : Int)] := by rw [hny]; unfold nextB; rw [if_neg h22,if_pos h19,hcn,Int.toNat_natCast]
  have hnc := hncut c (by omega)
  have hcl1 : c < l.length + 1 := by omega
  have hcl2 : (c : Int) < (l.length : Int) + 1 := by omega
  rw [hcn] at hcut
  simp [e0,e8,e9,e84,e85,e86,hk,hki,hw,hg1,hg2,hws,hcut,recs,ints,hyi,h22,h19,hnc,hcl1,hcl2,hlc2]
  exact go (p := .slc 2 0 1 1) (by simp [e0,recs]) (by simp [e8]) (by simp [e9]) (by simp [e84]) (by simp [e85]) (by simp) (by simp) (by rw [hs]; exact .fzs (cs'' := [pin (numB (leadL l) c : Nat)]) (by simp) rfl (by simp) (by simp) rfl rfl (fun j a b => .same (nIg (l := [pin (numB (leadL l) c : Nat)]) rfl j a)))
 have hk1 : ((k + 1 : Nat) : Int) = (k : Int) + 1 := by omega
 by_cases h20 : y.op = 20
 ·obtain ⟨c,hcn⟩ : ∃ c : Nat,y.c = c := ⟨y.c.toNat,by have := hyc (by simp [opT,h20]); omega⟩
  have hcl := hyc (by simp [opT,h20])
  rw [hcn] at hcl
  have hnc := hncut c (by omega)
  have hcl1 : c < l.length + 1 := by omega
  have hcl2 : (c : Int) < (l.length : Int) + 1 := by omega
  rw [hcn] at hcut
  by_cases hn : numB (leadL l) c = k + 1
  ·have hs : nx = [((k + 1 : Nat) : Int)] := by rw [hny]; unfold nextB; rw [if_neg h22,if_neg h19,if_pos h20,hcn,Int.toNat_natCast,if_pos hn]
   rw [hn] at hnc
   simp [e0,e8,e9,e84,e85,e86,hk,hki,hw,hg1,hg2,hws,hcut,recs,ints,hyi,h22,h19,h20,hnc,hcl1,hcl2,hlc2]
   exact go (p := .slc 2 0 1 1) (by simp [e0,recs]) (by simp [e8]) (by simp [e9]) (by simp [e84]) (by simp [e85]) (by simp) (by simp) (by rw [hs]; exact .fzs (cs'' := [pin (k + 1 : Nat)]) (by simp) rfl (by simp) (by simp) rfl rfl (fun j a b => .same (nIg (l := [pin (k + 1 : Nat)]) rfl j a)))
  ·have hs : nx = [((k + 1 : Nat) : Int),((numB (leadL l) c : Nat) : Int)] := by rw [hny]; unfold nextB; rw [if_neg h22,if_neg h19,if_pos h20,hcn,Int.toNat_natCast,if_neg hn]
   have hn' : ¬ ((numB (leadL l) c : Nat) : Int) = (k : Int) + 1 := by omega
   generalize numB (leadL l) c = nn at *
   have rr : roomy 2 8 := rmf (by omega) (by omega)
   simp [e0,e8,e9,e84,e85,e86,hk,hki,hw,hg1,hg2,hws,hcut,recs,ints,hyi,h22,h19,h20,hnc,hcl1,hcl2,hlc2,hn',rr]
   exact go (p := .slc 4 0 2 2) (by simp [e0,recs]) (by simp [e8]) (by simp [e9]) (by simp [e84]) (by simp [e85]) (by simp) (by simp) (by rw [hs]; exact .fzs (cs'' := [pin (k + 1 : Nat),pin (nn : Nat)]) (by simp) rfl (by simp) (by simp) rfl rfl (fun j a b => .same (nIg (l := [pin (k + 1 : Nat),pin (nn : Nat)]) rfl j a)))
 have hs : nx = [((k + 1 : Nat) : Int)] := by rw [hny]; unfold nextB; rw [if_neg h22,if_neg h19,if_neg h20]
 simp [e0,e8,e9,e84,e85,e86,hk,hki,hw,hg1,hg2,hws,hcut,recs,ints,hyi,h22,h19,h20,hlc2]
 exact go (p := .slc 2 0 1 1) (by simp [e0,recs]) (by simp [e8]) (by simp [e9]) (by simp [e84]) (by simp [e85]) (by simp) (by simp) (by rw [hs]; exact .fzs (cs'' := [pin (k + 1 : Nat)]) (by simp) rfl (by simp) (by simp) rfl rfl (fun j a b => .same (nIg (l := [pin (k + 1 : Nat)]) rfl j a)))
theorem numC_nl {l : List FIns} {i : Nat} : allNl (numC l i) := by
 unfold numC pre
 simp
 intro j hj
 split <;> rfl
theorem blocks_ok {l : List FIns} (hl : l.length ≤ 1000) (hc : ∀ x ∈ l,opT x = true → 0 ≤ x.c ∧ x.c < l.length) : PPd (.fn 70 [] []) [recs 65 encI l] (blks 143 (blkL l)) := by
 have l1 : (l.length : Int) + 1 ≤ 9223372036854775807 := by omega
 have l2 : (l.length : Int) + 1 ≤ 281474976710656 := by omega
 have l3 : 8 * ((l.length : Int) + 1) ≤ 281474976710656 := by omega
 have l4 : (0 : Int) ≤ (l.length : Int) + 1 := by omega
 have hw : IntKind.wrap .i64 ((l.length : Int) + 1) = (l.length : Int) + 1 := wrap64 (by omega) (by omega)
 have hn : ((l.length : Int) + 1).toNat = l.length + 1 := by omega
 refine PPc rfl rfl rfl (by simp) (by simp [noId]) (by simp) ?_
 have hres : ir70.results = [.tmp 2] := rfl
 unfold ir70
 refine PCq (PW_ok _ ?_)
 simp
 refine PCq (PW_ok _ ?_)
 simp [recs,hw,l1,l2,l3,l4,hn,repl_rep]
 refine PCq (PW_ok _ ?_)
 simp
 refine PCq (PCq (PW_ok _ ?_))
 simp
 have h0 : (List.replicate (l.length + 1) (PV.v (Value.bool false))).set 0 (PV.v (Value.bool true)) = (lds l 0).map pbool := by rw [lds_zero,List.map_set,List.map_replicate]
 rw [h0]
 refine PC.abs (Abs.keep [0] [(0,recs 65 encI l),(3,.slc 0 0 (l.length + 1) (l.length + 1)),(21,recs 65 encI l),(22,pin l.length),(23,pin (0 : Nat))] (L' := [.row 4 ((lds l 0).map pbool)]) (by simp) (by simp) (.cons ⟨_,rfl,.row (VwL.same (by simp))⟩ .nil) ?_) ?_
 ·simp [recs]
  exact ⟨.same (by simp [noId]),.slc rfl,.same (by simp [noId]),.same rfl,.same rfl⟩
 refine lead_loop hl hc ?_ ⟨0,by omega,rfl,Has.env (by simp)⟩
 rintro E L rfl ⟨e0,e3, -⟩
 simp
 refine PCq (PW_ok _ ?_)
 simp [e0,recs,hw,l1,l2,l3,l4,hn,repl_rep]
 refine PCq (PW_ok _ ?_)
 simp
 refine PCq (PCq (PW_ok _ ?_))
 simp [e0,e3,recs]
 have hnum : (List.replicate (l.length + 1) (PV.v (I 0))) = numC l 0 := by unfold numC; rw [pre_zero]
 rw [hnum]
 have hlb : blist 4 (lds l l.length) = .fz 4 (l.length + 1) ((lds l l.length).map pbool) := by simp [blist]
 refine PC.abs ((Abs.addNil 0 _ _).trans (Abs.keep [1,2] [(0,recs 65 encI l),(3,blist 4 (lds l l.length)),(8,.slc 0 0 (l.length + 1) (l.length + 1)),(9,.slc 1 0 0 0),(55,recs 65 encI l),(56,pin l.length),(57,pin (0 : Nat))]
  (L' := [.row 3 (numC l 0),.row 143 []]) (by simp) (by simp) (.cons ⟨_,rfl,.row (VwL.same (by simp))⟩ (.cons ⟨_,rfl,.nilr⟩ .nil)) ?_)) ?_
 ·simp [recs,hlb,e0,e3]
  exact ⟨.same (by simp [noId]),.fzs (cs'' := (lds l l.length).map pbool) (by simp) rfl (by simp) (by simp) (List.take_of_length_le (by simp)).symm rfl (fun j a b => .same (nIg (l := (lds l l.length).map pbool) (by simp) j a)),.slc rfl,.nilr rfl rfl,.same (by simp [noId]),.same rfl,.same rfl⟩
 refine block_loop hl ?_ ⟨0,by omega,by simp [allB],Has.env (by simp [allB])⟩
 clear e0 e3
 rintro E L rfl ⟨e0,e8,e9, -⟩
 simp
 refine PCq (PCq (PW_ok _ ?_))
 simp [e0,e8,e9]
 have hnl := numC_len (l := l) (i := l.length)
 have hol := enc0_flat (allB (leadL l) l.length)
 refine PC.abs (Abs.keep [1] [(0,recs 65 encI l),(8,.fz 3 (l.length + 1) (numC l l.length)),(9,.slc 0 0 (allB (leadL l) l.length).length (allB (leadL l) l.length).length),(84,.slc 0 0 (allB (leadL l) l.length).length (allB (leadL l) l.length).length),(85,pin (allB (leadL l) l.length).length),(86,pin (0 : Nat))]
  (L' := [.row 143 (cellsN (nxA l) 0 0 (allB (leadL l) l.length))]) (by simp) (by simp) (.cons ⟨_,rfl,.row (by rw [cellsN_hi _ _ (Nat.le_refl _)]; exact VwL.same (by simp))⟩ .nil) ?_) ?_
 ·simp [recs,e0,e8,e9]
  exact ⟨.same (by simp [noId]),.fzs (cs'' := numC l l.length) (by simp) rfl numC_nl (by simp) (List.take_of_length_le (by simp)).symm rfl (fun j a b => .same (nIg numC_noId j a)),.slc rfl,.same rfl,.same rfl⟩
 refine link_loop hl hc ?_ ⟨0,by rw [blkL_len]; omega,rfl,Has.env (by simp)⟩
 clear e0 e8 e9
 rintro E L rfl ⟨e9, -⟩
 simp
 refine PCq (PW_ok _ ?_)
 simp [e9]
 refine PW_ok _ ?_
 simp
 exact Vw.frz rfl (by simp) (by simp) rfl
def LrJ (l : List FIns) (i : Nat) (m : Nat) (E : PEnv) (L : List LObj) : Prop := ∃ k : Nat,k + m = l.length ∧ L = [] ∧ ((l.take k).any fun x => opT x && decide (x.c = (i : Int))) = false ∧
 Has E [(0,recs 65 encI l),(1,pin i),(6,pin k)]
theorem leader_ok {l : List FIns} {i : Nat} (hl : l.length ≤ 1000) (hi : i < l.length) : PPd (.fn 136 [] []) [recs 65 encI l,pin i] (pbool (leadL l i)) := by
 have hb : big l.length := by unfold big; omega
 refine PPc rfl rfl rfl (by simp) (by simp [noId]) (by simp) ?_
 have hres : ir136.results = [.tmp 4] := rfl
 by_cases h0 : i = 0
 ·subst h0
  refine PW_ok _ ?_
  simp [ir136,leadL]
  exact .same rfl
 obtain ⟨j,rfl⟩ : ∃ j,i = j + 1 := ⟨i - 1,by omega⟩
 have hj : j < l.length := by omega
 have hcut := cutI hj
 have hws : IntKind.wrap .i64 (((j + 1 : Nat) : Int) - 1) = (j : Int) := by rw [wrap64 (by omega) (by omega)]; omega
 have hws' : IntKind.wrap .i64 (j : Int) = (j : Int) := wrap64 (by omega) (by omega)
 have hxe : encI l[j] = [pin l[j].op,pin l[j].a,pin l[j].b,pin l[j].c,pin l[j].d,pstr l[j].text,ints 3 l[j].list] := rfl
 have hld : leadL l (j + 1) = (opE l[j] || l.any fun x => opT x && decide (x.c = ((j + 1 : Nat) : Int))) := by simp [leadL,hj]
 have hn0 : ¬ ((j : Int) + 1 = 0) := by omega
 generalize hx : l[j] = x at *
 rw [hxe] at hcut
 by_cases hE : opE x = true
 ·rw [hld,hE,Bool.true_or]
  simp only [opE,opT,Bool.or_eq_true,decide_eq_true_eq] at hE
  refine PW_ok _ ?_
  by_cases h19 : x.op = 19
  ·simp [ir136,recs,ints,hj,hn0,hws',hcut,h19]
   exact .same rfl
  by_cases h20 : x.op = 20
  ·simp [ir136,recs,ints,hj,hn0,hws',hcut,h19,h20]
   exact .same rfl
  have h22 : x.op = 22 := by omega
  simp [ir136,recs,ints,hj,hn0,hws',hcut,h19,h20,h22]
  exact .same rfl
 have hE' := hE
 simp only [opE,opT,Bool.or_eq_true,decide_eq_true_eq,not_or] at hE'
 obtain ⟨⟨h19,h20⟩,h22⟩ := hE'
 rw [hld,Bool.eq_false_iff.2 hE,Bool.false_or]
 generalize hA : (l.any fun x => opT x && decide (x.c = ((j + 1 : Nat) : Int))) = A
 refine PW_ok _ ?_
 simp [ir136,recs,ints,hj,hn0,hws',hcut,h19,h20,h22]
 refine PC.abs (Abs.dropAll [(0,recs 65 encI l),(1,pin ((j + 1 : Nat) : Int)),(6,pin (0 : Nat))] ?_) ?_
 ·simp [recs]
  exact ⟨.same (by simp [noId]),.same rfl,.same rfl⟩
 refine PCl (LrJ l (j + 1)) ?_ (k := l.length) ⟨0,by omega,rfl,by simp,Has.env (by simp)⟩
 rintro m E L ⟨k,hkm,rfl,hn,⟨e0,e1,e6, -⟩⟩
 by_cases hk : k < l.length
 case neg =>
  have hke : k = l.length := by omega
  subst hke
  rw [List.take_length,hA] at hn
  subst hn
  simp [e0,e1,e6,recs]
  exact .same rfl
 have hcut2 := cutI hk
 have hye : encI l[k] = [pin l[k].op,pin l[k].a,pin l[k].b,pin l[k].c,pin l[k].d,pstr l[k].text,ints 3 l[k].list] := rfl
 have hw := wnc hk hb
 have hw' : IntKind.wrap .i64 ((k : Int) + 1) = (k : Int) + 1 := by rw [hw]; simp
 have hyes : (opT l[k] && decide (l[k].c = ((j + 1 : Nat) : Int))) = true → A = true := fun h => by
  rw [← hA,List.any_eq_true]; exact ⟨_,List.getElem_mem hk,h⟩
 have hno : (opT l[k] && decide (l[k].c = ((j + 1 : Nat) : Int))) = false → ((l.take (k + 1)).any fun x => opT x && decide (x.c = ((j + 1 : Nat) : Int))) = false := fun h => by
  rw [List.take_succ_eq_append_getElem hk,List.any_append,hn]; simpa using h
 generalize l[k] = y at *
 rw [hye] at hcut2
 have go : ∀ {E' : PEnv},E'.get 0 = some (recs 65 encI l) → E'.get 1 = some (pin ((j + 1 : Nat) : Int)) → E'.get 6 = some (pin (k + 1 : Nat)) → (opT y && decide (y.c = ((j + 1 : Nat) : Int))) = false → GoOn (LrJ l (j + 1)) m E' [] := fun a0 a1 a6 h =>
  GoOn.same (m - 1) (by omega) ⟨k + 1,by omega,rfl,hno h,a0,a1,a6,trivial⟩
 by_cases t19 : y.op = 19
 ·by_cases hc : y.c = (j : Int) + 1
  ·have := hyes (by simp [opT,t19,hc])
   subst this
   simp [e0,e1,e6,recs,ints,hk,hcut2,t19,hc]
   exact .same rfl
  ·simp [e0,e1,e6,recs,ints,hk,hcut2,t19,hc,hw,hw']
   exact go (by simp [e0,recs]) (by simp [e1]) (by simp) (by simp [hc])
 by_cases t20 : y.op = 20
 ·by_cases hc : y.c = (j : Int) + 1
  ·have := hyes (by simp [opT,t20,hc])
   subst this
   simp [e0,e1,e6,recs,ints,hk,hcut2,t19,t20,hc]
   exact .same rfl
  ·simp [e0,e1,e6,recs,ints,hk,hcut2,t19,t20,hc,hw,hw']
   exact go (by simp [e0,recs]) (by simp [e1]) (by simp) (by simp [hc])
 simp [e0,e1,e6,recs,ints,hk,hcut2,t19,t20,hw,hw']
 exact go (by simp [e0,recs]) (by simp [e1]) (by simp) (by simp [opT,t19,t20])
def AtJ (cs : List PV) (n : Nat) (i : Nat) (p : Nat) (m : Nat) (E : PEnv) (L : List LObj) : Prop := ∃ k : Nat,k + m = p ∧ L = [] ∧ Has E [(0,.fz 155 n cs),(1,pin i),(5,pin k)]
theorem cut3 {cs : List PV} {k : Nat} {a b c : PV} (h0 : cs[k * 3]? = some a) (h1 : cs[k * 3 + 1]? = some b) (h2 : cs[k * 3 + 2]? = some c) : cut cs (k * 3) 3 = [a,b,c] := by
 obtain ⟨g0,e0⟩ := List.getElem?_eq_some_iff.1 h0
 obtain ⟨g1,e1⟩ := List.getElem?_eq_some_iff.1 h1
 obtain ⟨g2,e2⟩ := List.getElem?_eq_some_iff.1 h2
 unfold cut
 rw [List.drop_eq_getElem_cons g0,List.drop_eq_getElem_cons g1,List.drop_eq_getElem_cons g2,e0,e1,e2]
 rfl
theorem at_ok {cs : List PV} {o : List (Nat × Nat)} {i p : Nat} (ho : o.length ≤ 1000) (hlen : cs.length = o.length * 3) (hg : ∀ j x,o[j]? = some x → cs[j * 3]? = some (pin x.1)) (hnid : noIdL cs = true)
  (hp : ∃ x,o[p]? = some x ∧ x.1 = i) (hlt : ∀ j x,j < p → o[j]? = some x → x.1 ≠ i) : PPd (.fn 137 [] []) [.fz 155 o.length cs,pin i] (pin p) := by
 refine PPc rfl rfl rfl (by simp) (by simp [noId,hnid]) (by simp) ?_
 have hres : ir137.results = [.tmp 4] := rfl
 have hcut : ∀ k x,o[k]? = some x → ∃ u v,cut cs (k * 3) 3 = [pin x.1,u,v] := by
  intro k x hx
  have hk := (List.getElem?_eq_some_iff.1 hx).1
  exact ⟨_,_,cut3 (hg k x hx) (List.getElem?_eq_getElem (by omega)) (List.getElem?_eq_getElem (by omega))⟩
 obtain ⟨xp,hxp,hxi⟩ := hp
 have hpo := (List.getElem?_eq_some_iff.1 hxp).1
 refine PW_ok _ ?_
 simp [ir137]
 refine PCl (AtJ cs o.length i p) ?_ (k := p) ⟨0,by omega,rfl,by simp⟩
 rintro m E L ⟨k,hkm,rfl,⟨e0,e1,e5, -⟩⟩
 have hko : k < o.length := by omega
 have hko' : (k : Int) < (o.length : Int) := by omega
 have hw : IntKind.wrap .i64 ((k : Int) + 1) = (k : Int) + 1 := wrap64 (by omega) (by omega)
 obtain ⟨x,hx⟩ : ∃ x,o[k]? = some x := ⟨_,List.getElem?_eq_getElem hko⟩
 obtain ⟨u,v,hc⟩ := hcut k x hx
 by_cases hk : k = p
 ·subst hk
  have : x = xp := by rw [hxp] at hx; cases hx; rfl
  subst this
  simp [e0,e1,e5,hko,hc,hxi]
  exact .same rfl
 ·have hne := hlt k x (by omega) hx
  have hne' : ¬ ((x.1 : Int) = (i : Int)) := by omega
  simp [e0,e1,e5,hko,hc,hne',hw]
  exact GoOn.same (m - 1) (by omega) ⟨k + 1,by omega,rfl,by simp [e0,e1]⟩
theorem PP.roc {F : FuncId → Option IFunc} {X0 X : Ext} {L : List LObj} {fv fv' v : PV} {args args' : List PV} {K : PV → List LObj → Prop} (h : PP F X0 X fv' args' v) (hfv : Vw [] L fv fv') (hargs : VwL [] L args args') (ha : noIdL args' = true) (hf : noId fv' = true) (hv : noId v = true) (hz : zf v = true) (q : Bool) (hk : K v L) : PF F X0 X q fv args L K := by
 refine (PF.ro (K := fun v' L' => v' = v ∧ L' = []) hfv hargs hf ha (h true []) (fun v0 L0 h => by rw [h.1,h.2]; exact ⟨hz,fun o ho => by simp at ho⟩) q).mono ?_
 rintro v' L' ⟨v0,L0,⟨rfl,rfl⟩,rfl,rfl⟩
 rw [ren_noId _ _ hv]
 simpa using hk
def RbJ (l : List FIns) (m : Nat) (E : PEnv) (L : List LObj) : Prop := ∃ i : Nat,i + m = l.length ∧ L = [.row 155 ((allB (leadL l) i).flatMap enc0)] ∧
 Has E [(0,recs 65 encI l),(3,.slc 0 0 (allB (leadL l) i).length (allB (leadL l) i).length),(4,pin i)]
theorem refblock_loop {l : List FIns} {Q : Ex → PEnv → List LObj → Prop} (hl : l.length ≤ 1000)
  (hQ : ∀ E L,L = [.row 155 ((allB (leadL l) l.length).flatMap enc0)] → Has E [(0,recs 65 encI l),(3,.slc 0 0 (allB (leadL l) l.length).length (allB (leadL l) l.length).length)] → Q .norm E L)
  {E : PEnv} {L : List LObj} (h : RbJ l l.length E L) : PC FD XA XN 0 (dSq 1 (hSq (dSq 2 ir72.body))) Q E L := by
 have hb : big l.length := by unfold big; omega
 simp [ir72,hSq,dSq]
 refine PW_ok _ ?_
 simp
 refine PCl (RbJ l) ?_ (k := l.length) h
 clear h
 rintro m E L ⟨i,him,rfl,⟨e0,e3,e4, -⟩⟩
 by_cases hi : i < l.length
 case neg =>
  have hie : i = l.length := by omega
  subst hie
  simp [e0,e3,e4,recs]
  exact hQ _ _ rfl (by simp [e0,e3])
 have hw := wnc hi hb
 have hw' : IntKind.wrap .i64 ((i : Int) + 1) = (i : Int) + 1 := by rw [hw]; simp
 have hfl := enc0_flat (allB (leadL l) i)
 have hle : (allB (leadL l) i).length ≤ i := allB_ok.2
 have hld := leader_ok hl hi
 have go : ∀ {E' : PEnv} {L' : List LObj} {j k : Nat},E'.get 0 = some (recs 65 encI l) → E'.get 3 = some (.slc j 0 k k) → k = (allB (leadL l) (i + 1)).length →
   E'.get 4 = some (pin (i + 1 : Nat)) → L'[j]? = some (.row 155 ((allB (leadL l) (i + 1)).flatMap enc0)) → GoOn (RbJ l) m E' L' := by
  intro E' L' j k a0 a3 hk a4 h1
  subst hk
  refine GoOn.keep [j] [(0,recs 65 encI l),(3,.slc 0 0 (allB (leadL l) (i + 1)).length (allB (leadL l) (i + 1)).length),(4,pin (i + 1 : Nat))]
   (L' := [.row 155 ((allB (leadL l) (i + 1)).flatMap enc0)]) (m - 1) (by omega) (by simp) (by simpa using (List.getElem?_eq_some_iff.1 h1).1)
   (.cons ⟨_,h1,.row (VwL.same (by simp))⟩ .nil) ?_ ⟨i + 1,by omega,rfl,Has.env (by simp)⟩
  simp only [HasV_cons,HasV_nil,and_true]
  exact ⟨⟨_,a0,.same (by simp)⟩,⟨_,a3,.slc rfl⟩,⟨_,a4,.same rfl⟩⟩
 simp [e0,e3,e4,recs,hi]
 refine PP.runk hld ?_
 cases hf : leadL l i with
 | true =>
  have ha := allB_lead (f := leadL l) hf
  have hst := set_to (o := allB (leadL l) i) (a := pin (i : Nat)) (b := pin 0) (c := nilS) (pin ((i + 1 : Nat) : Int))
  have hfin : (allB (leadL l) i).flatMap enc0 ++ [pin (i : Nat),pin ((i + 1 : Nat) : Int),nilS] = (allB (leadL l) (i + 1)).flatMap enc0 := by rw [ha,List.flatMap_append]; rfl
  rw [hfin] at hst
  have hlen : (allB (leadL l) (i + 1)).length = (allB (leadL l) i).length + 1 := by rw [ha]; simp
  generalize allB (leadL l) (i + 1) = o' at *
  generalize allB (leadL l) i = o at *
  have rr : roomy (o.length + 1) 40 := rmf (by omega) (by omega)
  have hsub : IntKind.wrap .i64 (o.length : Int) = (o.length : Int) := wrap64 (by omega) (by omega)
  have hst' : (o.flatMap enc0 ++ [pin (i : Nat),pin 0,nilS]).set (o.length * 3 + 1) (pin ((i : Int) + 1)) = o'.flatMap enc0 := by rw [← hst]; simp
  have hio : (o.length : Int) < (o.length : Int) + 1 := by omega
  simp [e0,e3,e4,hw,hw',hfl,rr,hsub,hst',hio]
  exact go (j := 2) (k := o.length + 1) (by simp [e0,recs]) (by simp) hlen.symm (by simp) (by simp)
 | false =>
  have h0 : i ≠ 0 := fun h => by subst h; rw [leadL_zero] at hf; cases hf
  obtain ⟨ha,hb',hn⟩ := allB_go (f := leadL l) h0 hf
  generalize (stB (leadL l) i).2 = a at *
  generalize (stB (leadL l) i).1 = o at *
  have hst := set_to (o := o) (a := pin (a : Nat)) (b := pin (i : Nat)) (c := nilS) (pin ((i + 1 : Nat) : Int))
  have hfin : o.flatMap enc0 ++ [pin (a : Nat),pin ((i + 1 : Nat) : Int),nilS] = (allB (leadL l) (i + 1)).flatMap enc0 := by rw [ha,List.flatMap_append]; rfl
  rw [hfin] at hst
  have hold : (allB (leadL l) i).flatMap enc0 = o.flatMap enc0 ++ [pin (a : Nat),pin (i : Nat),nilS] := by rw [hb',List.flatMap_append]; rfl
  have hlen : (allB (leadL l) (i + 1)).length = o.length + 1 := by rw [ha]; simp
  have hlen0 : (allB (leadL l) i).length = o.length + 1 := by rw [hb']; simp
  have hfl2 := enc0_flat o
  rw [hlen0] at e3 hle
  generalize allB (leadL l) (i + 1) = o' at *
  have hsub : IntKind.wrap .i64 (o.length : Int) = (o.length : Int) := wrap64 (by omega) (by omega)
  have hst' : (o.flatMap enc0 ++ [pin (a : Nat),pin (i : Nat),nilS]).set (o.length * 3 + 1) (pin ((i : Int) + 1)) = o'.flatMap enc0 := by rw [← hst]; simp
  have hio : (o.length : Int) < (o.length : Int) + 1 := by omega
  rw [hold]
  simp [e0,e3,e4,hw,hw',hfl2,hsub,hst',hio]
  exact go (j := 0) (k := o.length + 1) (by simp [e0,recs]) (by simp [e3]) hlen.symm (by simp) (by simp)
theorem cellsN_nl {nx : Nat → List Int} {k : Nat} : ∀ (o : List (Nat × Nat)) (s : Nat),allNl (cellsN nx k s o) := by
 intro o
 induction o with
 | nil => intro s; rfl
 | cons x o ih =>
  intro s
  have := ih (s + 1)
  simp only [cellsN]
  split <;> simp [allNl_cons,this,ints] <;> rfl
def RlJ (l : List FIns) (m : Nat) (E : PEnv) (L : List LObj) : Prop := ∃ k : Nat,k + m = (allB (leadL l) l.length).length ∧ L = [.row 155 (cellsN (nxA l) k 0 (allB (leadL l) l.length))] ∧
 Has E [(0,recs 65 encI l),(3,.slc 0 0 (allB (leadL l) l.length).length (allB (leadL l) l.length).length),(5,pin k)]
theorem at_num {l : List FIns} {c : Nat} (hc : c < l.length) (hle : leadL l c = true) : (∃ x,(allB (leadL l) l.length)[numB (leadL l) c]? = some x ∧ x.1 = c) ∧
  ∀ j x,j < numB (leadL l) c → (allB (leadL l) l.length)[j]? = some x → x.1 ≠ c := by
 have h := firstsB_at (f := leadL l) hc (.inr hle)
 rw [← allB_firsts (by omega)] at h
 refine ⟨?_,fun j x hj hx => h.2 j x.1 hj (by simp [hx])⟩
 have h1 := h.1
 rw [List.getElem?_map,Option.map_eq_some_iff] at h1
 exact h1
theorem lead_target {l : List FIns} {y : FIns} {c : Nat} (hy : y ∈ l) (ht : opT y = true) (hc : y.c = (c : Int)) : leadL l c = true := by
 unfold leadL
 have : (l.any fun x => opT x && decide (x.c = (c : Int))) = true := by rw [List.any_eq_true]; exact ⟨y,hy,by simp [ht,hc]⟩
 rw [this,Bool.or_true]
theorem reflink_loop {l : List FIns} {Q : Ex → PEnv → List LObj → Prop} (hl : l.length ≤ 1000) (hc : ∀ x ∈ l,opT x = true → 0 ≤ x.c ∧ x.c < l.length)
  (hQ : ∀ E L,L = [.row 155 ((blkL l).flatMap encB)] → Has E [(3,.slc 0 0 (blkL l).length (blkL l).length)] → Q .norm E L)
  {E : PEnv} {L : List LObj} (h : RlJ l (blkL l).length E L) : PC FD XA XN 0 (dSq 1 (hSq (dSq 3 ir72.body))) Q E L := by
 have hb : big l.length := by unfold big; omega
 simp [ir72,hSq,dSq]
 refine PW_ok _ ?_
 simp
 refine PCl (RlJ l) ?_ (k := (blkL l).length) h
 clear h
 rintro m E L ⟨k,hkm,rfl,⟨e0,e3,e5, -⟩⟩
 have hlen := blkL_len (l := l)
 by_cases hk : k < (allB (leadL l) l.length).length
 case neg =>
  have hke : k = (allB (leadL l) l.length).length := by omega
  subst hke
  rw [cells_blkL]
  simp [e0,e3,e5]
  exact hQ _ _ rfl (by simp [e3,hlen])
 have hle := allB_ok (f := leadL l) (n := l.length)
 have hnx : nxA l k = (blkAt l (allB (leadL l) l.length) k).next := rfl
 generalize hnk : nxA l k = nx at *
 have hset := cellsN_set (nx := nxA l) (k := k) (allB (leadL l) l.length) 0 k (by omega) hk
 rw [hnk] at hset
 have hcl := cellsN_len (nx := nxA l) (k := k) (allB (leadL l) l.length) 0
 have hni := cellsN_noId (nx := nxA l) (k := k) (allB (leadL l) l.length) 0
 have hnlc := cellsN_nl (nx := nxA l) (k := k) (allB (leadL l) l.length) 0
 obtain ⟨x,hx⟩ : ∃ x,(allB (leadL l) l.length)[k]? = some x := ⟨_,List.getElem?_eq_getElem hk⟩
 obtain ⟨hg1,hg2⟩ := cellsN_get (nx := nxA l) (k := k) (allB (leadL l) l.length) 0 k x hx
 have hgall := fun j z hz => (cellsN_get (nx := nxA l) (k := k) (allB (leadL l) l.length) 0 j z hz).1
 have hnilc := cellsN_nil (nx := nxA l) (k := k) (allB (leadL l) l.length) 0 k (by omega) hk
 have hx1 := hle.1 x (List.mem_of_getElem? hx)
 obtain ⟨y,hy⟩ : ∃ y,l[x.2 - 1]? = some y := ⟨_,List.getElem?_eq_getElem (by omega)⟩
 have hny : nx = nextB (leadL l) k y := by rw [hnx]; unfold blkAt; rw [hx]; simp only [hy]
 have hym := List.mem_of_getElem? hy
 have hyc := hc y hym
 have hyi : x.2 - 1 < l.length := by omega
 have hcut := cutI hyi
 have hyg : l[x.2 - 1] = y := by rw [List.getElem?_eq_getElem hyi] at hy; simpa using hy
 rw [hyg] at hcut
 have hkl : k ≤ 1000 := by omega
 have hat : ∀ c : Nat,c < l.length → leadL l c = true → PPd (.fn 137 [] []) [.fz 155 (allB (leadL l) l.length).length (cellsN (nxA l) k 0 (allB (leadL l) l.length)),pin c] (pin (numB (leadL l) c)) := fun c hcc hll =>
  at_ok (by omega) hcl hgall hni (at_num hcc hll).1 (at_num hcc hll).2
 have hatg : ∀ (c : Nat) (cs' : List PV),c < l.length → leadL l c = true → cs'.length = (allB (leadL l) l.length).length * 3 → (∀ j,cs'[j * 3]? = (cellsN (nxA l) k 0 (allB (leadL l) l.length))[j * 3]?) → noIdL cs' = true → PPd (.fn 137 [] []) [.fz 155 (allB (leadL l) l.length).length cs',pin c] (pin (numB (leadL l) c)) := fun c cs' hcc hll h1 h2 h3 =>
  at_ok (by omega) h1 (fun j z hz => by rw [h2]; exact hgall j z hz) h3 (at_num hcc hll).1 (at_num hcc hll).2
 have hltt : ∀ c : Nat,opT y = true → y.c = (c : Int) → leadL l c = true := fun c => lead_target hym
 have go : ∀ {E' : PEnv} {L' : List LObj} {p : PV},E'.get 0 = some (recs 65 encI l) → E'.get 3 = some (.slc 0 0 (allB (leadL l) l.length).length (allB (leadL l) l.length).length) →
   E'.get 5 = some (pin (k + 1 : Nat)) → L'[0]? = some (.row 155 ((cellsN (nxA l) k 0 (allB (leadL l) l.length)).set (k * 3 + 2) p)) → Vw [0] L' p (ints 3 nx) → GoOn (RlJ l) m E' L' := by
  intro E' L' p a0 a3 a5 h0 hp
  refine GoOn.keep [0] [(0,recs 65 encI l),(3,.slc 0 0 (allB (leadL l) l.length).length (allB (leadL l) l.length).length),(5,pin (k + 1 : Nat))]
   (L' := [.row 155 (cellsN (nxA l) (k + 1) 0 (allB (leadL l) l.length))]) (m - 1) (by omega) (by simp) (by simpa using (List.getElem?_eq_some_iff.1 h0).1)
   (.cons ⟨_,h0,.row (by rw [← hset]; exact F2.set (VwL.same hni) hp)⟩ .nil) ?_ ⟨k + 1,by omega,rfl,Has.env (by simp)⟩
  simp only [HasV_cons,HasV_nil,and_true]
  exact ⟨⟨_,a0,.same (by simp)⟩,⟨_,a3,.slc rfl⟩,⟨_,a5,.same rfl⟩⟩
 generalize allB (leadL l) l.length = o at *
 generalize hcs : cellsN (nxA l) k 0 o = cs at *
 have hclen := hcl
 have hki : (k : Int) < (o.length : Int) := by omega
 have hw : IntKind.wrap .i64 ((k : Int) + 1) = (k : Int) + 1 := wrap64 (by omega) (by omega)
 have hxe : encI y = [pin y.op,pin y.a,pin y.b,pin y.c,pin y.d,pstr y.text,ints 3 y.list] := rfl
 obtain ⟨b,hbx⟩ : ∃ b : Nat,x.2 = b + 1 := ⟨x.2 - 1,by omega⟩
 rw [hbx] at hg2 hcut hyi
 simp only [Nat.add_sub_cancel] at hcut hyi
 have hws : IntKind.wrap .i64 (b : Int) = (b : Int) := wrap64 (by omega) (by omega)
 have hlc : k * 3 + 1 < cs.length := by omega
 have hlc2 : k * 3 + 2 < cs.length := by omega
 rw [hxe] at hcut
 have hvw : ∀ {L' : List LObj} {c : Nat},L'[0]? = some (.row 155 cs) → VwL [] L' [.slc 0 0 o.length o.length,pin c] [.fz 155 o.length cs,pin c] := fun {L' c} h0 =>
  .cons (.fzs (cs'' := cs) (by simp) (by unfold prow; rw [h0]) hnlc (by simp) (by simp) rfl (fun i h h' => .same (nIg hni i h))) (.cons (.same rfl) .nil)
 by_cases h22 : y.op = 22
 ·have hs : nx = [] := by rw [hny]; unfold nextB; rw [if_pos h22]
  simp [e0,e3,e5,hk,hki,hw,hg1,hg2,hws,hcut,recs,ints,hyi,h22]
  exact go (p := nilS) (by simp [e0,recs]) (by simp [e3]) (by simp) (by simp [set_self hnilc]) (by rw [hs]; exact .nil)
 by_cases h19 : y.op = 19
 ·obtain ⟨c,hcn⟩ : ∃ c : Nat,y.c = c := ⟨y.c.toNat,by have := hyc (by simp [opT,h19]); omega⟩
  have hcl := hyc (by simp [opT,h19])
  rw [hcn] at hcl
  have hs : nx = [((numB (leadL l) c : Nat) : Int)] := by rw [hny]; unfold nextB; rw [if_neg h22,if_pos h19,hcn,Int.toNat_natCast]
  have hcal := hat c (by omega) (hltt c (by simp [opT,h19]) hcn)
  rw [hcn] at hcut
  simp [e0,e3,e5,hk,hki,hw,hg1,hg2,hws,hcut,recs,ints,hyi,h22,h19,hlc2]
  unfold PFk
  refine PP.roc hcal (.same rfl) (hvw rfl) (by simp [noId,hni]) rfl rfl rfl false ?_
  simp [e0,e3,e5,hk,hki,hw,hlc2]
  exact go (p := .slc 2 0 1 1) (by simp [e0,recs]) (by simp [e3]) (by simp) (by simp) (by rw [hs]; exact .fzs (cs'' := [pin (numB (leadL l) c : Nat)]) (by simp) rfl (by simp) (by simp) rfl rfl (fun j a b => .same (nIg (l := [pin (numB (leadL l) c : Nat)]) rfl j a)))
 have hk1 : ((k + 1 : Nat) : Int) = (k : Int) + 1 := by omega
 by_cases h20 : y.op = 20
 ·obtain ⟨c,hcn⟩ : ∃ c : Nat,y.c = c := ⟨y.c.toNat,by have := hyc (by simp [opT,h20]); omega⟩
  have hcl := hyc (by simp [opT,h20])
  rw [hcn] at hcl
  have hcal := hatg c (cs.set (k * 3 + 2) (ints 3 [((k + 1 : Nat) : Int)])) (by omega) (hltt c (by simp [opT,h20]) hcn) (by rw [List.length_set]; exact hclen) (fun j => by rw [List.getElem?_set_ne (by omega)]) (noIdL_set hni (by simp))
  rw [hcn] at hcut
  have hv1 : ∀ {L' : List LObj},L'[2]? = some (.row 3 [pin (k + 1 : Nat)]) → Vw [] L' (.slc 2 0 1 1) (ints 3 [((k + 1 : Nat) : Int)]) := fun {L'} h2 =>
   .fzs (cs'' := [pin (k + 1 : Nat)]) (by simp) (by unfold prow; rw [h2]) (by simp) (by simp) rfl rfl (fun j a b => .same (nIg (l := [pin (k + 1 : Nat)]) rfl j a))
  have hvw2 : ∀ {L' : List LObj},L'[0]? = some (.row 155 (cs.set (k * 3 + 2) (.slc 2 0 1 1))) → L'[2]? = some (.row 3 [pin (k + 1 : Nat)]) → VwL [] L' [.slc 0 0 o.length o.length,pin c] [.fz 155 o.length (cs.set (k * 3 + 2) (ints 3 [((k + 1 : Nat) : Int)])),pin c] := fun {L'} h0 h2 =>
   .cons (.fzs (cs'' := cs.set (k * 3 + 2) (.slc 2 0 1 1)) (by simp) (by unfold prow; rw [h0]) (allNl_set hnlc rfl) (by simp) (List.take_of_length_le (by simp)).symm (by simp) (fun i h h' => by
    rw [List.getElem_set,List.getElem_set]
    split
    ·exact hv1 h2
    ·exact .same (nIg hni i (by simpa using h)))) (.cons (.same rfl) .nil)
  by_cases hn : numB (leadL l) c = k + 1
  ·have hs : nx = [((k + 1 : Nat) : Int)] := by rw [hny]; unfold nextB; rw [if_neg h22,if_neg h19,if_pos h20,hcn,Int.toNat_natCast,if_pos hn]
   rw [hn] at hcal
   simp [e0,e3,e5,hk,hki,hw,hg1,hg2,hws,hcut,recs,ints,hyi,h22,h19,h20,hlc2]
   unfold PFk
   refine PP.roc hcal (.same rfl) (hvw2 rfl (by simp)) (by simp [noId,noIdL_set hni]) rfl rfl rfl false ?_
   simp [e0,e3,e5,hk,hki,hw,hlc2]
   exact go (p := .slc 2 0 1 1) (by simp [e0,recs]) (by simp [e3]) (by simp) (by simp) (by rw [hs]; exact .fzs (cs'' := [pin (k + 1 : Nat)]) (by simp) rfl (by simp) (by simp) rfl rfl (fun j a b => .same (nIg (l := [pin (k + 1 : Nat)]) rfl j a)))
  ·have hs : nx = [((k + 1 : Nat) : Int),((numB (leadL l) c : Nat) : Int)] := by rw [hny]; unfold nextB; rw [if_neg h22,if_neg h19,if_pos h20,hcn,Int.toNat_natCast,if_neg hn]
   have hn' : ¬ ((numB (leadL l) c : Nat) : Int) = (k : Int) + 1 := by omega
   generalize numB (leadL l) c = nn at *
   have rr : roomy 2 8 := rmf (by omega) (by omega)
   simp [e0,e3,e5,hk,hki,hw,hg1,hg2,hws,hcut,recs,ints,hyi,h22,h19,h20,hlc2]
   unfold PFk
   refine PP.roc hcal (.same rfl) (hvw2 rfl (by simp)) (by simp [noId,noIdL_set hni]) rfl rfl rfl false ?_
   simp [e0,e3,e5,hk,hki,hw,hlc2,hn',rr]
   exact go (p := .slc 4 0 2 2) (by simp [e0,recs]) (by simp [e3]) (by simp) (by simp) (by rw [hs]; exact .fzs (cs'' := [pin (k + 1 : Nat),pin (nn : Nat)]) (by simp) rfl (by simp) (by simp) rfl rfl (fun j a b => .same (nIg (l := [pin (k + 1 : Nat),pin (nn : Nat)]) rfl j a)))
 have hs : nx = [((k + 1 : Nat) : Int)] := by rw [hny]; unfold nextB; rw [if_neg h22,if_neg h19,if_neg h20]
 simp [e0,e3,e5,hk,hki,hw,hg1,hg2,hws,hcut,recs,ints,hyi,h22,h19,h20,hlc2]
 exact go (p := .slc 2 0 1 1) (by simp [e0,recs]) (by simp [e3]) (by simp) (by simp) (by rw [hs]; exact .fzs (cs'' := [pin (k + 1 : Nat)]) (by simp) rfl (by simp) (by simp) rfl rfl (fun j a b => .same (nIg (l := [pin (k + 1 : Nat)]) rfl j a)))
theorem refblocks_ok {l : List FIns} (hl : l.length ≤ 1000) (hc : ∀ x ∈ l,opT x = true → 0 ≤ x.c ∧ x.c < l.length) : PPd (.fn 72 [] []) [recs 65 encI l] (blks 155 (blkL l)) := by
 refine PPc rfl rfl rfl (by simp) (by simp [noId]) (by simp) ?_
 have hres : ir72.results = [.tmp 2] := rfl
 unfold ir72
 refine PCq (PW_ok _ ?_)
 simp
 refine PCq (PW_ok _ ?_)
 simp
 refine PCq (PCq (PW_ok _ ?_))
 simp
 refine PC.abs (Abs.keep [0] [(0,recs 65 encI l),(3,.slc 0 0 0 0),(4,pin (0 : Nat))] (L' := [.row 155 []]) (by simp) (by simp) (.cons ⟨_,rfl,.row .nil⟩ .nil) ?_) ?_
 ·simp [recs]
  exact ⟨.same (by simp [noId]),.slc rfl,.same rfl⟩
 refine refblock_loop hl ?_ ⟨0,by omega,by simp [allB],Has.env (by simp [allB])⟩
 rintro E L rfl ⟨e0,e3, -⟩
 simp
 refine PCq (PCq (PW_ok _ ?_))
 simp [e0,e3]
 refine PC.abs (Abs.keep [0] [(0,recs 65 encI l),(3,.slc 0 0 (allB (leadL l) l.length).length (allB (leadL l) l.length).length),(5,pin (0 : Nat))]
  (L' := [.row 155 (cellsN (nxA l) 0 0 (allB (leadL l) l.length))]) (by simp) (by simp) (.cons ⟨_,rfl,.row (by rw [cellsN_hi _ _ (Nat.le_refl _)]; exact VwL.same (by simp))⟩ .nil) ?_) ?_
 ·simp [recs,e0,e3]
  exact ⟨.same (by simp [noId]),.slc rfl,.same rfl⟩
 refine reflink_loop hl hc ?_ ⟨0,by rw [blkL_len]; omega,rfl,Has.env (by simp)⟩
 clear e0 e3
 rintro E L rfl ⟨e3, -⟩
 simp
 refine PW_ok _ ?_
 simp [e3]
 exact Vw.frz rfl (by simp) (by simp) rfl
def blocksS (c : FCode) (body : Int) : List Blk := if errS c body = 0 then ((c.bodies[body.toNat]?).map fun b => blkL b.code).getD [] else []
theorem targets_ok {c : FCode} {b : FBody} (hb : OkB c b) : ∀ x ∈ b.code,opT x = true → 0 ≤ x.c ∧ x.c < b.code.length := by
 intro x hx ht
 obtain ⟨k,hk,rfl⟩ := List.getElem_of_mem hx
 refine succ_ok hb hk _ ?_
 simp only [opT,Bool.or_eq_true,decide_eq_true_eq] at ht
 rcases ht with h | h <;> simp [succI,h]
theorem errS_zero {c : FCode} {body : Int} (he : errS c body = 0) : checkS c = 0 ∧ ∃ k : Nat,body = k ∧ k < c.bodies.length := by
 have h0 : checkS c = 0 := by
  unfold errS at he
  by_cases h : checkS c = 0
  ·exact h
  ·rw [if_pos h] at he; exact absurd he h
 refine ⟨h0, ?_⟩
 have hbd : 0 ≤ body ∧ body < c.bodies.length := by
  unfold errS at he
  rw [if_neg (by simp [h0])] at he
  split at he
  ·omega
  ·omega
 exact ⟨body.toNat,by omega,by omega⟩
theorem pblocks_ok {c : FCode} {body : Int} (hc : OkC c) (hs : ∀ b ∈ c.bodies,b.code.length ≤ 1000) : PPd (.fn 15 [] []) [.agg (encC c),pin body] (.tup [blks 143 (blocksS c body),pin (errS c body)]) := by
 refine PPc rfl rfl rfl (by simp) (by simp [noId]) (by simp [noId,noIdL]) ?_
 have hres : ir15.results = [.tmp 4,.tmp 5] := rfl
 have hcc : cut (encC c) 0 2 = encC c := rfl
 by_cases he : errS c body = 0
 case neg =>
  have hls : blocksS c body = [] := by simp [blocksS,he]
  rw [hls]
  refine PCq (PW_ok _ ?_)
  simp
  refine PCq (PW_ok _ ?_)
  simp [hcc]
  refine (given_err hc he).runk ?_
  have hps : psl [PV.v (S []),PV.v (I 0),PV.v (I 0),PV.v (.slice none 0 0)] 0 zeroBo = zeroBo := psplice_full rfl
  have hl : zeroBo.length = 4 := rfl
  have ho : allOne zeroBo := by simp [zeroBo]
  simp [hps,hl,ho]
  refine PCq (PCq (PW_ok _ ?_))
  simp [he]
  refine PW_ok _ ?_
  simp [he,hres]
  exact .tup rfl (fun j a b => by
   match j,a,b with
   | 0,_,_ => exact .nil
   | 1,_,_ => exact .same rfl)
 obtain ⟨h0,k,rfl,hk⟩ := errS_zero he
 have hls : blocksS c (k : Int) = blkL c.bodies[k].code := by simp [blocksS,he,hk]
 have hg := given_ok hc h0 hk
 have hob := okB_of h0 hk
 have hsk := hs _ (List.getElem_mem hk)
 have htg := targets_ok hob
 rw [hls,he]
 generalize c.bodies[k] = b at *
 have hps : psl [PV.v (S []),PV.v (I 0),PV.v (I 0),PV.v (.slice none 0 0)] 0 (encBo b) = encBo b := psplice_full rfl
 have hl : (encBo b).length = 4 := rfl
 have ho : allOne (encBo b) := by simp [encBo,recs,allOne_cons,allOne_nil,pone]
 refine PCq (PW_ok _ ?_)
 simp
 refine PCq (PW_ok _ ?_)
 simp [hcc]
 refine hg.runk ?_
 simp [hps,hl,ho]
 refine PCq (PCq (PW_ok _ ?_))
 simp
 have hbo : encBo b = [pstr b.name,pin b.regs,pin b.args,recs 65 encI b.code] := rfl
 rw [hbo]
 refine PW_ok _ ?_
 simp
 refine PW_ok _ ?_
 simp [recs]
 refine (blocks_ok hsk htg).runk ?_
 simp [hres]
 exact .same (by simp [noId,noIdL,blks,recs])
theorem rblocks_ok {c : FCode} {body : Int} (hc : OkC c) (hs : ∀ b ∈ c.bodies,b.code.length ≤ 1000) : PPd (.fn 16 [] []) [.agg (encC c),pin body] (.tup [blks 155 (blocksS c body),pin (errS c body)]) := by
 refine PPc rfl rfl rfl (by simp) (by simp [noId]) (by simp [noId,noIdL]) ?_
 have hres : ir16.results = [.tmp 4,.tmp 5] := rfl
 have hcc : cut (encC c) 0 2 = encC c := rfl
 refine PCq (PW_ok _ ?_)
 simp
 refine PCq (PCq (PW_ok _ ?_))
 simp [hcc]
 refine (checkBody_ok hc).runk ?_
 simp
 refine PCq (PW_ok _ ?_)
 simp
 by_cases he : errS c body = 0
 case neg =>
  have hls : blocksS c body = [] := by simp [blocksS,he]
  rw [hls]
  refine PW_ok _ ?_
  simp [he]
  simp [he,hres]
  exact .tup rfl (fun j a b => by
   match j,a,b with
   | 0,_,_ => exact .nil
   | 1,_,_ => exact .same rfl)
 obtain ⟨h0,k,rfl,hk⟩ := errS_zero he
 have hls : blocksS c (k : Int) = blkL c.bodies[k].code := by simp [blocksS,he,hk]
 have hob := okB_of h0 hk
 have hsk := hs _ (List.getElem_mem hk)
 have htg := targets_ok hob
 have hcut := cutBo hk
 have hki : (k : Int) < c.bodies.length := by omega
 have hco : encC c = [pin c.globals,recs 61 encBo c.bodies] := rfl
 rw [hls,he]
 refine PW_ok _ ?_
 simp
 refine PW_ok _ ?_
 rw [hco]
 have hbo : encBo c.bodies[k] = [pstr c.bodies[k].name,pin c.bodies[k].regs,pin c.bodies[k].args,recs 65 encI c.bodies[k].code] := rfl
 generalize c.bodies[k] = b at *
 rw [hbo] at hcut
 simp [recs,hk,hki,hcut]
 refine (refblocks_ok hsk htg).runk ?_
 simp [hres]
 exact .same (by simp [noId,noIdL,blks,recs])
theorem eqBlock_ok {a : Blk} (hb : big a.next.length) : PPd (.fn 87 [] []) [.agg (encB a),.agg (encB a)] (pbool true) := by
 refine PPc rfl rfl rfl (by simp) (by simp) (by simp) (PW_ok _ ?_)
 simp [ir87,encB,ints]
 refine (eqInts_ok (t := 3) (t' := 3) (a := a.next) (b := a.next) hb).runk ?_
 simp
 exact .same rfl
def EqBJ (ls : List Blk) (m : Nat) (E : PEnv) (L : List LObj) : Prop := ∃ i : Nat,i + m = ls.length ∧ L = [] ∧ Has E [(1,blks 155 ls),(2,.fn 87 [] []),(15,blks 143 ls),(16,pin ls.length),(17,pin i)]
theorem eqBlocks_ok {ls : List Blk} (hb : big ls.length) (hl : ∀ a ∈ ls,big a.next.length) : PPd (.fn 86 [] []) [blks 143 ls,blks 155 ls,.fn 87 [] []] (pbool true) := by
 refine PPc rfl rfl rfl (by simp) (by simp [recs]) (by simp) (PW_ok _ ?_)
 simp [ir86,blks,recs]
 refine PCl (EqBJ ls) ?_ (k := ls.length) ⟨0,by omega,rfl,by simp [blks,recs]⟩
 rintro m E L ⟨i,him,rfl,⟨e1,e2,e15,e16,e17, -⟩⟩
 by_cases hi : i < ls.length
 ·have hcut := cutB hi
  have h1 := hl _ (List.getElem_mem hi)
  simp [e1,e2,e15,e16,e17,hi,blks,recs,ints,hcut]
  refine (eqBlock_ok h1).runk ?_
  simp [e1,e2,e15,e16,e17,wnc hi hb]
  refine GoOn.drop [(1,blks 155 ls),(2,.fn 87 [] []),(15,blks 143 ls),(16,pin ls.length),(17,pin (i + 1 : Nat))] (m - 1) (by omega) ?_ ⟨i + 1,by omega,rfl,Has.env (by simp)⟩
  simp only [HasV_cons,HasV_nil,and_true]
  exact ⟨⟨_,by simp [e1],.same (by simp)⟩,⟨_,by simp [e2],.same (by simp)⟩,⟨_,by simp [e15],.same (by simp)⟩,⟨_,by simp [e16],.same rfl⟩,⟨_,by simp,.same rfl⟩⟩
 ·have hie : i = ls.length := by omega
  subst hie
  simp [e1,e2,e15,e16,e17]
  exact .same rfl
theorem lawBlocks_ok {ls : List Blk} (hb : big ls.length) (hl : ∀ a ∈ ls,big a.next.length) : PPd (.fn 21 [] []) [blks 143 ls,blks 155 ls] (pbool true) := by
 refine PPc rfl rfl rfl (by simp) (by simp [recs]) (by simp) (PW_ok _ ?_)
 simp [ir21]
 refine (eqBlocks_ok hb hl).runk ?_
 simp
 exact .same rfl
def isCall (x : FIns) : Bool := decide (x.op = 21) || decide (x.op = 27)
def callL (l : List FIns) : List Int := l.foldl (fun a x => if isCall x then putL a x.b else a) []
theorem callL_succ {l : List FIns} {k : Nat} (hk : k < l.length) : callL (l.take (k + 1)) = if isCall l[k] then putL (callL (l.take k)) l[k].b else callL (l.take k) := by
 unfold callL
 rw [List.take_succ_eq_append_getElem hk,List.foldl_append]
 rfl
theorem callL_len {l : List FIns} : ∀ {k : Nat},k ≤ l.length → (callL (l.take k)).length ≤ k := by
 intro k
 induction k with
 | zero => intro _; simp [callL]
 | succ k ih =>
  intro hk
  have := ih (by omega)
  rw [callL_succ (by omega)]
  split
  ·have := putL_len (l := callL (l.take k)) (n := (l[k]'(by omega)).b); omega
  ·omega
def lists2 (t : TypeId) (ls : List (List Int)) : PV := .fz t ls.length (ls.map (ints 3))
@[simp] theorem lists2_noId {t : TypeId} {ls : List (List Int)} : noId (lists2 t ls) = true := by simp [lists2,noId]
def callLs (c : FCode) : List (List Int) := c.bodies.map fun b => callL b.code
def callsS (c : FCode) : List (List Int) := if checkS c = 0 then callLs c else []
theorem callLs_len {c : FCode} : (callLs c).length = c.bodies.length := by simp [callLs]
theorem callLs_take {c : FCode} {i : Nat} (hi : i < c.bodies.length) : ((callLs c).map (ints 3)).take (i + 1) = ((callLs c).map (ints 3)).take i ++ [ints 3 (callL c.bodies[i].code)] := by
 rw [List.take_succ_eq_append_getElem (by rw [List.length_map,callLs_len]; exact hi)]
 simp [callLs]
def RcJ (c : FCode) (m : Nat) (E : PEnv) (L : List LObj) : Prop := ∃ i : Nat,i + m = c.bodies.length ∧ L = [.row 41 (((callLs c).map (ints 3)).take i)] ∧
 Has E [(1,.fp (encC c)),(5,.slc 0 0 i i),(6,pin i)]
def RcJ2 (c : FCode) (i : Nat) (l : List FIns) (m : Nat) (E : PEnv) (L : List LObj) : Prop := ∃ k : Nat,k + m = l.length ∧ L = [.row 41 (((callLs c).map (ints 3)).take i)] ∧
 Has E [(1,.fp (encC c)),(5,.slc 0 0 i i),(6,pin i),(7,ints 3 (callL (l.take k))),(8,pin k)]
theorem rcalls_ok {c : FCode} (hc : OkC c) (hs : ∀ b ∈ c.bodies,b.code.length ≤ 1000) : PPd (.fn 20 [] []) [.agg (encC c)] (.tup [lists2 41 (callsS c),pin (checkS c)]) := by
 refine PPc rfl rfl rfl (by simp) (by simp [noId]) (by simp [noId,noIdL]) ?_
 have hres : ir20.results = [.tmp 2,.tmp 3] := rfl
 have hcc : cut (encC c) 0 2 = encC c := rfl
 refine PCq (PW_ok _ ?_)
 simp
 refine PCq (PCq (PW_ok _ ?_))
 simp [hcc]
 refine (checkR_ok hc).runk ?_
 simp
 refine PCq (PW_ok _ ?_)
 simp
 by_cases he : checkS c = 0
 case neg =>
  have hls : callsS c = [] := by simp [callsS,he]
  rw [hls]
  refine PW_ok _ ?_
  simp [he]
  simp [he,hres]
  exact .tup rfl (fun j a b => by
   match j,a,b with
   | 0,_,_ => exact .nil
   | 1,_,_ => exact .same rfl)
 have hls : callsS c = callLs c := by simp [callsS,he]
 rw [hls,he]
 refine PW_ok _ ?_
 simp
 refine PCq (PW_ok _ ?_)
 simp
 refine PCq (PCq (PW_ok _ ?_))
 simp
 refine PC.abs (Abs.keep [1] [(1,.fp (encC c)),(5,.slc 0 0 0 0),(6,pin (0 : Nat))] (L' := [.row 41 []]) (by simp) (by simp) (.cons ⟨_,rfl,.row .nil⟩ .nil) ?_) ?_
 ·simp
  exact ⟨.fzp (cs'' := encC c) (by simp) rfl (by simp) (by simp) (List.take_of_length_le (by simp)).symm rfl (fun j a b => .same (nIg (by simp) j a)),.slc rfl,.same rfl⟩
 refine PW_ok _ ?_
 simp
 have hbB : c.bodies.length ≤ 1000000 := hc.bodies
 have hco : encC c = [pin c.globals,recs 61 encBo c.bodies] := rfl
 refine PCl (RcJ c) ?_ (k := c.bodies.length) ⟨0,by omega,by simp,Has.env (by simp)⟩
 rintro m E L ⟨i,him,rfl,⟨e1,e5,e6, -⟩⟩
 by_cases hi : i < c.bodies.length
 case neg =>
  have hie : i = c.bodies.length := by omega
  subst hie
  rw [List.take_of_length_le (by simp [callLs_len])]
  rw [hco] at e1
  simp [e1,e5,e6,recs]
  refine PW_ok _ ?_
  simp [e5,hres]
  exact .tup rfl (fun j a b => by
   match j,a,b with
   | 0,_,_ => exact Vw.frz rfl (by simp [ints]) (by simp) (by simp [lists2,callLs_len])
   | 1,_,_ => exact .same rfl)
 have hi' : (i : Int) < (c.bodies.length : Int) := by omega
 have hsi := hs _ (List.getElem_mem hi)
 have hcut := cutBo hi
 have htk := callLs_take hi
 have hwi : IntKind.wrap .i64 ((i : Int) + 1) = (i : Int) + 1 := wrap64 (by omega) (by omega)
 have hbo : encBo c.bodies[i] = [pstr c.bodies[i].name,pin c.bodies[i].regs,pin c.bodies[i].args,recs 65 encI c.bodies[i].code] := rfl
 have rr : roomy (i + 1) 24 := rmf (by omega) (by omega)
 have hle : i ≤ (callLs c).length := by rw [callLs_len]; omega
 generalize c.bodies[i] = b at *
 rw [hbo] at hcut
 rw [hco] at e1
 simp [e1,e5,e6,recs,hi,hi',hcut]
 refine PC.abs (Abs.keep [0] [(1,.fp (encC c)),(5,.slc 0 0 i i),(6,pin i),(7,ints 3 (callL (b.code.take 0))),(8,pin (0 : Nat))] (L' := [.row 41 (((callLs c).map (ints 3)).take i)]) (by simp) (by simp) (.cons ⟨_,rfl,.row (VwL.same (noIdL_take (by simp)))⟩ .nil) ?_) ?_
 ·rw [hco]
  simp [e1,e5,e6,recs,callL]
  exact ⟨.same (by simp [noId,noIdL]),.slc rfl,.same rfl,.fzs (t := 3) (cs'' := []) (by simp) rfl (by simp) (by simp) rfl rfl (fun j a b => by simp at a),.same rfl⟩
 refine PCl (RcJ2 c i b.code) ?_ (k := b.code.length) ⟨0,by omega,rfl,Has.env (by simp)⟩
 clear e1 e5 e6
 rintro m2 E L ⟨k,hkm,rfl,⟨e1,e5,e6,e7,e8, -⟩⟩
 rw [hco] at e1
 have hcl := callL_len (l := b.code) (k := k) (by omega)
 by_cases hk : k < b.code.length
 case neg =>
  have hke : k = b.code.length := by omega
  subst hke
  rw [List.take_length] at e7
  have hfz : PV.fz 3 (callL b.code).length ((callL b.code).map pin) = ints 3 (callL b.code) := rfl
  simp [e1,e5,e6,e7,e8,recs,ints,hi,hi',hcut,hwi,rr,hle]
  refine GoOn.keep [2] [(1,.fp (encC c)),(5,.slc 0 0 (i + 1) (i + 1)),(6,pin (i + 1 : Nat))] (L' := [.row 41 (((callLs c).map (ints 3)).take (i + 1))]) (m - 1) (by omega) (by simp) (by simp)
   (.cons ⟨_,rfl,.row (by rw [htk,hfz]; exact VwL.same (by simp))⟩ .nil) ?_ ⟨i + 1,by omega,rfl,Has.env (by simp)⟩
  simp only [HasV_cons,HasV_nil,and_true]
  exact ⟨⟨.fp [pin c.globals,recs 61 encBo c.bodies],by simp [e1],by rw [hco]; exact .same (by simp [noId,noIdL,recs])⟩,⟨_,by simp,.slc rfl⟩,⟨_,by simp,.same rfl⟩⟩
 have hcut2 := cutI hk
 have hstep := callL_succ hk
 have hk' : (k : Int) < (b.code.length : Int) := by omega
 have hwk : IntKind.wrap .i64 ((k : Int) + 1) = (k : Int) + 1 := wrap64 (by omega) (by omega)
 have hxe : encI b.code[k] = [pin b.code[k].op,pin b.code[k].a,pin b.code[k].b,pin b.code[k].c,pin b.code[k].d,pstr b.code[k].text,ints 3 b.code[k].list] := rfl
 have go : ∀ {E' : PEnv} {L' : List LObj},E'.get 1 = some (.fp (encC c)) → E'.get 5 = some (.slc 0 0 i i) → E'.get 6 = some (pin i) → E'.get 7 = some (ints 3 (callL (b.code.take (k + 1)))) → E'.get 8 = some (pin (k + 1 : Nat)) → L'[0]? = some (.row 41 (((callLs c).map (ints 3)).take i)) → GoOn (RcJ2 c i b.code) m2 E' L' := by
  intro E' L' a1 a5 a6 a7 a8 h0
  refine GoOn.keep [0] [(1,.fp (encC c)),(5,.slc 0 0 i i),(6,pin i),(7,ints 3 (callL (b.code.take (k + 1)))),(8,pin (k + 1 : Nat))] (L' := [.row 41 (((callLs c).map (ints 3)).take i)]) (m2 - 1) (by omega) (by simp) (by simpa using (List.getElem?_eq_some_iff.1 h0).1)
   (.cons ⟨_,h0,.row (VwL.same (noIdL_take (by simp)))⟩ .nil) ?_ ⟨k + 1,by omega,rfl,Has.env (by simp)⟩
  simp only [HasV_cons,HasV_nil,and_true]
  exact ⟨⟨_,a1,.same (by simp [noId])⟩,⟨_,a5,.slc rfl⟩,⟨_,a6,.same rfl⟩,⟨_,a7,.same (by simp)⟩,⟨_,a8,.same rfl⟩⟩
 generalize b.code[k] = x at *
 rw [hxe] at hcut2
 by_cases hx : isCall x = true
 ·rw [if_pos hx] at hstep
  have hx2 : x.op = 21 ∨ x.op = 27 := by simpa [isCall] using hx
  have hput := put_ok (l := callL (b.code.take k)) (n := x.b) (by omega)
  rw [← hstep] at hput
  rcases hx2 with h | h
  ·simp [e1,e5,e6,e7,e8,recs,ints,hi,hi',hcut,hk,hk',hcut2,h]
   refine hput.runk ?_
   simp [e1,e5,e6,e7,e8,hwk]
   exact go (by simp [e1,hco,recs]) (by simp [e5]) (by simp [e6]) (by simp) (by simp) (by simp)
  ·simp [e1,e5,e6,e7,e8,recs,ints,hi,hi',hcut,hk,hk',hcut2,h]
   refine hput.runk ?_
   simp [e1,e5,e6,e7,e8,hwk]
   exact go (by simp [e1,hco,recs]) (by simp [e5]) (by simp [e6]) (by simp) (by simp) (by simp)
 ·rw [if_neg hx] at hstep
  have hx2 : ¬ x.op = 21 ∧ ¬ x.op = 27 := by simpa [isCall] using hx
  simp [e1,e5,e6,e7,e8,recs,ints,hi,hi',hcut,hk,hk',hcut2,hx2.1,hx2.2,hwk]
  exact go (by simp [e1,hco,recs]) (by simp [e5]) (by simp [e6]) (by simp [e7,hstep,ints]) (by simp) (by simp)
end Go.Den
/- The law: dominators of the program and of the reference agree. -/
namespace Go.Den
open Classical in
theorem reachL_getD {bs : List Blk} {no : Int} {i : Nat} : (reachL bs no).getD i false = decide (Reach bs no i) := by
 by_cases h : i < bs.length
 ·simp [reachL,List.getD_eq_getElem?_getD,h]
 ·have : ¬ Reach bs no i := fun hr => h hr.lt
  rw [List.getD_eq_getElem?_getD,List.getElem?_eq_none (by rw [reachL_len]; omega)]
  simp [this]
theorem Reach.ne {bs : List Blk} {no : Int} {i : Nat} (h : Reach bs no i) : (i : Int) ≠ no := by
 cases h with
 | zero _ h => exact fun e => h (by simpa using e.symm)
 | step _ h hn => have := succs_mem h; omega
theorem Reach.avoid {bs : List Blk} {d i : Nat} (hd : ¬ Reach bs (-1) d) (h : Reach bs (-1) i) : Reach bs d i := by
 induction h with
 | zero h1 h2 => exact .zero h1 (fun e => hd (by
   have : d = 0 := by omega
   subst this; exact .zero h1 h2))
 | @step i x r hx hn ih => exact .step ih hx fun e => hd (by
   have := Reach.step r hx hn
   rwa [e,Int.toNat_natCast] at this)
theorem domP_eq {bs : List Blk} {d b : Nat} : domP bs d b = domB bs d b := by
 unfold domP domB
 rw [reachL_getD,reachL_getD,reachL_getD]
 by_cases hb : Reach bs (-1) b
 case neg => simp [hb]
 by_cases hdb : d = b
 ·subst hdb
  have : ¬ Reach bs d d := fun h => h.ne rfl
  simp [hb,this]
 by_cases hd : Reach bs (-1) d
 ·simp [hb,hd,hdb]
 ·have := hb.avoid hd
  simp [hb,hd,hdb,this]
theorem domP_fun (bs : List Blk) : domP bs = domB bs := funext fun _ => funext fun _ => domP_eq
theorem foldl_skip {D : Nat → Nat → Bool} {b : Nat} : ∀ {l : List Nat} {x : Int},(∀ d ∈ l,d ≠ b → D d b = false) → l.foldl (idomStep D b) x = x := by
 intro l
 induction l with
 | nil => intro x _; rfl
 | cons a l ih =>
  intro x h
  rw [List.foldl_cons]
  have : idomStep D b x a = x := by
   unfold idomStep
   rw [if_neg]
   rintro ⟨h1,h2,_⟩
   rw [h a (by simp) h1] at h2; cases h2
  rw [this]
  exact ih fun d hd => h d (List.mem_cons_of_mem _ hd)
theorem doms_eq {bs : List Blk} : doms bs = domsR bs := by
 unfold doms domsR
 refine List.map_congr_left fun b hb => ?_
 unfold idomR
 rw [domP_fun]
 split
 ·rename_i h0
  subst h0
  unfold idomTo
  refine foldl_skip fun d _ hd => ?_
  unfold domB
  rw [reachL_getD,reachL_getD]
  by_cases hr : Reach bs (-1) 0
  ·have hne : bs ≠ [] := List.length_pos_iff.1 (Nat.lt_of_le_of_lt (Nat.zero_le _) hr.lt)
   have : Reach bs d 0 := .zero hne (by omega)
   simp [hd,this]
  ·simp [hr]
 ·rfl
end Go.Den
/- Text, by the reference: all of it. -/
namespace Go.Den
open IrD
attribute [local irreducible] T.get T.set
theorem blk_facts {l : List FIns} (hl : l.length ≤ 900) (hc : ∀ x ∈ l,opT x = true → 0 ≤ x.c ∧ x.c < l.length) : ∀ b ∈ blkL l,small1 b.src ∧ small1 b.to ∧ b.next.length ≤ 2 ∧ ∀ x ∈ b.next,small1 x := by
 intro b hb
 unfold blkL at hb
 obtain ⟨k,hk,rfl⟩ := List.mem_map.1 hb
 rw [List.mem_range] at hk
 have hle := allB_ok (f := leadL l) (n := l.length)
 have hnum := fun c (h : c < l.length) => numB_lt (f := leadL l) h
 obtain ⟨x,hx⟩ : ∃ x,(allB (leadL l) l.length)[k]? = some x := ⟨_,List.getElem?_eq_getElem hk⟩
 have hx1 := hle.1 x (List.mem_of_getElem? hx)
 obtain ⟨y,hy⟩ : ∃ y,l[x.2 - 1]? = some y := ⟨_,List.getElem?_eq_getElem (by omega)⟩
 have hyc := hc y (List.mem_of_getElem? hy)
 have e : blkAt l (allB (leadL l) l.length) k = ⟨x.1,x.2,nextB (leadL l) k y⟩ := by unfold blkAt; rw [hx]; simp only [hy]
 rw [e]
 have hle2 := hle.2
 refine ⟨⟨by simp,by simp; omega⟩,⟨by simp,by simp; omega⟩, ?_, ?_⟩
 ·simp only [nextB]
  split
  ·simp
  ·split
   ·simp
   ·split
    ·split <;> simp
    ·simp
 ·intro z hz
  simp only [nextB] at hz
  have hk1 : small1 ((k + 1 : Nat) : Int) := ⟨by omega,by omega⟩
  split at hz
  ·simp at hz
  ·split at hz
   ·rename_i h19
    have h1 := hyc (by simp [opT,h19])
    have h2 := hnum y.c.toNat (by omega)
    simp only [List.mem_singleton] at hz
    subst hz; exact ⟨by omega,by omega⟩
   ·split at hz
    ·rename_i h20
     have h1 := hyc (by simp [opT,h20])
     have h2 := hnum y.c.toNat (by omega)
     split at hz
     ·simp only [List.mem_singleton] at hz
      subst hz; exact hk1
     ·simp only [List.mem_cons,List.mem_nil_iff,or_false] at hz
      rcases hz with rfl | rfl
      ·exact hk1
      ·exact ⟨by omega,by omega⟩
    ·simp only [List.mem_singleton] at hz
     subst hz; exact hk1
theorem blk_okG {l : List FIns} (hl : l.length ≤ 900) (hc : ∀ x ∈ l,opT x = true → 0 ≤ x.c ∧ x.c < l.length) : OkG (blkL l) := by
 refine ⟨?_,fun b hb => by have := (blk_facts hl hc b hb).2.2.1; omega⟩
 rw [blkL_len]; have := (allB_ok (f := leadL l) (n := l.length)).2; omega
theorem blk_okT {l : List FIns} (hl : l.length ≤ 900) (hc : ∀ x ∈ l,opT x = true → 0 ≤ x.c ∧ x.c < l.length) : OkT (blkL l) (domsR (blkL l)) (lpT (blkL l) (blkL l).length) := by
 have hlen := (blk_okG hl hc).len
 refine ⟨hlen,by simp [domsR], ?_,fun b hb => ?_,fun x hx => ?_⟩
 ·unfold lpT
  rw [List.length_map]
  refine Nat.le_trans (List.length_filter_le _ _) (by simpa using hlen)
 ·obtain ⟨h1,h2,h3,h4⟩ := blk_facts hl hc b hb
  exact ⟨h1,h2,by omega,h4⟩
 ·unfold domsR at hx
  obtain ⟨k,hk,rfl⟩ := List.mem_map.1 hx
  unfold idomR
  split
  ·omega
  ·rcases idomTo_lt (domB (blkL l)) k (blkL l).length with h | ⟨j,h1,h2⟩
   ·omega
   ·omega
noncomputable def textOf (l : List FIns) : List UInt8 := txtS (blkL l) (domsR (blkL l)) (lpT (blkL l) (blkL l).length) (blkL l).length
noncomputable def textC (c : FCode) (body : Int) : List UInt8 := if errS c body = 0 then ((c.bodies[body.toNat]?).map fun b => textOf b.code).getD [] else []
theorem rtext_ok {c : FCode} {body : Int} (hc : OkC c) (hs : ∀ b ∈ c.bodies,b.code.length ≤ 900) : PPd (.fn 18 [] []) [.agg (encC c),pin body] (.tup [pstr (textC c body),pin (errS c body)]) := by
 refine PPc rfl rfl rfl (by simp) (by simp [noId]) (by simp [noId,noIdL]) ?_
 have hres : ir18.results = [.tmp 4,.tmp 5] := rfl
 have hcc : cut (encC c) 0 2 = encC c := rfl
 refine PCq (PW_ok _ ?_)
 simp
 refine PCq (PW_ok _ ?_)
 simp [hcc]
 refine (rblocks_ok hc (fun b hb => by have := hs b hb; omega)).runk ?_
 simp
 refine PCq (PW_ok _ ?_)
 simp
 by_cases he : errS c body = 0
 case neg =>
  have hls : textC c body = [] := by simp [textC,he]
  rw [hls]
  simp [he,hres]
  exact .tup rfl (fun j a b => by
   match j,a,b with
   | 0,_,_ => exact .same rfl
   | 1,_,_ => exact .same rfl)
 obtain ⟨h0,k,rfl,hk⟩ := errS_zero he
 have hob := okB_of h0 hk
 have hsk := hs _ (List.getElem_mem hk)
 have htg := targets_ok hob
 have hls : blocksS c (k : Int) = blkL c.bodies[k].code := by simp [blocksS,he,hk]
 have hlt : textC c (k : Int) = textOf c.bodies[k].code := by simp [textC,he,hk]
 rw [hls,hlt,he]
 have hG := blk_okG hsk htg
 have hT := blk_okT hsk htg
 unfold textOf
 generalize blkL c.bodies[k].code = bs at *
 simp
 refine PCq (PW_ok _ ?_)
 simp
 refine (dominatorsR_ok hG).runk ?_
 simp
 refine PCq (PW_ok _ ?_)
 simp
 refine (loopsR_ok hG).runk ?_
 simp
 refine PCq (PW_ok _ ?_)
 simp
 refine PCq (PCq (PW_ok _ ?_))
 simp
 generalize domsR bs = ds at *
 generalize lpT bs bs.length = ls at *
 refine PC.abs (Abs.dropAll [(6,blks 155 bs),(8,ints 3 ds),(9,recs 156 encL ls),(10,pstr (txtS bs ds ls 0)),(11,pin (0 : Nat))] ?_) ?_
 ·simp [txtS]
  exact ⟨.same (by simp),.same (by simp),.same (by simp [recs,noId]),.same rfl,.same rfl⟩
 refine rtext_loop hT ?_ ⟨0,by omega,rfl,Has.env (by simp)⟩
 rintro E L rfl ⟨e10, -⟩
 simp
 refine PW_ok _ ?_
 simp [e10,hres]
 exact .same (by simp [noId,noIdL])
inductive CellIs (L : List LObj) (av : List Nat) : PV → List Nat → Prop
 | nil : CellIs L av nilS []
 | slc {k : Nat} {l : List Nat} : L[k]? = some (.row 3 (l.map pn)) → k ∉ av → CellIs L av (.slc k 0 l.length l.length) l
def Dist (cells : List PV) : Prop := ∀ (i j k a b c a' b' c' : Nat),cells[i]? = some (.slc k a b c) → cells[j]? = some (.slc k a' b' c') → i = j
structure Ahead (n : Nat) (L : List LObj) (cells : List PV) (rows : Nat → List Nat) (av : List Nat) : Prop where
 box : L[1]? = some (.row 36 [.slc 0 0 n n])
 row : L[0]? = some (.row 41 cells)
 len : cells.length = n
 cell : ∀ (to : Nat) (p : PV),cells[to]? = some p → CellIs L av p (rows to)
 dist : Dist cells
theorem Ahead.mono {n : Nat} {L L' : List LObj} {cells : List PV} {rows : Nat → List Nat} {av av' : List Nat} (h : Ahead n L cells rows av) (hL : ∀ j,j < L.length → j ∉ av → L'[j]? = L[j]?) (h0 : 0 ∉ av) (h1 : 1 ∉ av) (hav : ∀ j,j < L.length → j ∉ av → j ∉ av') : Ahead n L' cells rows av' := by
 have l0 := (List.getElem?_eq_some_iff.1 h.row).1
 have l1 := (List.getElem?_eq_some_iff.1 h.box).1
 refine ⟨by rw [hL 1 l1 h1]; exact h.box,by rw [hL 0 l0 h0]; exact h.row,h.len,fun to p hp => ?_,h.dist⟩
 generalize hr : rows to = r
 have hc := h.cell to p hp
 rw [hr] at hc
 cases hc with
 | nil => exact .nil
 | slc hk hn =>
  have hl := (List.getElem?_eq_some_iff.1 hk).1
  exact .slc (by rw [hL _ hl hn]; exact hk) (hav _ hl hn)
theorem Ahead.put {n : Nat} {L L' : List LObj} {cells : List PV} {rows : Nat → List Nat} {av : List Nat} (h : Ahead n L cells rows av) {to k' : Nat} {l' : List Nat} (hto : to < n)
  (h1 : L'[1]? = L[1]?) (h0 : L'[0]? = some (.row 41 (cells.set to (.slc k' 0 l'.length l'.length)))) (hk : L'[k']? = some (.row 3 (l'.map pn))) (hk' : L.length ≤ k') (hav : k' ∉ av)
  (ho : ∀ j,j < L.length → j ≠ 0 → (∀ a b c,cells[to]? ≠ some (.slc j a b c)) → L'[j]? = L[j]?) :
  Ahead n L' (cells.set to (.slc k' 0 l'.length l'.length)) (fun t => if t = to then l' else rows t) av := by
 refine ⟨h1.trans h.box,h0,by rw [List.length_set,h.len],fun t p hp => ?_, ?_⟩
 ·by_cases ht : t = to
  ·subst ht
   rw [List.getElem?_set_self (by rw [h.len]; exact hto)] at hp
   cases hp
   simp only [if_true]
   exact .slc hk hav
  ·rw [List.getElem?_set_ne (fun e => ht e.symm)] at hp
   simp only [ht,if_false]
   generalize hr : rows t = r
   have hc := h.cell t p hp
   rw [hr] at hc
   cases hc with
   | nil => exact .nil
   | @slc k _ hk2 hn =>
    refine .slc ?_ hn
    rw [ho k (List.getElem?_eq_some_iff.1 hk2).1 ?_ ?_]
    ·exact hk2
    ·rintro rfl; rw [h.row] at hk2; cases hk2
    ·exact fun a b c hc => ht (h.dist _ _ _ _ _ _ _ _ _ hp hc)
 ·have key : ∀ (i k a b c : Nat),i ≠ to → cells[i]? = some (.slc k a b c) → k < L.length := fun i k a b c hi hp => by
   have hc := h.cell i _ hp
   generalize rows i = r at hc
   cases hc with
   | slc hk2 hn => exact (List.getElem?_eq_some_iff.1 hk2).1
  intro i j k a b c a' b' c' hi hj
  have tl : to < cells.length := by rw [h.len]; exact hto
  by_cases ei : i = to
  ·by_cases ej : j = to
   ·exact ei.trans ej.symm
   ·subst ei
    rw [List.getElem?_set_self tl] at hi
    rw [List.getElem?_set_ne (fun e => ej e.symm)] at hj
    cases hi
    have := key j _ _ _ _ ej hj
    omega
  ·rw [List.getElem?_set_ne (fun e => ei e.symm)] at hi
   by_cases ej : j = to
   ·subst ej
    rw [List.getElem?_set_self tl] at hj
    cases hj
    have := key i _ _ _ _ ei hi
    omega
   ·rw [List.getElem?_set_ne (fun e => ej e.symm)] at hj
    exact h.dist _ _ _ _ _ _ _ _ _ hi hj
structure PredOk (bs : List Blk) (b i : Nat) (rows : Nat → List Nat) : Prop where
 mem : ∀ to,to < bs.length → ∀ x,x ∈ rows to ↔ (∃ h : x < bs.length,x < b ∧ (to : Int) ∈ bs[x].next) ∨ (∃ h : x < bs.length,x = b ∧ (to : Int) ∈ bs[x].next.take i)
 len : ∀ to,(rows to).length ≤ b * 1000 + i
theorem PredOk.zero {bs : List Blk} : PredOk bs 0 0 (fun _ => []) := ⟨fun to ht x => by simp,fun _ => by simp⟩
theorem PredOk.next {bs : List Blk} {b : Nat} {rows : Nat → List Nat} (hok : OkG bs) (hb : b < bs.length) (h : PredOk bs b (bs[b].next.length) rows) : PredOk bs (b + 1) 0 rows := by
 refine ⟨fun to ht x => ?_,fun to => ?_⟩
 ·rw [h.mem to ht]
  simp only [List.take_zero,List.not_mem_nil,and_false,exists_false,or_false]
  constructor
  ·rintro (⟨h1,h2,h3⟩ | ⟨h1,rfl,h3⟩)
   ·exact ⟨h1,by omega,h3⟩
   ·exact ⟨h1,by omega,List.mem_of_mem_take h3⟩
  ·rintro ⟨h1,h2,h3⟩
   by_cases e : x = b
   ·subst e; exact .inr ⟨h1,rfl,by rw [List.take_length]; exact h3⟩
   ·exact .inl ⟨h1,by omega,h3⟩
 ·have h1 := h.len to
  have h2 := hok.next _ (List.getElem_mem hb)
  rw [Nat.succ_mul]
  clear h hok
  generalize b * 1000 = z at h1 ⊢
  generalize (1000 : Nat) = w at h2 ⊢
  omega
theorem PredOk.skip {bs : List Blk} {b i : Nat} {rows : Nat → List Nat} (hb : b < bs.length) (hi : i < bs[b].next.length) (h : PredOk bs b i rows) (hs : inG bs.length bs[b].next[i] = false) : PredOk bs b (i + 1) rows := by
 refine ⟨fun to ht x => ?_,fun to => by have := h.len to; omega⟩
 rw [h.mem to ht]
 refine or_congr Iff.rfl (exists_congr fun hx => and_congr_right fun e => ?_)
 subst e
 rw [List.take_succ_eq_append_getElem hi,List.mem_append]
 refine ⟨.inl,fun h => h.elim id fun h => ?_⟩
 simp at h
 rw [← h] at hs
 simp [inG,ht] at hs
theorem PredOk.add {bs : List Blk} {b i to : Nat} {rows : Nat → List Nat} (hb : b < bs.length) (hi : i < bs[b].next.length) (h : PredOk bs b i rows) (ht : bs[b].next[i] = (to : Int)) : PredOk bs b (i + 1) (fun t => if t = to then rows to ++ [b] else rows t) := by
 refine ⟨fun t htl x => ?_,fun t => ?_⟩
 ·have e : ∀ hx : x < bs.length,(x = b ∧ (t : Int) ∈ bs[x].next.take (i + 1)) ↔ (x = b ∧ (t : Int) ∈ bs[x].next.take i) ∨ (x = b ∧ t = to) := fun hx => by
   constructor
   ·rintro ⟨rfl,h'⟩
    rw [List.take_succ_eq_append_getElem hi,List.mem_append] at h'
    rcases h' with h' | h'
    ·exact .inl ⟨rfl,h'⟩
    ·simp only [List.mem_singleton] at h'; rw [ht] at h'; exact .inr ⟨rfl,by omega⟩
   ·rintro (⟨rfl,h'⟩ | ⟨rfl,rfl⟩)
    ·exact ⟨rfl,by rw [List.take_succ_eq_append_getElem hi]; exact List.mem_append_left _ h'⟩
    ·exact ⟨rfl,by rw [List.take_succ_eq_append_getElem hi]; exact List.mem_append_right _ (by simp [ht])⟩
  have hm := h.mem t htl x
  by_cases h1 : t = to
  ·subst h1
   simp only [if_true,List.mem_append,List.mem_singleton,hm]
   constructor
   ·rintro ((h | ⟨hx,h⟩) | rfl)
    ·exact .inl h
    ·exact .inr ⟨hx,(e hx).2 (.inl h)⟩
    ·exact .inr ⟨hb,(e hb).2 (.inr ⟨rfl,rfl⟩)⟩
   ·rintro (h | ⟨hx,h⟩)
    ·exact .inl (.inl h)
    ·rcases (e hx).1 h with h | ⟨h,_⟩
     ·exact .inl (.inr ⟨hx,h⟩)
     ·exact .inr h
  ·simp only [h1,if_false,hm]
   refine or_congr Iff.rfl (exists_congr fun hx => ?_)
   rw [e hx]; simp [h1]
 ·have := h.len t
  have := h.len to
  by_cases h1 : t = to
  ·subst h1; simp only [if_true,List.length_append,List.length_singleton]; omega
  ·simp only [h1,if_false]; omega
abbrev aBody : ICode := (.block 3
       (.draw [⟨(some 33),none,.load none (t 5)⟩,
        ⟨(some 34),none,.mov (t 7)⟩,
        ⟨(some 35),none,.load none (t 5)⟩,
        ⟨(some 36),none,.mov (t 7)⟩,
        ⟨(some 37),none,.indexAddr 1 (t 35) (t 36)⟩,
        ⟨(some 38),none,.load none (t 37)⟩,
        ⟨(some 39),none,.load none (t 6)⟩,
        ⟨(some 40),none,.buildSlice 3 1 [(I 0)] [(0,1,(t 39))]⟩,
        ⟨(some 41),none,.append 3 1 8 (t 38) (t 40)⟩]
        [⟨(some 42),none,.indexAddr 1 (t 33) (t 34)⟩,
        ⟨none,none,.store 1 (t 42) (t 41)⟩]))
abbrev aAs : ICode := (.ops [⟨(some 7),none,.mov (t 32)⟩])
def AhJ (bs : List Blk) (tb : TypeId) (b p : Nat) (E0 : PEnv) (i : Nat) (L : List LObj) : Prop :=
 ∃ cells rows,PredOk bs b i rows ∧ Ahead bs.length L cells rows [p,p + 1,p + 2,p + 3] ∧ L[p]? = some (.row 3 [pn b]) ∧ L[p + 1]? = some (.row 27 [blks tb bs]) ∧ L[p + 2]? = some (.row 3 [pn b]) ∧ L[p + 3]? = some (.loop E0 [32] aAs aBody 0 none)
theorem pn_wf {l : List Nat} : noIdL (l.map pn) = true := by simp [nIi]
theorem AhJ.fin {bs : List Blk} {tb : TypeId} {b p i x : Nat} {E0 : PEnv} {L L' : List LObj} {cells : List PV} {rows : Nat → List Nat} (hp : 2 ≤ p) (hx : x < bs.length) (hadd : PredOk bs b (i + 1) (fun t => if t = x then rows x ++ [b] else rows t)) (ha : Ahead bs.length L cells rows [p,p + 1,p + 2,p + 3])
  (g0 : L[p]? = some (.row 3 [pn b])) (g1 : L[p + 1]? = some (.row 27 [blks tb bs])) (g2 : L[p + 2]? = some (.row 3 [pn b])) (g3 : L[p + 3]? = some (.loop E0 [32] aAs aBody 0 none)) (kk : Nat → Prop) (hkk : ∀ j,kk j → j ∉ [p,p + 1,p + 2,p + 3]) (hk2 : ∀ j,kk j → (∃ a b c,cells[x]? = some (.slc j a b c))) (hk1 : ¬ kk 1)
  (f1 : ∀ j,j < L.length → j ≠ 0 → ¬ kk j → L'[j]? = L[j]?) (f2 : L'[0]? = some (.row 41 (cells.set x (.slc (L.length + 1) 0 ((rows x).length + 1) ((rows x).length + 1))))) (f3 : L'[L.length + 1]? = some (.row 3 ((rows x ++ [b]).map pn))) :
  AhJ bs tb b p E0 (i + 1) L' := by
 have l3 : p + 3 < L.length := (List.getElem?_eq_some_iff.1 g3).1
 refine ⟨_,_,hadd,ha.put (L' := L') (k' := L.length + 1) (l' := rows x ++ [b]) hx ?_ ?_ f3 (by omega) ?_ ?_, ?_, ?_, ?_, ?_⟩
 ·exact f1 1 (by omega) (by omega) hk1
 ·rw [f2]; simp
 ·simp; omega
 ·intro j hj h0 hne
  exact f1 j hj h0 fun hkj => by obtain ⟨a,b,c,h⟩ := hk2 j hkj; exact hne a b c h
 ·rw [f1 p (by omega) (by omega) fun h => hkk _ h (by simp)]; exact g0
 ·rw [f1 (p + 1) (by omega) (by omega) fun h => hkk _ h (by simp)]; exact g1
 ·rw [f1 (p + 2) (by omega) (by omega) fun h => hkk _ h (by simp)]; exact g2
 ·rw [f1 (p + 3) (by omega) (by omega) fun h => hkk _ h (by simp)]; exact g3
set_option linter.unusedSimpArgs false in
theorem a_yield {bs : List Blk} {tb : TypeId} {b p i : Nat} {E0 : PEnv} {L : List LObj} (hok : OkG bs) (hp : 2 ≤ p) (hb : b < bs.length) (hi : i < bs[b].next.length) (hJ : AhJ bs tb b p E0 i L) (hin : inG bs.length bs[b].next[i] = true)
  (e5 : E0.get 5 = some (.ptr 1 0)) (e6 : E0.get 6 = some (.ptr p 0)) :
  PF FD XA XN false (.yl (p + 3)) [pin bs[b].next[i]] L (fun v L' => v = pbool true ∧ AhJ bs tb b p E0 (i + 1) L') := by
 obtain ⟨cells,rows,hpr,ha,g0,g1,g2,g3⟩ := hJ
 have hin' := hin
 simp only [inG,Bool.and_eq_true,decide_eq_true_eq] at hin'
 obtain ⟨x,hx⟩ : ∃ x : Nat,bs[b].next[i] = (x : Int) := ⟨bs[b].next[i].toNat,by omega⟩
 have hxl : x < bs.length := by omega
 have hxc : x < cells.length := by rw [ha.len]; exact hxl
 have hadd := hpr.add hb hi hx
 refine PF_yield1 (E1 := E0.set 32 (pin bs[b].next[i])) (by simpa using g3) (by simp) ?_
 have b1 := ha.box
 have b0 := ha.row
 have hl := hok.len
 have hln := hok.next _ (List.getElem_mem hb)
 have hrl := hpr.len x
 have rr : roomy ((rows x).length + 1) 8 := rmf (by omega) (by omega)
 have rr1 : roomy 1 8 := rmf (by omega) (by omega)
 obtain ⟨q,hq⟩ : ∃ q,cells[x]? = some q := ⟨_,List.getElem?_eq_getElem hxc⟩
 have hq' : cells[x] = q := (List.getElem?_eq_some_iff.1 hq).2
 have hc := ha.cell x q hq
 have l3 : p + 3 < L.length := (List.getElem?_eq_some_iff.1 g3).1
 have p3 : ∀ (X : LObj) (Y : List LObj) (j : Nat),j < L.length → j ≠ p + 3 → (L.set (p + 3) X ++ Y)[j]? = L[j]? := fun X Y j hj hne => by
  rw [List.getElem?_append_left (by simpa using hj),List.getElem?_set_ne (fun e => hne e.symm)]
 have k0 : ∀ (X : LObj) (Y : List LObj) (h : 0 < (L.set (p + 3) X ++ Y).length),(L.set (p + 3) X ++ Y)[0]'h = .row 41 cells := fun X Y h => by
  have := p3 X Y 0 (by omega) (by omega)
  rw [b0,List.getElem?_eq_getElem h] at this
  exact Option.some.inj this
 generalize hrx : rows x = r at hc
 rw [hrx] at rr
 cases hc with
 | nil =>
  simp [e5,e6,hx,g3,b1,b0,g0,hxl,hxc,cut1 hxc,hq',rr1,k0]
  refine ⟨?_,AhJ.fin hp hxl hadd ha g0 g1 g2 g3 (fun _ => False) (fun j h => h.elim) (fun j h => h.elim) id ?_ ?_ ?_⟩
  ·rw [List.getElem?_append_left (by simpa using l3),List.getElem?_set_self l3]
  ·intro j hj h0 _
   by_cases hj3 : j = p + 3
   ·subst hj3
    rw [List.getElem?_set_self (by simp; omega)]; exact g3.symm
   ·rw [List.getElem?_set_ne (fun e => hj3 e.symm),List.getElem?_set_ne (fun e => h0 e.symm),p3 _ _ j hj hj3]
  ·rw [List.getElem?_set_ne (by omega),List.getElem?_set_self (by simp),hrx]; rfl
  ·rw [List.getElem?_set_ne (by omega),List.getElem?_set_ne (by omega),List.getElem?_append_right (by simp),hrx]; simp
 | @slc k _ hk hkn =>
  have hkl : k < L.length := (List.getElem?_eq_some_iff.1 hk).1
  have hk3 : k ≠ p + 3 := fun e => hkn (by simp [e])
  have hk0 : k ≠ 0 := fun e => by rw [e,b0] at hk; cases hk
  have k1 : ∀ (X : LObj) (Y : List LObj),(L.set (p + 3) X ++ Y)[k]? = some (.row 3 (r.map pn)) := fun X Y => by
   rw [p3 X Y k hkl hk3]; exact hk
  have k2 : ∀ (X Z : LObj) (Y W : List LObj) (h : 0 < ((L.set (p + 3) X ++ Y).set k Z ++ W).length),((L.set (p + 3) X ++ Y).set k Z ++ W)[0]'h = .row 41 cells := fun X Z Y W h => by
   rw [List.getElem_append_left (by simp; omega),List.getElem_set_ne hk0]
   exact k0 X Y (by simp; omega)
  simp [e5,e6,hx,g3,b1,b0,g0,hxl,hxc,cut1 hxc,hq',rr,k1,k0,k2]
  refine ⟨?_,AhJ.fin hp hxl hadd ha g0 g1 g2 g3 (fun j => j = k) (fun j h => h ▸ hkn) (fun j h => ⟨_,_,_,h ▸ hq⟩) (fun e => by rw [← e,b1] at hk; cases hk) ?_ ?_ ?_⟩
  ·rw [List.getElem?_append_left (by simp; omega),List.getElem?_set_ne (by omega),List.getElem?_set_ne hk3,List.getElem?_append_left (by simpa using l3),List.getElem?_set_self l3]
  ·intro j hj h0 hjk
   by_cases hj3 : j = p + 3
   ·subst hj3
    rw [List.getElem?_set_self (by simp; omega)]; exact g3.symm
   ·rw [List.getElem?_set_ne (fun e => hj3 e.symm),List.getElem?_append_left (by simp; omega),List.getElem?_set_ne (fun e => h0 e.symm),List.getElem?_set_ne (fun e => hjk e.symm),p3 _ _ j hj hj3]
  ·rw [List.getElem?_set_ne (by omega),List.getElem?_append_left (by simp),List.getElem?_set_self (by simp),hrx]
  ·rw [List.getElem?_set_ne (by omega),List.getElem?_append_right (by simp),hrx]; simp
theorem a_range {bs : List Blk} {tb : TypeId} {b : Nat} {E0 : PEnv} {L : List LObj} {cells : List PV} {rows : Nat → List Nat} {Q : Ex → PEnv → List LObj → Prop} (hok : OkG bs) (hb : b < bs.length) (hp : 2 ≤ L.length)
  (ha : Ahead bs.length L cells rows []) (hpr : PredOk bs b 0 rows) (e5 : E0.get 5 = some (.ptr 1 0)) (e6 : E0.get 6 = some (.ptr L.length 0)) (e31 : E0.get 31 = some (.fn 190 [] [.ptr (L.length + 1) 0,.ptr (L.length + 2) 0]))
  (hQ : ∀ cells' rows' L',PredOk bs (b + 1) 0 rows' → Ahead bs.length L' cells' rows' [] → 2 ≤ L'.length → Q .norm E0 L') :
  PC FD XA XN 0 (.rangeFunc (t 31) [32] aAs aBody) Q E0 (L ++ [.row 3 [pn b],.row 27 [blks tb bs],.row 3 [pn b]]) := by
 refine PC_rangeFunc (by simpa using e31) ?_
 refine PF.mono (following_run (t := tb) (kk := b) (J := AhJ bs tb b L.length E0) (K := AhJ bs tb b L.length E0 (bs[b].next.length)) hok hb ?_ ?_ ?_ ?_ ?_) ?_
 ·rintro i L' ⟨cells,rows,hpr,ha,g0,g1,g2,g3⟩
  exact ⟨by simp [g1],by simp [g2]⟩
 ·rintro i hi L' ⟨cells,rows,hpr,ha,g0,g1,g2,g3⟩ hin
  exact ⟨cells,rows,hpr.skip hb hi hin,ha,g0,g1,g2,g3⟩
 ·intro i hi L' hJ hin
  have := a_yield hok hp hb hi hJ hin e5 e6
  simp only [List.length_append,List.length_cons,List.length_nil]
  exact this.mono fun v L' h => .inl h
 ·exact fun L h => h
 ·refine ⟨cells,rows,hpr,ha.mono (fun j hj _ => ?_) (by simp) (by simp) (fun j hj _ => by simp; omega), ?_, ?_, ?_, ?_⟩
  ·rw [List.append_assoc,List.getElem?_append_left hj]
  ·simp
  ·simp
  ·simp
  ·simp
 ·rintro v L' ⟨cells,rows,hpr,ha,g0,g1,g2,g3⟩
  refine ⟨E0,[32],aAs,aBody,0,none,by simpa using g3,by simp, ?_⟩
  refine hQ cells rows _ (hpr.next hok hb) (ha.mono (fun j hj hn => ?_) (fun h => by simp only [List.mem_cons,List.not_mem_nil,or_false] at h; omega) (fun h => by simp only [List.mem_cons,List.not_mem_nil,or_false] at h; omega) (fun j hj _ => by simp)) (by have := (List.getElem?_eq_some_iff.1 g3).1; simp; omega)
  rw [List.getElem?_set_ne]
  rintro rfl
  simp at hn
structure AEnv (tb : TypeId) (bs : List Blk) (E : PEnv) : Prop where
 e0 : E.get 0 = some (blks tb bs)
 e3 : E.get 3 = some (blist 4 (reachL bs (-1)))
 e4 : E.get 4 = some (.fz 232 bs.length ((dRw bs).map (blist 4)))
def AJ1 (tb : TypeId) (bs : List Blk) (m : Nat) (E : PEnv) (L : List LObj) : Prop := ∃ b cells rows,b + m = bs.length ∧ PredOk bs b 0 rows ∧ Ahead bs.length L cells rows [] ∧ 2 ≤ L.length ∧ AEnv tb bs E ∧ E.get 5 = some (.ptr 1 0) ∧ E.get 25 = some (pin bs.length) ∧ E.get 26 = some (pn b)
structure Preds (bs : List Blk) (rows : Nat → List Nat) : Prop where
 mem : ∀ to,to < bs.length → ∀ x,x ∈ rows to ↔ ∃ h : x < bs.length,(to : Int) ∈ bs[x].next
 len : ∀ to,(rows to).length ≤ 1000000
theorem PredOk.all {bs : List Blk} {rows : Nat → List Nat} (hok : OkG bs) (h : PredOk bs bs.length 0 rows) : Preds bs rows := by
 refine ⟨fun to ht x => ?_,fun to => ?_⟩
 ·rw [h.mem to ht]
  constructor
  ·rintro (⟨h1,_,h2⟩ | ⟨h1,h2,_⟩)
   ·exact ⟨h1,h2⟩
   ·omega
  ·rintro ⟨h1,h2⟩; exact .inl ⟨h1,h1,h2⟩
 ·have h1 := h.len to
  have h2 := hok.len
  have : bs.length * 1000 ≤ 1000 * 1000 := Nat.mul_le_mul_right _ h2
  omega
def plist (t : TypeId) (l : List Nat) : PV := .fz t l.length (l.map pn)
def aheadV (n : Nat) (rows : Nat → List Nat) : PV := .fz 41 n ((List.range n).map fun to => plist 3 (rows to))
theorem Ahead.view {n : Nat} {L L' : List LObj} {cells : List PV} {rows : Nat → List Nat} {τ : List Nat} (h : Ahead n L cells rows []) (hτ : ∀ j o,L[j]? = some o → L'[j]? = some o ∧ j ∉ τ) : Vw τ L' (.ptr 1 0) (.fp [aheadV n rows]) := by
 obtain ⟨b1,t1⟩ := hτ _ _ h.box
 obtain ⟨b0,t0⟩ := hτ _ _ h.row
 refine .fzp (t := 36) (cs := [.slc 0 0 n n]) (cs'' := [.slc 0 0 n n]) t1 (by simp [prow,b1]) (by simp [allNl,nl]) (by simp) rfl rfl fun i h1 h2 => ?_
 have : i = 0 := by simpa using h1
 subst this
 have hn : allNl cells := by
  unfold allNl
  rw [List.all_eq_true]
  intro p hp
  obtain ⟨i,hi,e⟩ := List.getElem_of_mem hp
  have := h.cell i p (by rw [List.getElem?_eq_getElem hi,e])
  generalize rows i = r at this
  cases this <;> rfl
 refine .fzs (cs := cells) (cs'' := cells) t0 (by simp [prow,b0]) hn (by simp) (by simp) (by rw [h.len]; simp) fun i h1 h2 => ?_
 have hc := h.cell i cells[i] (List.getElem?_eq_getElem h1)
 simp only [List.getElem_map,List.getElem_range]
 generalize cells[i] = p at hc
 generalize rows i = r at hc
 cases hc with
 | nil => exact .nil
 | slc hk _ =>
  obtain ⟨b2,t2⟩ := hτ _ _ hk
  exact .fzs (cs := r.map pn) (cs'' := r.map pn) t2 (by simp [prow,b2]) (by simp [allNl,nl]) (by simp) (by rw [List.length_map,List.drop_zero,List.take_of_length_le (by simp)]) rfl fun i h1 h2 => .same (by simp)
end Go.Den
/- The law of the program's Loops. -/
namespace Go.Den
open IrD
def setM : List Nat → Nat → List (Value × PV × Nat)
 | [],_ => []
 | k :: ks,c => (.int .i64 k,pbool true,c) :: setM ks (c + 1)
theorem setM_snoc {ks : List Nat} {k : Nat} : ∀ {c : Nat},setM (ks ++ [k]) c = setM ks c ++ [(.int .i64 k,pbool true,c + ks.length)] := by
 induction ks with
 | nil => intro c; simp [setM]
 | cons a ks ih => intro c; simp only [setM,List.cons_append,ih,List.length_cons]; rw [show c + 1 + ks.length = c + (ks.length + 1) by omega]
theorem pfind_no {x : Nat} : ∀ {ks : List Nat} {c i : Nat},x ∉ ks → pfind .int (.int .i64 x) (setM ks c) i = some none := by
 intro ks
 induction ks with
 | nil => intro c i _; rfl
 | cons a ks ih =>
  intro c i h
  simp only [List.mem_cons,not_or] at h
  have : ((x : Int) == (a : Int)) = false := by simp; have := h.1; omega
  simp only [setM,pfind_cons,keyEq,if_true,this]
  exact ih h.2
theorem pfind_yes {x : Nat} : ∀ {ks : List Nat} {c i : Nat},x ∈ ks → ∃ j,pfind .int (.int .i64 x) (setM ks c) i = some (some (j,pbool true)) := by
 intro ks
 induction ks with
 | nil => intro c i h; simp at h
 | cons a ks ih =>
  intro c i h
  by_cases e : x = a
  ·subst e
   exact ⟨i,by simp [setM,pfind_cons,keyEq]⟩
  ·have : ((x : Int) == (a : Int)) = false := by simp; omega
   simp only [setM,pfind_cons,keyEq,if_true,this]
   exact ih (by simpa [e] using h)
structure LWalk (bs : List Blk) (rows : Nat → List Nat) (h : Nat) (ks st : List Nat) : Prop where
 hd : h ∈ ks
 nd : ks.Nodup
 lt : ∀ x ∈ ks,x < bs.length
 sound : ∀ x ∈ ks,InL bs h x
 stk : ∀ x ∈ st,x < bs.length ∧ (Reach bs (-1) x → InL bs h x)
 closed : ∀ x ∈ ks,x ≠ h → ∀ y ∈ rows x,Reach bs (-1) y → y ∈ ks ∨ y ∈ st
 src : ∀ y,y < bs.length → backB bs y h = true → y ∈ ks ∨ y ∈ st
 len : st.length ≤ ks.length * 1000000
theorem nodup_len {n : Nat} {l : List Nat} (h : l.Nodup) (hb : ∀ x ∈ l,x < n) : l.length ≤ n := by
 induction n generalizing l with
 | zero => cases l with
  | nil => simp
  | cons a l => exact absurd (hb a (by simp)) (by omega)
 | succ n ih =>
  have := ih (l := l.erase n) (h.erase n) fun x hx => by
   have h1 := hb x (List.mem_of_mem_erase hx)
   have h2 : x ≠ n := fun e => by subst e; exact h.not_mem_erase hx
   omega
  have h3 : l.length ≤ (l.erase n).length + 1 := by rw [List.length_erase]; split <;> omega
  omega
theorem backB_reach {bs : List Blk} {y h : Nat} (hb : backB bs y h = true) : Reach bs (-1) y := by
 unfold backB domB at hb
 simp only [Bool.and_eq_true] at hb
 have := hb.2.1
 rw [reachL_getD] at this
 simpa using this
theorem LWalk.klen {bs : List Blk} {rows : Nat → List Nat} {h : Nat} {ks st : List Nat} (hw : LWalk bs rows h ks st) : ks.length ≤ bs.length := nodup_len hw.nd hw.lt
theorem LWalk.skip {bs : List Blk} {rows : Nat → List Nat} {h x : Nat} {ks st : List Nat} (hw : LWalk bs rows h ks (st ++ [x])) (hx : x ∈ ks ∨ ¬ Reach bs (-1) x) : LWalk bs rows h ks st := by
 refine ⟨hw.hd,hw.nd,hw.lt,hw.sound,fun y hy => hw.stk y (List.mem_append_left _ hy),fun z hz hzh y hy hr => ?_,fun y hy hb => ?_, ?_⟩
 ·rcases hw.closed z hz hzh y hy hr with h1 | h1
  ·exact .inl h1
  ·rcases List.mem_append.1 h1 with h2 | h2
   ·exact .inr h2
   ·have : y = x := by simpa using h2
    subst this
    rcases hx with h3 | h3
    ·exact .inl h3
    ·exact absurd hr h3
 ·rcases hw.src y hy hb with h1 | h1
  ·exact .inl h1
  ·rcases List.mem_append.1 h1 with h2 | h2
   ·exact .inr h2
   ·have : y = x := by simpa using h2
    subst this
    rcases hx with h3 | h3
    ·exact .inl h3
    ·exact absurd (backB_reach hb) h3
 ·have := hw.len
  simp only [List.length_append,List.length_singleton] at this
  omega
theorem LWalk.mark {bs : List Blk} {rows : Nat → List Nat} {h x : Nat} {ks st : List Nat} (hP : Preds bs rows) (hw : LWalk bs rows h ks (st ++ [x])) (hx : x ∉ ks) (hr : Reach bs (-1) x) : LWalk bs rows h (ks ++ [x]) (st ++ rows x) := by
 have hxi := (hw.stk x (by simp)).2 hr
 have hxh : x ≠ h := fun e => hx (e ▸ hw.hd)
 refine ⟨by simp [hw.hd], ?_,fun y hy => ?_,fun y hy => ?_,fun y hy => ?_,fun z hz hzh y hy hry => ?_,fun y hy hb => ?_, ?_⟩
 ·rw [List.nodup_append]
  exact ⟨hw.nd,by simp,fun a ha b hb => by simp at hb; subst hb; exact fun e => hx (e ▸ ha)⟩
 ·rcases List.mem_append.1 hy with h1 | h1
  ·exact hw.lt y h1
  ·simp at h1; subst h1; exact hr.lt
 ·rcases List.mem_append.1 hy with h1 | h1
  ·exact hw.sound y h1
  ·simp at h1; subst h1; exact hxi
 ·rcases List.mem_append.1 hy with h1 | h1
  ·exact hw.stk y (List.mem_append_left _ h1)
  ·obtain ⟨h2,h3⟩ := (hP.mem x hr.lt y).1 h1
   exact ⟨h2,fun hry => .step hxi hxh h2 ((reachL_get h2).2 hry) h3⟩
 ·rcases List.mem_append.1 hz with h1 | h1
  ·rcases hw.closed z h1 hzh y hy hry with h2 | h2
   ·exact .inl (List.mem_append_left _ h2)
   ·rcases List.mem_append.1 h2 with h3 | h3
    ·exact .inr (List.mem_append_left _ h3)
    ·exact .inl (List.mem_append_right _ h3)
  ·simp at h1; subst h1
   exact .inr (List.mem_append_right _ hy)
 ·rcases hw.src y hy hb with h2 | h2
  ·exact .inl (List.mem_append_left _ h2)
  ·rcases List.mem_append.1 h2 with h3 | h3
   ·exact .inr (List.mem_append_left _ h3)
   ·exact .inl (List.mem_append_right _ h3)
 ·have h1 := hw.len
  have h2 := hP.len x
  simp only [List.length_append,List.length_singleton] at h1 ⊢
  rw [Nat.succ_mul]
  generalize ks.length * 1000000 = z at h1 ⊢
  omega
theorem LWalk.done {bs : List Blk} {rows : Nat → List Nat} {h : Nat} {ks : List Nat} (hP : Preds bs rows) (hw : LWalk bs rows h ks []) {k : Nat} : k ∈ ks ↔ InL bs h k := by
 refine ⟨hw.sound k,fun hk => ?_⟩
 induction hk with
 | src hb hk => exact (hw.src _ hb hk).elim id fun h => by simp at h
 | head => exact hw.hd
 | @step b x hx hxh hb hr hm ih =>
  have := (hP.mem x (hw.lt x ih) b).2 ⟨hb,hm⟩
  exact (hw.closed x ih hxh b this ((reachL_get hb).1 hr)).elim id fun h => by simp at h
noncomputable def srcsTo (bs : List Blk) (rows : Nat → List Nat) (h i : Nat) : List Nat := ((rows h).take i).filter fun x => domB bs h x
theorem srcs_mem {bs : List Blk} {rows : Nat → List Nat} {h : Nat} (hP : Preds bs rows) (hh : h < bs.length) {x : Nat} : x ∈ srcsTo bs rows h (rows h).length ↔ x < bs.length ∧ backB bs x h = true := by
 unfold srcsTo backB
 rw [List.take_length,List.mem_filter,hP.mem h hh]
 constructor
 ·rintro ⟨⟨h1,h2⟩,h3⟩
  exact ⟨h1,by simp [h1,h2,h3]⟩
 ·rintro ⟨h1,h2⟩
  simp [h1] at h2
  exact ⟨⟨h1,h2.1⟩,h2.2⟩
theorem LWalk.start {bs : List Blk} {rows : Nat → List Nat} {h : Nat} (hP : Preds bs rows) (hh : h < bs.length) : LWalk bs rows h [h] (srcsTo bs rows h (rows h).length) := by
 refine ⟨by simp,by simp,by simpa using hh,fun x hx => ?_,fun x hx => ?_,fun x hx hxh => ?_,fun y hy hb => .inr ((srcs_mem hP hh).2 ⟨hy,hb⟩), ?_⟩
 ·simp at hx; subst hx; exact .head
 ·obtain ⟨h1,h2⟩ := (srcs_mem hP hh).1 hx
  exact ⟨h1,fun _ => .src h1 h2⟩
 ·simp at hx; exact absurd hx hxh
 ·have h1 := hP.len h
  have : (srcsTo bs rows h (rows h).length).length ≤ (rows h).length := by
   unfold srcsTo
   exact Nat.le_trans (List.length_filter_le _ _) (by rw [List.take_length]; exact Nat.le_refl _)
  simp only [List.length_singleton,Nat.one_mul]
  omega
theorem hasLoop_srcs {bs : List Blk} {rows : Nat → List Nat} {h : Nat} (hP : Preds bs rows) (hh : h < bs.length) : hasLoop bs h ↔ srcsTo bs rows h (rows h).length ≠ [] := by
 constructor
 ·rintro ⟨b,hb,hk⟩ e
  have := (srcs_mem hP hh).2 ⟨hb,hk⟩
  rw [e] at this; simp at this
 ·intro hn
  obtain ⟨x,hx⟩ := List.exists_mem_of_ne_nil _ hn
  obtain ⟨h1,h2⟩ := (srcs_mem hP hh).1 hx
  exact ⟨x,h1,h2⟩
theorem loopL_ks {bs : List Blk} {h : Nat} {ks : List Nat} (hk : ∀ k,k ∈ ks ↔ InL bs h k) : loopL bs h = ((List.range bs.length).filter fun k => decide (k ∈ ks)).map fun (k : Nat) => (k : Int) := by
 unfold loopL
 congr 1
 refine List.filter_congr fun k _ => ?_
 by_cases h : k ∈ ks
 ·simp [h,(hk k).1 h]
 ·have : ¬ InL bs _ k := fun hi => h ((hk k).2 hi)
  simp [h,this]
end Go.Den
/- The seat's functions, part T: the program's Loops. -/
namespace Go.Den
open IrD
attribute [local irreducible] T.get T.set
@[simp] theorem PIk_makeMap {F : FuncId → Option IFunc} {X0 X : Ext} {l : List Ins} {R : PEnv → List LObj → Prop} {d : Option Nat} {E : PEnv} {L : List LObj} : PIk F X0 X .makeMap l R d E L = pKk F X0 X l R d E (pev E L .makeMap) := nrfl rfl
theorem eGc {k j : Nat} {v : PV} {l : List (Nat × PV)} : (envOf ((k,v) :: l)).get j = if j = k then some v else (envOf l).get j := by
 rw [show envOf ((k,v) :: l) = (envOf l).set k v from rfl,T.get_set]
structure TEnv (tb : TypeId) (bs : List Blk) (rows : Nat → List Nat) (h : Nat) (E : PEnv) : Prop extends AEnv tb bs E where
 e5 : E.get 5 = some (.fp [aheadV bs.length rows])
 e8 : E.get 8 = some (.slc 0 0 (lpT bs h).length (lpT bs h).length)
 e45 : E.get 45 = some (pin bs.length)
 e46 : E.get 46 = some (pn h)
noncomputable def TL (bs : List Blk) (h : Nat) : LObj := .row 131 ((lpT bs h).flatMap encL)
def TJ1 (tb : TypeId) (bs : List Blk) (rows : Nat → List Nat) (m : Nat) (E : PEnv) (L : List LObj) : Prop := ∃ h,h + m = bs.length ∧ L = [TL bs h] ∧ TEnv tb bs rows h E
def TJ2 (tb : TypeId) (bs : List Blk) (rows : Nat → List Nat) (h : Nat) (m : Nat) (E : PEnv) (L : List LObj) : Prop := ∃ i,i + m = (rows h).length ∧
 L = [TL bs h,.map [] 0,.row 3 ((srcsTo bs rows h i).map pn)] ∧ TEnv tb bs rows h E ∧ E.get 9 = some (pn h) ∧ E.get 10 = some (.mapr 1) ∧ E.get 11 = some (.slc 2 0 (srcsTo bs rows h i).length (srcsTo bs rows h i).length) ∧
 E.get 53 = some (plist 3 (rows h)) ∧ E.get 54 = some (pin (rows h).length) ∧ E.get 55 = some (pn i)
def TJ3 (tb : TypeId) (bs : List Blk) (rows : Nat → List Nat) (h : Nat) (m : Nat) (E : PEnv) (L : List LObj) : Prop := ∃ ks st junk,m = (bs.length - ks.length) * 1000001 + st.length ∧ LWalk bs rows h ks st ∧ noIdL junk = true ∧
 L = [TL bs h,.map (setM ks 0) ks.length,.row 3 (st.map pn ++ junk)] ∧ TEnv tb bs rows h E ∧ E.get 9 = some (pn h) ∧ E.get 10 = some (.mapr 1) ∧ E.get 11 = some (.slc 2 0 st.length (st.length + junk.length))
def kept (ks : List Nat) (i : Nat) : List Nat := (List.range i).filter fun k => decide (k ∈ ks)
def TJ4 (tb : TypeId) (bs : List Blk) (rows : Nat → List Nat) (h : Nat) (ks : List Nat) (m : Nat) (E : PEnv) (L : List LObj) : Prop := ∃ i,i + m = bs.length ∧
 L = [TL bs h,.map (setM ks 0) ks.length,.row 131 [pn h,.slc 3 0 (kept ks i).length (kept ks i).length],.row 3 ((kept ks i).map pn)] ∧ TEnv tb bs rows h E ∧ E.get 10 = some (.mapr 1) ∧ E.get 15 = some (.ptr 2 0) ∧
 E.get 117 = some (pin bs.length) ∧ E.get 118 = some (pn i)
theorem F2.app {α β : Type} {R : α → β → Prop} {as cs : List α} {bs ds : List β} (h : F2 R as bs) (h' : F2 R cs ds) : F2 R (as ++ cs) (bs ++ ds) := by
 induction h with
 | nil => exact h'
 | cons h _ ih => exact .cons h ih
theorem setM_view {τ : List Nat} {L : List LObj} : ∀ {ks : List Nat} {c : Nat},F2 (fun a b => a.1 = b.1 ∧ a.2.2 = b.2.2 ∧ Vw τ L a.2.1 b.2.1) (setM ks c) (setM ks c)
 | [],_ => .nil
 | _ :: ks,c => .cons ⟨rfl,rfl,.same rfl⟩ (setM_view (ks := ks) (c := c + 1))
theorem noIdL_app {a b : List PV} (h : noIdL a = true) (h' : noIdL b = true) : noIdL (a ++ b) = true := by
 rw [nIi] at *
 intro p hp
 exact (List.mem_append.1 hp).elim (h p) (h' p)
theorem srcsTo_succ {bs : List Blk} {rows : Nat → List Nat} {h i : Nat} (hi : i < (rows h).length) : srcsTo bs rows h (i + 1) = srcsTo bs rows h i ++ (if domB bs h (rows h)[i] = true then [(rows h)[i]] else []) := by
 unfold srcsTo
 rw [List.take_succ_eq_append_getElem hi,List.filter_append,List.filter_cons]
 rfl
set_option linter.unusedSimpArgs false in
theorem loops_ok {tb : TypeId} {bs : List Blk} (hok : OkG bs) : PPd (.fn 67 [] []) [blks tb bs] (recs 131 encL (lpT bs bs.length)) := by
 have hl := hok.len
 have hb : big bs.length := by unfold big; omega
 have l1 : (bs.length : Int) ≤ 9223372036854775807 := by omega
 have l2 : (bs.length : Int) ≤ 281474976710656 := by omega
 have l3 : 24 * (bs.length : Int) ≤ 281474976710656 := by omega
 refine PPc rfl rfl rfl (by simp) (by simp) (by simp [recs]) (PW_ok _ ?_)
 simp [ir67]
 refine (reached_ok hok).runk ?_
 simp
 refine (dominates_ok hok).runk ?_
 simp [blks,recs,l1,l2,l3,repl_rep]
 refine PC_loop0 (AJ1 tb bs) ?_ (k := bs.length) ?_
 rotate_left
 ·refine ⟨0,List.replicate bs.length nilS,fun _ => [],by simp,.zero,⟨by simp,by simp,by simp, ?_, ?_⟩,by simp,⟨by simp [blks,recs],by simp,by simp⟩,by simp,by simp,by simp⟩
  ·intro to p hp
   rw [List.getElem?_replicate] at hp
   split at hp
   ·cases hp; exact .nil
   ·cases hp
  ·intro i j k a b c a' b' c' hi
   rw [List.getElem?_replicate] at hi
   split at hi <;> cases hi
 rintro m E L ⟨b,cells,rows,hbm,hpr,ha,hL,⟨e0,e3,e4⟩,e5,e25,e26⟩
 by_cases hbb : b < bs.length
 case pos =>
  simp [e0,e3,e4,e5,e25,e26,hbb]
  unfold PFk
  refine following_ok ?_
  simp
  refine a_range (tb := tb) hok hbb hL ha hpr (by simp [e5]) (by simp) (by simp) ?_
  intro cells' rows' L' hpr' ha' hL'
  simp [e0,e3,e4,e5,e25,e26,wnc hbb hb]
  exact ⟨m - 1,by omega,b + 1,cells',rows',by omega,hpr',ha',hL',⟨by simp [e0],by simp [e3],by simp [e4]⟩,by simp [e5],by simp [e25],by simp⟩
 have : b = bs.length := by omega
 subst this
 have hP := hpr.all hok
 simp [e0,e3,e4,e5,e25,e26,blks,recs]
 refine PC.abs ((Abs.addNil 0 _ _).trans (Abs.viewL [L.length] [(0,blks tb bs),(3,blist 4 (reachL bs (-1))),(4,.fz 232 bs.length ((dRw bs).map (blist 4))),(5,.fp [aheadV bs.length rows]),(8,.slc 0 0 0 0),(45,pin bs.length),(46,pn 0)] (L' := [.row 131 []]) (by simp) (by simp) (fun i h => by omega) (by simp) (.cons ⟨_,by simp,.nilr⟩ .nil) ?_)) ?_
 ·simp [e0,e3,e4,e5]
  exact ⟨.same (by simp),.same (by simp),.same (by simp [nIi]),ha.view fun j o hj => by
   have hjl := (List.getElem?_eq_some_iff.1 hj).1
   exact ⟨by rw [List.getElem?_append_left hjl]; exact hj,by simp; omega⟩,.nilr rfl (by simp),.same rfl,.same rfl⟩
 clear e0 e3 e4 e5 e25 e26 hpr
 refine PC_loop (TJ1 tb bs rows) ?_ (k := bs.length) ⟨0,by simp,by simp [TL,lpT],⟨⟨by simp [eGc],by simp [eGc],by simp [eGc]⟩,by simp [eGc],by simp [eGc,lpT],by simp [eGc],by simp [eGc]⟩⟩
 rintro m E L ⟨h,hhm,rfl,⟨e0,e3,e4⟩,e5,e8,e45,e46⟩
 refine PW_ok _ ?_
 by_cases hh : h < bs.length
 case neg =>
  have : h = bs.length := by omega
  subst this
  simp [e8,e45,e46]
  exact Vw.frz rfl (by simp) (by simp) rfl
 have hcA : cut ((List.range bs.length).map fun to => plist 3 (rows to)) h 1 = [plist 3 (rows h)] := by rw [cut1 (by simpa using hh)]; simp
 unfold plist at hcA
 have hc0 : ∀ p : PV,cut [p] 0 1 = [p] := fun _ => rfl
 have hcl : ((List.range bs.length).map fun to => plist 3 (rows to)).length = bs.length := by simp
 simp [e0,e3,e4,e5,e8,e45,e46,hh,aheadV,hcA,hc0,plist]
 refine PC.abs ((Abs.addNil 0 _ [TL bs h,.map [] 0]).trans (Abs.viewL [0,1,2] [(0,blks tb bs),(3,blist 4 (reachL bs (-1))),(4,.fz 232 bs.length ((dRw bs).map (blist 4))),(5,.fp [aheadV bs.length rows]),(8,.slc 0 0 (lpT bs h).length (lpT bs h).length),(45,pin bs.length),(46,pn h),(9,pn h),(10,.mapr 1),(11,.slc 2 0 0 0),(53,plist 3 (rows h)),(54,pin (rows h).length),(55,pn 0)] (L' := [TL bs h,.map [] 0,.row 3 []]) (by simp) (by simp) (fun i h => by omega) (by simp) (.cons ⟨_,rfl,.row (.same (by simp))⟩ (.cons ⟨_,rfl,.map .nil⟩ (.cons ⟨_,rfl,.nilr⟩ .nil))) ?_)) ?_
 ·simp [e0,e3,e4,e5,e8,e45,e46]
  exact ⟨.same (by simp),.same (by simp),.same (by simp [nIi]),.same (by simp [aheadV,plist,nIi]),.slc rfl,.same rfl,.same rfl,.mapr rfl,.nilr rfl rfl,.eq rfl (by simp [nIi]),.same rfl,.same rfl⟩
 refine PC_loop (TJ2 tb bs rows h) ?_ (k := (rows h).length) ⟨0,by simp,by simp [srcsTo],⟨⟨by simp [eGc],by simp [eGc],by simp [eGc]⟩,by simp [eGc],by simp [eGc],by simp [eGc],by simp [eGc]⟩,by simp [eGc],by simp [eGc],by simp [eGc,srcsTo],by simp [eGc],by simp [eGc],by simp [eGc]⟩
 clear e0 e3 e4 e5 e8 e45 e46
 rintro m2 E L ⟨i,him,rfl,⟨⟨e0,e3,e4⟩,e5,e8,e45,e46⟩,e9,e10,e11,e53,e54,e55⟩
 refine PW_ok _ ?_
 by_cases hi : i < (rows h).length
 case pos =>
  have hx : (rows h)[i] < bs.length := ((hP.mem h hh _).1 (List.getElem_mem hi)).1
  have hrl := reachL_len (bs := bs) (no := -1)
  have hbr : (rows h)[i] < (reachL bs (-1)).length := by omega
  have hcr : cut ((rows h).map pn) i 1 = [pn (rows h)[i]] := by rw [cut1 (by simpa using hi)]
  have hbl : blist 4 (reachL bs (-1)) = .fz 4 bs.length ((reachL bs (-1)).map pbool) := by rw [blist,hrl]
  have hcb : cut ((reachL bs (-1)).map pbool) (rows h)[i] 1 = [pbool (reachL bs (-1))[(rows h)[i]]] := cut1 hbr
  have hbh : big (rows h).length := by have := hP.len h; unfold big; omega
  have next : ∀ {E' : PEnv} {L' : List LObj},L' = [TL bs h,.map [] 0,.row 3 ((srcsTo bs rows h (i + 1)).map pn)] → TEnv tb bs rows h E' → E'.get 9 = some (pn h) → E'.get 10 = some (.mapr 1) → E'.get 11 = some (.slc 2 0 (srcsTo bs rows h (i + 1)).length (srcsTo bs rows h (i + 1)).length) →
    E'.get 53 = some (plist 3 (rows h)) → E'.get 54 = some (pin (rows h).length) → E'.get 55 = some (pn (i + 1)) → ∃ k',k' < m2 ∧ ∃ E'' L'',Abs 0 E' L' E'' L'' ∧ TJ2 tb bs rows h k' E'' L'' := fun a b c d e f g j =>
   ⟨m2 - 1,by omega,_,_,.refl _ _ _,i + 1,by omega,a,b,c,d,e,f,g,j⟩
  have hsl : (srcsTo bs rows h i).length ≤ 1000000 := by
   have := hP.len h
   exact Nat.le_trans (List.length_filter_le _ _) (by rw [List.length_take]; omega)
  have rr : roomy ((srcsTo bs rows h i).length + 1) 8 := rmf (by omega) (by omega)
  cases hr : (reachL bs (-1))[(rows h)[i]] with
  | false =>
   have hdom : domB bs h (rows h)[i] = false := by
    unfold domB; rw [List.getD_eq_getElem?_getD,List.getElem?_eq_getElem hbr,hr]; rfl
   have hsrc : srcsTo bs rows h (i + 1) = srcsTo bs rows h i := by rw [srcsTo_succ hi,hdom]; simp
   simp [e0,e3,e4,e5,e8,e45,e46,e9,e10,e11,e53,e54,e55,hi,plist,hcr,hbl,hcb,hr,hx,wnc hi hbh]
   exact next (by rw [hsrc]) ⟨⟨by simp [e0],by simp [e3],by simp [e4]⟩,by simp [e5],by simp [e8],by simp [e45],by simp [e46]⟩ (by simp [e9]) (by simp [e10]) (by simp [e11,hsrc]) (by simp [e53]) (by simp [e54]) (by simp)
  | true =>
   have hdl : (dRw bs).length = bs.length := by simp [dRw]
   have hrw : (domRow bs h).length = bs.length := by simp [domRow]
   have c1 : cut ((dRw bs).map (blist 4)) h 1 = [.fz 4 bs.length ((domRow bs h).map pbool)] := by
    rw [cut1 (by rw [hdl]; exact hh)]; simp [dRw,blist,domRow]
   have c2 : cut ((domRow bs h).map pbool) (rows h)[i] 1 = [pbool (domB bs h (rows h)[i])] := by
    rw [cut1 (by rw [hrw]; exact hx),← domP_eq]; simp [domRow]
   cases hD : domB bs h (rows h)[i] with
   | false =>
    have hsrc : srcsTo bs rows h (i + 1) = srcsTo bs rows h i := by rw [srcsTo_succ hi,hD]; simp
    simp [e0,e3,e4,e5,e8,e45,e46,e9,e10,e11,e53,e54,e55,hi,plist,hcr,hbl,hcb,hr,hx,hh,c1,c2,hD,rr,wnc hi hbh]
    exact next (by rw [hsrc]) ⟨⟨by simp [e0],by simp [e3],by simp [e4]⟩,by simp [e5],by simp [e8],by simp [e45],by simp [e46]⟩ (by simp [e9]) (by simp [e10]) (by simp [e11,hsrc]) (by simp [e53]) (by simp [e54]) (by simp)
   | true =>
    have hsrc : srcsTo bs rows h (i + 1) = srcsTo bs rows h i ++ [(rows h)[i]] := by rw [srcsTo_succ hi,hD]; simp
    simp [e0,e3,e4,e5,e8,e45,e46,e9,e10,e11,e53,e54,e55,hi,plist,hcr,hbl,hcb,hr,hx,hh,c1,c2,hD,rr,wnc hi hbh]
    have hgo := next (E' := envOf [(0,blks tb bs),(3,blist 4 (reachL bs (-1))),(4,.fz 232 bs.length ((dRw bs).map (blist 4))),(5,.fp [aheadV bs.length rows]),(8,.slc 0 0 (lpT bs h).length (lpT bs h).length),(45,pin bs.length),(46,pn h),(9,pn h),(10,.mapr 1),(11,.slc 2 0 (srcsTo bs rows h (i + 1)).length (srcsTo bs rows h (i + 1)).length),(53,plist 3 (rows h)),(54,pin (rows h).length),(55,pn (i + 1))]) rfl ⟨⟨by simp [eGc],by simp [eGc],by simp [eGc]⟩,by simp [eGc],by simp [eGc],by simp [eGc],by simp [eGc]⟩ (by simp [eGc]) (by simp [eGc]) (by simp [eGc]) (by simp [eGc]) (by simp [eGc]) (by simp [eGc])
    obtain ⟨k',hk',E2,L2,ha2,hj2⟩ := hgo
    refine ⟨k',hk',E2,L2,Abs.trans (Abs.viewL [0,1,4] _ (by simp) (by simp) (fun i h => by omega) (by simp) (.cons ⟨_,rfl,.row (.same (by simp))⟩ (.cons ⟨_,rfl,.map .nil⟩ (.cons ⟨_,rfl,.row ?_⟩ .nil))) ?_) ha2,hj2⟩
    ·rw [hsrc,List.map_append]; exact .same (by simp)
    ·simp [e0,e3,e4,e5,e8,e45,e46,e9,e10,e53,e54,hsrc]
     exact ⟨.same (by simp),.same (by simp),.same (by simp [nIi]),.same (by simp [aheadV,plist,nIi]),.slc rfl,.same rfl,.same rfl,.mapr rfl,.slc rfl,.same (by simp [plist,nIi]),.same rfl,.same rfl⟩
 have hie : i = (rows h).length := by omega
 have onext : ∀ {E' : PEnv} {L' : List LObj},Abs 0 E' L' (envOf [(0,blks tb bs),(3,blist 4 (reachL bs (-1))),(4,.fz 232 bs.length ((dRw bs).map (blist 4))),(5,.fp [aheadV bs.length rows]),(8,.slc 0 0 (lpT bs (h + 1)).length (lpT bs (h + 1)).length),(45,pin bs.length),(46,pn (h + 1))]) [TL bs (h + 1)] →
   ∃ k',k' < m ∧ ∃ E'' L'',Abs 0 E' L' E'' L'' ∧ TJ1 tb bs rows k' E'' L'' := fun ha =>
  ⟨m - 1,by omega,_,_,ha,h + 1,by omega,rfl,⟨⟨by simp [eGc],by simp [eGc],by simp [eGc]⟩,by simp [eGc],by simp [eGc],by simp [eGc],by simp [eGc]⟩⟩
 by_cases hs0 : srcsTo bs rows h i = []
 ·have hnl : ¬ hasLoop bs h := fun hx => (hasLoop_srcs hP hh).1 hx (hie ▸ hs0)
  simp [e0,e3,e4,e5,e8,e45,e46,e9,e10,e11,e53,e54,e55,hi,hs0,wnc hh hb]
  refine onext (Abs.viewL [0] _ (by simp) (by simp) (fun i h => by omega) (by simp) (.cons ⟨_,rfl,.row ?_⟩ .nil) ?_)
  ·rw [loopsTo_skip hnl]; exact .same (by simp)
  ·simp [e0,e3,e4,e5,e8,e45]
   rw [loopsTo_skip hnl]
   exact ⟨.same (by simp),.same (by simp),.same (by simp [nIi]),.same (by simp [aheadV,plist,nIi]),.slc rfl,.same rfl,.same rfl⟩
 have hlp : hasLoop bs h := (hasLoop_srcs hP hh).2 (hie ▸ hs0)
 have hst := LWalk.start hP hh
 rw [← hie] at hst
 simp [e0,e3,e4,e5,e8,e45,e46,e9,e10,e11,e53,e54,e55,hi,hs0,keyOk]
 refine PC_loop (TJ3 tb bs rows h) ?_ ⟨[h],srcsTo bs rows h i,[],rfl,hst,rfl,by simp [setM],⟨⟨by simp [e0],by simp [e3],by simp [e4]⟩,by simp [e5],by simp [e8],by simp [e45],by simp [e46]⟩,by simp [e9],by simp [e10],by simp [e11]⟩
 clear e0 e3 e4 e5 e8 e45 e46 e9 e10 e11 e53 e54 e55 hst hs0
 rintro m2 E L ⟨ks,st,junk,rfl,hw,hj,rfl,⟨⟨e0,e3,e4⟩,e5,e8,e45,e46⟩,e9,e10,e11⟩
 refine PW_ok _ ?_
 rcases List.eq_nil_or_concat st with rfl | ⟨st,x,rfl⟩
 ·simp [e0,e3,e4,e5,e8,e45,e46,e9,e10,e11,blks,recs]
  refine PC.abs ((Abs.addNil 0 _ [TL bs h,.map (setM ks 0) ks.length,.row 3 junk,.row 131 [pn h,nilS]]).trans (Abs.viewL [0,1,3,4] [(0,blks tb bs),(3,blist 4 (reachL bs (-1))),(4,.fz 232 bs.length ((dRw bs).map (blist 4))),(5,.fp [aheadV bs.length rows]),(8,.slc 0 0 (lpT bs h).length (lpT bs h).length),(45,pin bs.length),(46,pn h),(10,.mapr 1),(15,.ptr 2 0),(117,pin bs.length),(118,pn 0)] (L' := [TL bs h,.map (setM ks 0) ks.length,.row 131 [pn h,.slc 3 0 0 0],.row 3 []]) (by simp) (by simp) (fun i h => by omega) (by simp) (.cons ⟨_,rfl,.row (.same (by simp))⟩ (.cons ⟨_,rfl,.map ?_⟩ (.cons ⟨_,rfl,.row (.cons (.same rfl) (.cons (.nilr rfl rfl) .nil))⟩ (.cons ⟨_,rfl,.nilr⟩ .nil)))) ?_)) ?_
  ·exact setM_view
  ·simp [e0,e3,e4,e5,e8,e45,e46,e10]
   exact ⟨.same (by simp [blks,recs]),.same (by simp),.same (by simp [nIi]),.same (by simp [aheadV,plist,nIi]),.slc rfl,.same rfl,.same rfl,.mapr rfl,.ptr rfl,.same rfl,.same rfl⟩
  clear e0 e3 e4 e5 e8 e45 e46 e9 e10 e11
  refine PC_loop (TJ4 tb bs rows h ks) ?_ (k := bs.length) ⟨0,by simp,by simp [kept],⟨⟨by simp [eGc],by simp [eGc],by simp [eGc]⟩,by simp [eGc],by simp [eGc],by simp [eGc],by simp [eGc]⟩,by simp [eGc],by simp [eGc],by simp [eGc],by simp [eGc]⟩
  rintro m2 E L ⟨j,hjm,rfl,⟨⟨e0,e3,e4⟩,e5,e8,e45,e46⟩,e10,e15,e117,e118⟩
  refine PW_ok _ ?_
  by_cases hjl : j < bs.length
  case neg =>
   have hle : (lpT bs h).length ≤ h := loopsTo_len
   have rr0 : roomy ((lpT bs h).length + 1) 32 := rmf (by omega) (by omega)
   simp [e0,e3,e4,e5,e8,e45,e46,e10,e15,e117,e118,hjl,TL,rr0,sumC,allOne,wnc hh hb]
   have hje : j = bs.length := by omega
   subst hje
   have hlk : ints 3 (loopL bs h) = plist 3 (kept ks bs.length) := by
    rw [loopL_ks fun k => hw.done hP]; simp [ints,plist,kept]
   refine onext (Abs.viewL [5] _ (by simp) (by simp) (fun i h => by omega) (by simp) (.cons ⟨_,rfl,.row ?_⟩ .nil) ?_)
   ·rw [loopsTo_succ hlp,List.flatMap_append]
    refine F2.app (VwL.same (by simp)) (.cons (.same rfl) (.cons ?_ .nil))
    rw [hlk]
    exact .fzs (cs := (kept ks bs.length).map pn) (cs'' := (kept ks bs.length).map pn) (by simp) rfl (by simp [allNl,nl]) (by simp) (by rw [List.length_map,List.drop_zero,List.take_of_length_le (by simp)]) rfl fun i h1 h2 => .same (by simp)
   ·simp [e0,e3,e4,e5,e8,e45,loopsTo_succ hlp]
    exact ⟨.same (by simp),.same (by simp),.same (by simp [nIi]),.same (by simp [aheadV,plist,nIi]),.slc rfl,.same rfl,.same rfl⟩
  have hkl : (kept ks j).length ≤ j := Nat.le_trans (List.length_filter_le _ _) (Nat.le_of_eq List.length_range)
  have rr : roomy ((kept ks j).length + 1) 8 := rmf (by omega) (by omega)
  by_cases hjk : j ∈ ks
  case neg =>
   have hf := pfind_no (ks := ks) (c := 0) (i := 0) hjk
   simp [e0,e3,e4,e5,e8,e45,e46,e10,e15,e117,e118,hjl,hf,keyOk,wnc hjl hb]
   have hk1 : kept ks (j + 1) = kept ks j := by simp [kept,List.range_succ,hjk]
   exact ⟨m2 - 1,by omega,_,_,.refl _ _ _,j + 1,by omega,by rw [hk1],⟨⟨by simp [e0],by simp [e3],by simp [e4]⟩,by simp [e5],by simp [e8],by simp [e45],by simp [e46]⟩,by simp [e10],by simp [e15],by simp [e117],by simp⟩
  obtain ⟨q,hf⟩ := pfind_yes (ks := ks) (c := 0) (i := 0) hjk
  simp [e0,e3,e4,e5,e8,e45,e46,e10,e15,e117,e118,hjl,hf,keyOk,rr,wnc hjl hb]
  have hk1 : kept ks (j + 1) = kept ks j ++ [j] := by simp [kept,List.range_succ,hjk]
  refine ⟨m2 - 1,by omega,envOf [(0,blks tb bs),(3,blist 4 (reachL bs (-1))),(4,.fz 232 bs.length ((dRw bs).map (blist 4))),(5,.fp [aheadV bs.length rows]),(8,.slc 0 0 (lpT bs h).length (lpT bs h).length),(45,pin bs.length),(46,pn h),(10,.mapr 1),(15,.ptr 2 0),(117,pin bs.length),(118,pn (j + 1))],[TL bs h,.map (setM ks 0) ks.length,.row 131 [pn h,.slc 3 0 ((kept ks j).length + 1) ((kept ks j).length + 1)],.row 3 ((kept ks j ++ [j]).map pn)],Abs.viewL [0,1,2,5] _ (by simp) (by simp) (fun i h => by omega) (by simp) (.cons ⟨_,rfl,.row (.same (by simp))⟩ (.cons ⟨_,rfl,.map setM_view⟩ (.cons ⟨_,rfl,.row (.cons (.same rfl) (.cons (.slc rfl) .nil))⟩ (.cons ⟨_,rfl,.row ?_⟩ .nil)))) ?_,j + 1,by omega,by rw [hk1,List.length_append]; rfl,⟨⟨by simp [eGc],by simp [eGc],by simp [eGc]⟩,by simp [eGc],by simp [eGc],by simp [eGc],by simp [eGc]⟩,by simp [eGc],by simp [eGc],by simp [eGc],by simp [eGc]⟩
  ·rw [List.map_append]; exact .same (by simp)
  ·simp [e0,e3,e4,e5,e8,e45,e46,e10,e15,e117]
   exact ⟨.same (by simp),.same (by simp),.same (by simp [nIi]),.same (by simp [aheadV,plist,nIi]),.slc rfl,.same rfl,.same rfl,.mapr rfl,.ptr rfl,.same rfl,.same rfl⟩
 rw [List.concat_eq_append] at hw ⊢
 have hx : x < bs.length := (hw.stk x (by simp)).1
 have hkl := hw.klen
 have hsl := hw.len
 have hst1 : st.length ≤ 1000000000 := by
  have : ks.length * 1000000 ≤ 1000 * 1000000 := Nat.mul_le_mul_right _ (by omega)
  simp only [List.length_append,List.length_singleton] at hsl
  omega
 have w1 : IntKind.wrap .i64 (st.length : Int) = st.length := wrap64 (by omega) (by omega)
 have c0 : ¬ ((st.length : Int) + 1 = 0) := by omega
 have c1 : (st.length : Int) < st.length + 1 := by omega
 have c2 : (st.length : Int) ≤ st.length + 1 + junk.length := by omega
 have c3 : st.length ≤ st.length + 1 + junk.length := by omega
 have hrl := reachL_len (bs := bs) (no := -1)
 have hbr : x < (reachL bs (-1)).length := by omega
 have hbl : blist 4 (reachL bs (-1)) = .fz 4 bs.length ((reachL bs (-1)).map pbool) := by rw [blist,hrl]
 have hcb : cut ((reachL bs (-1)).map pbool) x 1 = [pbool (reachL bs (-1))[x]] := cut1 hbr
 have skip : ∀ {E' : PEnv},(x ∈ ks ∨ ¬ Reach bs (-1) x) → TEnv tb bs rows h E' → E'.get 9 = some (pn h) → E'.get 10 = some (.mapr 1) → E'.get 11 = some (.slc 2 0 st.length (st.length + 1 + junk.length)) →
   ∃ k',k' < (bs.length - ks.length) * 1000001 + (st.length + 1) ∧ ∃ E'' L'',Abs 0 E' [TL bs h,.map (setM ks 0) ks.length,.row 3 (st.map pn ++ pn x :: junk)] E'' L'' ∧ TJ3 tb bs rows h k' E'' L'' := fun hs a b c d =>
  ⟨(bs.length - ks.length) * 1000001 + st.length,by omega,_,_,.refl _ _ _,ks,st,pn x :: junk,rfl,hw.skip hs,by simp [hj],rfl,a,b,c,by rw [d]; simp [Nat.add_assoc,Nat.add_comm 1]⟩
 by_cases hxk : x ∈ ks
 ·obtain ⟨q,hf⟩ := pfind_yes (ks := ks) (c := 0) (i := 0) hxk
  simp [e0,e3,e4,e5,e8,e45,e46,e9,e10,e11,hf,keyOk,w1,c0,c1,c2,c3]
  exact skip (.inl hxk) ⟨⟨by simp [e0],by simp [e3],by simp [e4]⟩,by simp [e5],by simp [e8],by simp [e45],by simp [e46]⟩ (by simp [e9]) (by simp [e10]) (by simp)
 have hf := pfind_no (ks := ks) (c := 0) (i := 0) hxk
 cases hr : (reachL bs (-1))[x] with
 | false =>
  have hnr : ¬ Reach bs (-1) x := fun h => by have := (reachL_get hx).2 h; rw [List.getElem?_eq_getElem hbr,hr] at this; cases this
  simp [e0,e3,e4,e5,e8,e45,e46,e9,e10,e11,hf,keyOk,w1,c0,c1,c2,c3,hbl,hcb,hr,hx]
  exact skip (.inr hnr) ⟨⟨by simp [e0],by simp [e3,hbl],by simp [e4]⟩,by simp [e5],by simp [e8],by simp [e45],by simp [e46]⟩ (by simp [e9]) (by simp [e10]) (by simp)
 | true =>
 have hrx : Reach bs (-1) x := (reachL_get hx).1 (by rw [List.getElem?_eq_getElem hbr,hr])
 have hm := hw.mark hP hxk hrx
 have hcX : cut ((List.range bs.length).map fun to => plist 3 (rows to)) x 1 = [plist 3 (rows x)] := by rw [cut1 (by simpa using hx)]; simp
 unfold plist at hcX
 have hrl2 := hP.len x
 have rr : roomy (st.length + (rows x).length) 8 := by unfold roomy; omega
 have hkl2 : ks.length + 1 ≤ bs.length := by simpa using hm.klen
 have meas : ∀ r,r ≤ 1000000 → (bs.length - (ks.length + 1)) * 1000001 + (st.length + r) < (bs.length - ks.length) * 1000001 + (st.length + 1) := by
  intro r hr
  rw [show bs.length - ks.length = (bs.length - (ks.length + 1)) + 1 by omega,Nat.succ_mul]
  generalize (bs.length - (ks.length + 1)) * 1000001 = z
  omega
 have hset : setM (ks ++ [x]) 0 = setM ks 0 ++ [(.int .i64 x,.v (.bool true),ks.length)] := by rw [setM_snoc,Nat.zero_add]
 have fin : ∀ {E' : PEnv} {junk' : List PV},noIdL junk' = true → TEnv tb bs rows h E' → E'.get 9 = some (pn h) → E'.get 10 = some (.mapr 1) → E'.get 11 = some (.slc 2 0 (st ++ rows x).length ((st ++ rows x).length + junk'.length)) →
   TJ3 tb bs rows h ((bs.length - (ks.length + 1)) * 1000001 + (st.length + (rows x).length)) E' [TL bs h,.map (setM (ks ++ [x]) 0) (ks.length + 1),.row 3 ((st ++ rows x).map pn ++ junk')] := fun hj' a b c d =>
  ⟨ks ++ [x],st ++ rows x,_,by simp,hm,hj',by simp,a,b,c,d⟩
 by_cases hrn : rows x = []
 ·simp [e0,e3,e4,e5,e8,e45,e46,e9,e10,e11,hf,keyOk,w1,c0,c1,c2,c3,hbl,hcb,hr,hx,aheadV,hc0,hcX,plist,rr,hrn]
  refine ⟨_,meas _ hrl2,_,_,Abs.viewL [0,1,2] _ (by simp) (by simp) (fun i h => by omega) (by simp) (.cons ⟨_,rfl,.row (.same (by simp))⟩ (.cons ⟨_,rfl,.map ?_⟩ (.cons ⟨_,rfl,.row ?_⟩ .nil))) ?_,fin (E' := envOf [(0,blks tb bs),(3,blist 4 (reachL bs (-1))),(4,.fz 232 bs.length ((dRw bs).map (blist 4))),(5,.fp [aheadV bs.length rows]),(8,.slc 0 0 (lpT bs h).length (lpT bs h).length),(45,pin bs.length),(46,pn h),(9,pn h),(10,.mapr 1),(11,.slc 2 0 (st ++ rows x).length ((st ++ rows x).length + (pn x :: junk).length))]) (junk' := (pn x :: junk)) (by simp [hj]) ⟨⟨by simp [eGc],by simp [eGc],by simp [eGc]⟩,by simp [eGc],by simp [eGc],by simp [eGc],by simp [eGc]⟩ (by simp [eGc]) (by simp [eGc]) (by simp [eGc])⟩
  ·rw [← hset]; exact setM_view
  ·rw [hrn,List.append_nil]; exact .same (noIdL_app pn_wf (by simp [hj]))
  ·simp [e0,e3,e4,e5,e8,e45,e46,e9,e10,hrn,Nat.add_comm,Nat.add_left_comm]
   exact ⟨.same (by simp),.same (by simp),.same (by simp [nIi]),.same (by simp [aheadV,plist,nIi]),.slc rfl,.same rfl,.same rfl,.mapr rfl,.slc rfl⟩
 by_cases hfit : (rows x).length ≤ junk.length + 1
 ·have hfit2 : st.length + (rows x).length ≤ st.length + 1 + junk.length := by omega
  have hps : psl (st.map pn ++ pn x :: junk) st.length ((rows x).map pn) = (st ++ rows x).map pn ++ (pn x :: junk).drop (rows x).length := by
   simp [psl,List.drop_append]
  have hj2 : noIdL ((pn x :: junk).drop (rows x).length) = true := by
   rw [nIi] at hj ⊢
   intro p hp
   rcases List.mem_cons.1 (List.mem_of_mem_drop hp) with rfl | hp
   ·rfl
   ·exact hj p hp
  have hjl : (st ++ rows x).length + ((pn x :: junk).drop (rows x).length).length = st.length + 1 + junk.length := by simp; omega
  simp [e0,e3,e4,e5,e8,e45,e46,e9,e10,e11,hf,keyOk,w1,c0,c1,c2,c3,hbl,hcb,hr,hx,aheadV,hc0,hcX,plist,rr,hrn,hfit,hfit2]
  refine ⟨_,meas _ hrl2,_,_,Abs.viewL [0,1,2] _ (by simp) (by simp) (fun i h => by omega) (by simp) (.cons ⟨_,rfl,.row (.same (by simp))⟩ (.cons ⟨_,rfl,.map ?_⟩ (.cons ⟨_,rfl,.row ?_⟩ .nil))) ?_,fin (E' := envOf [(0,blks tb bs),(3,blist 4 (reachL bs (-1))),(4,.fz 232 bs.length ((dRw bs).map (blist 4))),(5,.fp [aheadV bs.length rows]),(8,.slc 0 0 (lpT bs h).length (lpT bs h).length),(45,pin bs.length),(46,pn h),(9,pn h),(10,.mapr 1),(11,.slc 2 0 (st ++ rows x).length ((st ++ rows x).length + ((pn x :: junk).drop (rows x).length).length))]) (junk' := ((pn x :: junk).drop (rows x).length)) (hj2) ⟨⟨by simp [eGc],by simp [eGc],by simp [eGc]⟩,by simp [eGc],by simp [eGc],by simp [eGc],by simp [eGc]⟩ (by simp [eGc]) (by simp [eGc]) (by simp [eGc])⟩
  ·rw [← hset]; exact setM_view
  ·rw [hps]; exact .same (noIdL_app pn_wf hj2)
  ·simp [e0,e3,e4,e5,e8,e45,e46,e9,e10]
   exact ⟨.same (by simp),.same (by simp),.same (by simp [nIi]),.same (by simp [aheadV,plist,nIi]),.slc rfl,.same rfl,.same rfl,.mapr rfl,by rw [show st.length + (rows x).length + (junk.length + 1 - (rows x).length) = st.length + 1 + junk.length by omega]; exact .slc rfl⟩
 ·have hfit2 : ¬ st.length + (rows x).length ≤ st.length + 1 + junk.length := by omega
  have hps : cut (st.map pn ++ pn x :: junk) 0 st.length ++ (rows x).map pn = (st ++ rows x).map pn ++ [] := by simp [cut]
  simp [e0,e3,e4,e5,e8,e45,e46,e9,e10,e11,hf,keyOk,w1,c0,c1,c2,c3,hbl,hcb,hr,hx,aheadV,hc0,hcX,plist,rr,hrn,hfit2]
  refine ⟨_,meas _ hrl2,_,_,Abs.viewL [0,1,3] _ (by simp) (by simp) (fun i h => by omega) (by simp) (.cons ⟨_,rfl,.row (.same (by simp))⟩ (.cons ⟨_,rfl,.map ?_⟩ (.cons ⟨_,rfl,.row ?_⟩ .nil))) ?_,fin (E' := envOf [(0,blks tb bs),(3,blist 4 (reachL bs (-1))),(4,.fz 232 bs.length ((dRw bs).map (blist 4))),(5,.fp [aheadV bs.length rows]),(8,.slc 0 0 (lpT bs h).length (lpT bs h).length),(45,pin bs.length),(46,pn h),(9,pn h),(10,.mapr 1),(11,.slc 2 0 (st ++ rows x).length ((st ++ rows x).length + ([] : List PV).length))]) (junk' := ([] : List PV)) (rfl) ⟨⟨by simp [eGc],by simp [eGc],by simp [eGc]⟩,by simp [eGc],by simp [eGc],by simp [eGc],by simp [eGc]⟩ (by simp [eGc]) (by simp [eGc]) (by simp [eGc])⟩
  ·rw [← hset]; exact setM_view
  ·rw [hps]; exact .same (by rw [List.append_nil]; exact pn_wf)
  ·simp [e0,e3,e4,e5,e8,e45,e46,e9,e10]
   exact ⟨.same (by simp),.same (by simp),.same (by simp [nIi]),.same (by simp [aheadV,plist,nIi]),.slc rfl,.same rfl,.same rfl,.mapr rfl,.slc rfl⟩
theorem headIs_ok {x : Lp} {i : Nat} : PPd (.fn 76 [] [.fp [pin i]]) [.agg (encL x)] (pbool (decide (x.head = (i : Int)))) := by
 refine PPc rfl rfl rfl (by simp) (by simp [noId,noIdL]) (by simp [noId,noIdL]) (PW_ok _ ?_)
 simp [ir76,encL,ints]
 exact .same rfl
def headAt (ls : List Lp) (i : Nat) : Int := match ls.findIdx? (fun x => decide (x.head = (i : Int))) with | some k => (k : Int) | none => -1
theorem findIdx_at {α : Type} {p : α → Bool} {l : List α} {i : Nat} (h : i < l.length) (h1 : ∀ x ∈ l.take i,p x = false) (h2 : p l[i] = true) : l.findIdx? p = some i := by
 rw [List.findIdx?_eq_some_iff_getElem]
 refine ⟨h,h2,fun j hj => ?_⟩
 have := h1 l[j] (by rw [List.mem_take_iff_getElem]; exact ⟨j,by omega,rfl⟩)
 simp [this]
def HdJ (ls : List Lp) (i : Nat) (m : Nat) (E : PEnv) (L : List LObj) : Prop := ∃ k : Nat,k + m = ls.length ∧ (∀ x ∈ ls.take k,decide (x.head = (i : Int)) = false) ∧ L = [] ∧
 Has E [(0,recs 131 encL ls),(1,.fn 76 [] [.fp [pin i]]),(7,pin ls.length),(8,pin k)]
theorem indexHead_ok {ls : List Lp} {i : Nat} (hl : ls.length ≤ 1000) : PPd (.fn 140 [] []) [recs 131 encL ls,.fn 76 [] [.fp [pin i]]] (pin (headAt ls i)) := by
 have hb : big ls.length := by unfold big; omega
 refine PPc rfl rfl rfl (by simp) (by simp [recs,noId,noIdL]) (by simp) (PW_ok _ ?_)
 simp [ir140,recs]
 refine PCl (HdJ ls i) ?_ (k := ls.length) ⟨0,by omega,by simp,rfl,by simp [recs]⟩
 rintro m E L ⟨k,hkm,hc,rfl,⟨e0,e1,e7,e8, -⟩⟩
 by_cases hk : k < ls.length
 ·have hcut : cut (ls.flatMap encL) (k * 2) 2 = encL ls[k] := cutk encL_len hk
  have hd := headIs_ok (x := ls[k]) (i := i)
  have hone : allOne (encL ls[k]) := by simp [encL,ints,allOne_cons,allOne_nil,pone]
  have hx := findIdx_at (p := fun x : Lp => decide (x.head = (i : Int))) hk hc
  have hstep : decide (ls[k].head = (i : Int)) = false → ∀ x ∈ ls.take (k + 1),decide (x.head = (i : Int)) = false := fun h x hx => by
   rw [List.take_succ_eq_append_getElem hk] at hx
   rcases List.mem_append.1 hx with h1 | h1
   ·exact hc x h1
   ·have : x = ls[k] := by simpa using h1
    rw [this]; exact h
  generalize ls[k] = y at *
  simp [e0,e1,e7,e8,hk,recs,hcut,hone]
  refine hd.runk ?_
  by_cases hm : y.head = (i : Int)
  ·have := hx (by simpa using hm)
   simp [hm,headAt,this]
   exact .same rfl
  ·have := hstep (by simpa using hm)
   simp [hm,e0,e1,e7,e8,wnc hk hb]
   exact GoOn.same (m - 1) (by omega) ⟨k + 1,by omega,this,rfl,by simp [e0,e1,e7,recs]⟩
 ·have hie : k = ls.length := by omega
  subst hie
  rw [List.take_length] at hc
  have : ls.findIdx? (fun x => decide (x.head = (i : Int))) = none := by rw [List.findIdx?_eq_none_iff]; exact hc
  simp [e0,e1,e7,e8,headAt,this]
  exact .same rfl
theorem hasHead_ok {ls : List Lp} {i : Nat} (hl : ls.length ≤ 1000) : PPd (.fn 75 [] []) [recs 131 encL ls,.fn 76 [] [.fp [pin i]]] (pbool (ls.any fun x => decide (x.head = (i : Int)))) := by
 refine PPc rfl rfl rfl (by simp) (by simp [recs,noId,noIdL]) (by simp) (PW_ok _ ?_)
 simp [ir75]
 refine (indexHead_ok hl).runk ?_
 have : (ls.any fun x => decide (x.head = (i : Int))) = decide (0 ≤ headAt ls i) := by
  unfold headAt
  cases h : ls.findIdx? (fun x => decide (x.head = (i : Int))) with
  | some k =>
   have h1 := List.findIdx?_eq_some_iff_getElem.1 h
   obtain ⟨h2,h3,_⟩ := h1
   have : (ls.any fun x => decide (x.head = (i : Int))) = true := List.any_eq_true.2 ⟨_,List.getElem_mem h2,h3⟩
   rw [this]; simp
  | none =>
   rw [List.findIdx?_eq_none_iff] at h
   have : (ls.any fun x => decide (x.head = (i : Int))) = false := by
    rw [List.any_eq_false]; intro x hx; rw [h x hx]; simp
   rw [this]; simp
 rw [this]
 simp
 exact .same rfl
theorem cutL {t : TypeId} {ls : List (List Int)} {k : Nat} (h : k < ls.length) : cut (ls.map (ints t)) k 1 = [ints t ls[k]] := cut1 h
theorem awakeV_ok : PPd (.fn 14 [] []) [] (pbool true) := by
 intro q L A ρ ζ H dv dargs gz hr hv ha
 obtain ⟨a',c',rfl,h1,h2⟩ := hv.fn_inv
 obtain rfl := ha.nil_left
 have e1 := h1.nil_left
 have e2 := h2.nil_left
 refine ⟨.bool true,H,⟨1,fun m hm => ?_⟩,ρ,ζ,pbool true,L,.refl _ _,.refl _,hr,.v rfl,Only.refl _ _,fun _ => Only.refl _ _,Nat.le_refl _,rfl,rfl⟩
 obtain ⟨k,rfl⟩ : ∃ k,m = k + 1 := ⟨m - 1,by omega⟩
 obtain ⟨g,hg⟩ := hr
 have hs : GlRows H := by
  intro k z hk
  obtain ⟨h3,_⟩ := hg.frz _ _ (gz k z hk)
  obtain ⟨ro,thr,tip,h4⟩ := h3.at_
  obtain ⟨cs',t',ro',ex',thr',tip',h5,h6⟩ := h3.root
  obtain ⟨e3,e4⟩ := glZ_self hk
  rw [e3] at h4 h5
  rw [h4] at h5
  cases h5
  rw [e4] at h4
  exact ⟨ro,thr,tip,h4,h6⟩
 simp [den,XA,xAwake,e1,e2,hs]
def ElJ (t : TypeId) (ls : List (List Int)) (m : Nat) (E : PEnv) (L : List LObj) : Prop := ∃ i : Nat,i + m = ls.length ∧ L = [] ∧ Has E [(1,lists2 t ls),(2,.fn 50 [] []),(15,lists2 t ls),(16,pin ls.length),(17,pin i)]
theorem eqLists_ok {t : TypeId} {ls : List (List Int)} (hb : big ls.length) (hl : ∀ l ∈ ls,big l.length) : PPd (.fn 88 [] []) [lists2 t ls,lists2 t ls,.fn 50 [] []] (pbool true) := by
 refine PPc rfl rfl rfl (by simp) (by simp [noId]) (by simp) (PW_ok _ ?_)
 simp [ir88,lists2]
 refine PCl (ElJ t ls) ?_ (k := ls.length) ⟨0,by simp,rfl,by simp [lists2]⟩
 rintro m E L ⟨i,him,rfl,⟨e1,e2,e15,e16,e17, -⟩⟩
 by_cases hi : i < ls.length
 ·have hcut := cutL (t := 3) hi
  simp [e1,e2,e15,e16,e17,hi,lists2,hcut]
  refine (eqInts_ok (t := 3) (t' := 3) (a := ls[i]) (b := ls[i]) (hl _ (List.getElem_mem hi))).runk ?_
  simp [e1,e2,e15,e16,e17,wnc hi hb]
  exact GoOn.same (m - 1) (by omega) ⟨i + 1,by omega,rfl,by simp [e1,e2,e15,e16,lists2]⟩
 ·simp [e1,e2,e15,e16,e17,hi]
  exact .same rfl
theorem lists_ok {t : TypeId} {ls : List (List Int)} (hb : big ls.length) (hl : ∀ l ∈ ls,big l.length) : PPd (.fn 22 [] []) [lists2 t ls,lists2 t ls] (pbool true) := by
 refine PPc rfl rfl rfl (by simp) (by simp) (by simp) (PW_ok _ ?_)
 simp [ir22]
 refine (eqLists_ok hb hl).runk ?_
 simp
 exact .same rfl
theorem small_few {most : Int} : ∀ {l : List FBody} {n : Int},0 ≤ n → fewB most n l = true → ∀ b ∈ l,(b.code.length : Int) ≤ most ∧ ∀ i ∈ b.code,i.list.length ≤ 20 ∧ i.text.length ≤ 60 := by
 intro l
 induction l with
 | nil => intro n _ _ b hb; simp at hb
 | cons a l ih =>
  intro n hn h b hb
  rw [fewB_cons] at h
  simp only [Bool.and_eq_true,decide_eq_true_eq] at h
  obtain ⟨⟨⟨⟨h1,_⟩,_⟩,h2⟩,h3⟩ := h
  rcases List.mem_cons.1 hb with rfl | hb
  ·refine ⟨by omega,fun i hi => ?_⟩
   unfold fewI at h2
   have := List.all_eq_true.1 h2 i hi
   simpa using this
  ·exact ih (by omega) h3 b hb
theorem small_okC {c : FCode} {most : Int} (hm : most ≤ 1000000) (h : smallB c most = true) : OkC c ∧ ∀ b ∈ c.bodies,∀ i ∈ b.code,i.list.length ≤ 1000 := by
 unfold smallB at h
 simp only [Bool.and_eq_true,decide_eq_true_eq] at h
 obtain ⟨⟨h1,_⟩,h2⟩ := h
 have hf := small_few (by omega) h2
 refine ⟨⟨by omega,fun b hb => by have := (hf b hb).1; omega,fun b hb i hi => by have := ((hf b hb).2 i hi).1; omega,fun b hb i hi => by have := ((hf b hb).2 i hi).2; omega⟩,fun b hb i hi => by have := ((hf b hb).2 i hi).1; omega⟩
end Go.Den
/- The heads of loops. -/
namespace Go.Den
theorem loopsTo_heads {bs : List Blk} : ∀ (n : Nat),∀ x ∈ lpT bs n,∃ h : Nat,x.head = h ∧ h < n := by
 intro n x hx
 unfold lpT at hx
 obtain ⟨h,hh,rfl⟩ := List.mem_map.1 hx
 have := (List.mem_filter.1 hh).1
 exact ⟨h,rfl,List.mem_range.1 this⟩
theorem loopS_app {a b : List Lp} {i : Nat} : loopS (a ++ b) i = loopS a i ++ loopS b i := by unfold loopS; rw [List.flatMap_append]
theorem loopS_any {bs : List Blk} {i : Nat} : ∀ (n : Nat),loopS (lpT bs n) i = if (lpT bs n).any (fun x => decide (x.head = (i : Int))) then [32,108,111,111,112] else [] := by
 intro n
 induction n with
 | zero => simp [lpT,loopS]
 | succ n ih =>
  by_cases hh : hasLoop bs n
  ·rw [loopsTo_succ hh,loopS_app,List.any_append,ih]
   by_cases hi : i = n
   ·subst hi
    have : ((lpT bs i).any fun x => decide (x.head = (i : Int))) = false := by
     rw [List.any_eq_false]
     intro x hx
     obtain ⟨h,h1,h2⟩ := loopsTo_heads i x hx
     rw [h1]; simp; omega
    rw [this]
    simp [loopS]
   ·have : ¬ ((n : Int) = (i : Int)) := by omega
    simp [loopS,this]
  ·rw [loopsTo_skip hh,ih]
end Go.Den
/- slices.Sort as a contract: what it does to an abstract heap, and to objects. -/
namespace Go.Den
attribute [local irreducible] T.get T.set
theorem intsV_of {ρ : Rho} {ζ : Zeta} : ∀ {zs : List Int} {cs : List Value},VPL ρ ζ (zs.map pin) cs → intsV cs = some zs := by
 intro zs
 induction zs with
 | nil => intro cs h; cases h; rfl
 | cons z zs ih =>
  intro cs h
  cases h with
  | cons h1 h2 =>
   obtain ⟨rfl,_⟩ := h1.v_inv
   simp [intsV,ih h2]
theorem sort_ok {F : FuncId → Option IFunc} {X0 X : Ext} (h0 : X0 82 = some xSort) {zs : List Int} {i c : Nat} {junk : List PV} {L : List LObj} (hL : prow L i = some (3,zs.map pin ++ junk)) (hbg : zs.length < 4611686018427387904) {K : PV → List LObj → Prop}
  (hk : K (.tup []) (L.set i (.row 3 ((sortI zs).map pin ++ junk)))) : PF F X0 X false (.fn 82 [] []) [.slc i 0 zs.length c] L K := by
 intro A ρ ζ H dv dargs gz hr hv ha
 obtain ⟨a',c',rfl,h1,h2⟩ := hv.fn_inv
 have e1 := h1.nil_left
 have e2 := h2.nil_left
 have hLi := prow_some hL
 cases ha with
 | cons ha1 ha2 =>
  cases ha2
  rename_i y
  by_cases hz : zs = []
  ·subst hz
   have hset : L.set i (.row 3 ((sortI []).map pin ++ junk)) = L := by
    have hs0 : sortI [] = [] := by simp [sortI]
    rw [hs0]
    apply List.ext_getElem?
    intro j
    rw [List.getElem?_set]
    by_cases e : i = j
    ·subst e; rw [if_pos rfl,if_pos (List.getElem?_eq_some_iff.1 hLi).1,hLi]
    ·rw [if_neg e]
   rw [hset] at hk
   have hg0 : xSort [y] H = some (.ret (.tuple #[]),H) := by
    rcases ha1.slc_inv with ⟨k,_,_,rfl⟩ | ⟨_,_,_,_,rfl⟩ <;> simp [xSort]
   refine wpF_ext (v := .tuple #[]) (H' := H) h0 (by rw [e1,e2]; simpa using hg0) ?_
   exact ⟨ρ,ζ,.tup [],L,.refl _ _,.refl _,hr,.tup rfl (fun i h => by simp at h),Only.refl _ _,(fun h => by cases h),Nat.le_refl _,hk⟩
  ·have hn : zs.length ≠ 0 := fun h => hz (List.length_eq_zero_iff.1 h)
   obtain ⟨g,hg⟩ := hr
   have hsrc : psrc L 1 (.slc i 0 zs.length c) = some (zs.map pin,zs.length) := by
    simp only [psrc,hL]
    have hcut : cut (zs.map pin ++ junk) 0 (zs.length * 1) = zs.map pin := by simp [cut]
    rw [hcut]
    rw [if_pos ⟨by simp,by simp⟩]
   obtain ⟨cs,hcs,hvl,_⟩ := psrc_ok hg ha1 hsrc
   have hints := intsV_of hvl
   rcases ha1.slc_inv with ⟨k,hρ,hlc,rfl⟩ | ⟨_,_,h3,_,_⟩
   case inr => exact absurd h3 hn
   have hvp : VP ρ ζ (.ptr i 0) (.pointer (some ⟨k,0,none⟩)) := .ptr hρ
   have hva : VP ρ ζ (.agg ((sortI zs).map pin)) (.agg ((sortI zs).map (.int .i64)).toArray) := by
    refine .agg (by simp) (fun j h h' => ?_)
    simp only [List.getElem_map,List.getElem_toArray]
    exact .v rfl
   have hE : EnvP ρ ζ ((T.leaf.set 0 (.ptr i 0)).set 1 (.agg ((sortI zs).map pin))) (((T.leaf : Env).set 0 (.pointer (some ⟨k,0,none⟩))).set 1 (.agg ((sortI zs).map (.int .i64)).toArray)) :=
    EnvP.set (EnvP.set (fun j p h => by rw [T.get_leaf] at h; cases h) hvp) hva
   have hpev : pev ((T.leaf.set 0 (.ptr i 0)).set 1 (.agg ((sortI zs).map pin))) L (.store zs.length (.tmp 0) (.tmp 1)) = some (.tup [],L.set i (.row 3 (psl (zs.map pin ++ junk) 0 ((sortI zs).map pin))),false) := by
    simp [hLi,allOne]
   obtain ⟨x,H',ρ',hev,hle,hrh,_,honly,_⟩ := pev_ok gz hg hE hpev
   have hst : storeV H zs.length (.pointer (some ⟨k,0,none⟩)) (.agg ((sortI zs).map (.int .i64)).toArray) = some H' := by
    have h5 := hev (fun _ _ _ => none)
    simp only [ev,ea,T.get_set,if_true,show ((0 : Nat) = 1) = False from by simp,if_false] at h5
    cases h6 : storeV H zs.length (.pointer (some ⟨k,0,none⟩)) (.agg ((sortI zs).map (.int .i64)).toArray) with
    | none => rw [h6] at h5; cases h5
    | some H2 => rw [h6] at h5; simp only [ok1,Option.some.injEq,Prod.mk.injEq] at h5; rw [h5.2]
   have hps : psl (zs.map pin ++ junk) 0 ((sortI zs).map pin) = (sortI zs).map pin ++ junk := by
    simp [psl]
   rw [hps] at hrh
   have hg0 : xSort [.slice (some ⟨k,0,none⟩) zs.length c] H = some (.ret (.tuple #[]),H') := by
    simp only [xSort,if_neg hn,if_neg (Nat.not_le.2 hbg),hcs,hints,hst]
   refine wpF_ext (v := .tuple #[]) (H' := H') h0 (by rw [e1,e2]; simpa using hg0) ?_
   exact ⟨ρ',ζ,.tup [],_,.refl _ _,hle,hrh,.tup rfl (fun i h => by simp at h),honly,(fun h => by cases h),by simp,hk⟩
end Go.Den
/- Cls, part D: from the row's reading of an argument to trees. -/
namespace Go.Den
variable {P : Program} {w : World} {H : Type} {enc : TypeId × Value → H} {held : Bool}
def inRow (P : Program) : Nat → Nat → List Field → Bool
 | o,n,[] => o == n
 | o,n,f :: fs => f.offset == o && inRow P (o + P.cellsOf f.type) n fs
def plainT (P : Program) : Nat → TypeId → Bool
 | 0,_ => false
 | d + 1,t => match P.underlying t with
  | some .bool | some .string => true
  | some (.int k) => k != .u8
  | some (.slice e) => plainT P d e && Nat.blt 0 (P.cellsOf e) && szOf P e == some (P.cellsOf e) && Nat.blt 0 (P.bytesOf e)
  | some (.struct fs) => fs.toList.all (fun f => plainT P d f.type) && inRow P 0 (P.cellsOf t) fs.toList
  | _ => false
inductive Shp (P : Program) : TypeId → List PV → Prop
 | bool {t : TypeId} {b : Bool} : P.underlying t = some .bool → Shp P t [.v (.bool b)]
 | int {t : TypeId} {k : IntKind} {n : Int} : P.underlying t = some (.int k) → (Lit.int k n).wf = true → Shp P t [.v (.int k n)]
 | string {t : TypeId} {s : ByteArray} : P.underlying t = some .string → s.size ≤ reachBytes → Shp P t [.v (.string s)]
 | slice {t e : TypeId} {pss : List (List PV)} : P.underlying t = some (.slice e) → pss.length ≤ reachBytes → (∀ i (h : i < pss.length),Shp P e pss[i]) → Shp P t [.fz e pss.length pss.flatten]
 | struct {t : TypeId} {fs : Array Field} {pss : List (List PV)} : P.underlying t = some (.struct fs) → (hl : pss.length = fs.size) → (∀ i (h : i < pss.length) (h' : i < fs.size),Shp P fs[i].type pss[i]) → Shp P t pss.flatten
def kindU8 : Value → Bool
 | .int .u8 _ => true
 | _ => false
def BytesAt (hp : Array Obj) : Prop := ∀ b,(glZ b).isSome = true → ∀ ccs ct fr,hp[b]? = some (.cells ccs ct fr) → ∀ c ∈ ccs.toList,kindU8 c = true
theorem cells?_run {a : Addr} {n : Nat} {cs : List Value} (h : w.cells? 0 a n = some cs) : cs.length = n ∧ (0 < n → a.spot = none ∧ ∃ ccs ct fr,w.heap[a.block]? = some (.cells ccs ct fr) ∧ a.off + n ≤ ccs.size ∧ cs = (ccs.toList.drop a.off).take n) := by
 unfold World.cells? at h
 rw [if_pos (Nat.zero_le _)] at h
 have hl := mapM_some_length h
 simp only [List.length_range] at hl
 refine ⟨hl,fun hn => ?_⟩
 have hg : ∀ i,i < n → w.cell? (a.add i) = cs[i]? := fun i hi => mapM_some_get h i i (by simp [hi])
 have h0 := hg 0 hn
 rw [List.getElem?_eq_getElem (by omega)] at h0
 have hs : a.spot = none := by
  have := World.cell?_spot h0
  simpa [Addr.add] using this
 refine ⟨hs, ?_⟩
 have hcell : ∀ i,i < n → ∃ ccs ct fr,w.heap[a.block]? = some (.cells ccs ct fr) ∧ ccs[a.off + i]? = cs[i]? := by
  intro i hi
  have h1 := hg i hi
  have h2 : (a.add i).block = a.block ∧ (a.add i).off = a.off + i ∧ (a.add i).spot = none := by
   unfold Addr.add
   split
   ·rename_i h; subst h; exact ⟨rfl,rfl,hs⟩
   ·exact ⟨rfl,rfl,rfl⟩
  unfold World.cell? at h1
  rw [h2.1,h2.2.1,h2.2.2] at h1
  rw [List.getElem?_eq_getElem (by omega)] at h1 ⊢
  split at h1
  ·rename_i c t fr hb
   exact ⟨c,t,fr,hb,by simpa using h1⟩
  ·cases h1
 obtain ⟨ccs,ct,fr,hb,_⟩ := hcell 0 hn
 refine ⟨ccs,ct,fr,hb, ?_, ?_⟩
 ·obtain ⟨ccs',ct',fr',hb',hc⟩ := hcell (n - 1) (by omega)
  rw [hb] at hb'
  cases hb'
  rw [List.getElem?_eq_getElem (by omega)] at hc
  have := (Array.getElem?_eq_some_iff.1 hc).1
  omega
 ·refine List.ext_getElem? fun i => ?_
  rw [List.getElem?_take]
  by_cases hi : i < n
  ·rw [if_pos hi,List.getElem?_drop]
   obtain ⟨ccs',ct',fr',hb',hc⟩ := hcell i hi
   rw [hb] at hb'
   cases hb'
   exact hc.symm.trans Array.getElem?_toList.symm
  ·rw [if_neg hi,List.getElem?_eq_none (by omega)]
theorem F2.flatten {α β : Type} {R : α → β → Prop} : ∀ {as : List (List α)} {bs : List (List β)},as.length = bs.length → (∀ i (h : i < as.length) (h' : i < bs.length),F2 R as[i] bs[i]) → F2 R as.flatten bs.flatten
 | [],[],_,_ => .nil
 | a :: as,b :: bs,hl,h => by
  simp only [List.flatten_cons]
  exact (h 0 (by simp) (by simp)).append (F2.flatten (by simpa using hl) fun i h1 h2 => h (i + 1) (Nat.succ_lt_succ h1) (Nat.succ_lt_succ h2))
 | [],_ :: _,hl,_ => by simp at hl
 | _ :: _,[],hl,_ => by simp at hl
theorem flatten_cut {α : Type} (l : List α) (o k : Nat) : ∀ n,o + n * k ≤ l.length → ((List.range n).map fun i => (l.drop (o + i * k)).take k).flatten = (l.drop o).take (n * k)
 | 0,_ => by simp
 | n + 1,h => by
  rw [Nat.succ_mul] at h
  rw [List.range_succ,List.map_append,List.flatten_append,flatten_cut l o k n (by omega)]
  simp only [List.map_cons,List.map_nil,List.flatten_cons,List.flatten_nil,List.append_nil]
  rw [Nat.succ_mul,List.take_add,List.drop_drop]
theorem fields_cut (P : Program) (cs : List Value) : ∀ {fs : List Field} {o n : Nat},inRow P o n fs = true → cs.length = n → o ≤ n → (fs.map fun f => (cs.drop f.offset).take (P.cellsOf f.type)).flatten = cs.drop o
 | [],o,n,h,hl,ho => by
  simp only [inRow,beq_iff_eq] at h
  subst h
  rw [List.drop_of_length_le (by omega)]; rfl
 | f :: fs,o,n,h,hl,ho => by
  simp only [inRow,Bool.and_eq_true,beq_iff_eq] at h
  obtain ⟨h1,h2⟩ := h
  subst h1
  simp only [List.map_cons,List.flatten_cons]
  by_cases hlt : f.offset + P.cellsOf f.type ≤ n
  ·rw [fields_cut P cs h2 hl hlt,← List.drop_drop,List.take_append_drop]
  ·exfalso
   have : ∀ (fs : List Field) (o : Nat),inRow P o n fs = true → o ≤ n := by
    intro fs
    induction fs with
    | nil => intro o h; simp only [inRow,beq_iff_eq] at h; omega
    | cons f fs ih =>
     intro o h
     simp only [inRow,Bool.and_eq_true,beq_iff_eq] at h
     have := ih _ h.2
     omega
   exact hlt (this _ _ h2)
def Got (P : Program) (w : World) (t : TypeId) (cs : List Value) : Prop :=
 ∃ ws pvs,RdL ws pvs cs ∧ (∀ v ∈ ws,WinOk P w.heap ws v) ∧ Shp P t pvs ∧ ∀ c ∈ cs,kindU8 c = false
theorem Got.all {n : Nat} {t : Nat → TypeId} {cs : Nat → List Value} (h : ∀ i,i < n → Got P w (t i) (cs i)) :
  ∃ ws,∃ pss : List (List PV),pss.length = n ∧ (∀ v ∈ ws,WinOk P w.heap ws v) ∧ ∀ i (hi : i < pss.length),RdL ws pss[i] (cs i) ∧ Shp P (t i) pss[i] := by
 induction n with
 | zero => exact ⟨[],[],rfl,fun v hv => by simp at hv,fun i hi => absurd hi (by simp)⟩
 | succ n ih =>
  obtain ⟨ws,pss,h1,h2,h3⟩ := ih fun i hi => h i (by omega)
  obtain ⟨ws',pvs,g1,g2,g3,_⟩ := h n (by omega)
  refine ⟨ws ++ ws',pss ++ [pvs],by simp [h1],fun v hv => ?_,fun i hi => ?_⟩
  ·rcases List.mem_append.1 hv with hv | hv
   ·exact (h2 v hv).mono fun x hx => List.mem_append_left _ hx
   ·exact (g2 v hv).mono fun x hx => List.mem_append_right _ hx
  ·by_cases hlt : i < pss.length
   ·rw [List.getElem_append_left hlt]
    exact ⟨(h3 i hlt).1.mono fun x hx => List.mem_append_left _ hx,(h3 i hlt).2⟩
   ·have hie : i = pss.length := by simp at hi; omega
    subst hie
    rw [List.getElem_append_right (Nat.le_refl _)]
    simp only [Nat.sub_self,List.getElem_cons_zero]
    rw [h1]
    exact ⟨g1.mono fun x hx => List.mem_append_right _ hx,g3⟩
theorem weightsAll_mem {P : Program} {e : TypeId} {n : Nat} : ∀ {ds : List (DataW H)} {d : DataW H},d ∈ ds → n ∈ d.weights P e → n ∈ DataW.weightsAll P e ds
 | a :: ds,d,hd,hn => by
  unfold DataW.weightsAll
  rcases List.mem_cons.1 hd with rfl | hd
  ·exact List.mem_append_left _ hn
  ·exact List.mem_append_right _ (weightsAll_mem hd hn)
theorem got_of_trod (hby : BytesAt w.heap) : ∀ (d : Nat) {fuel : Nat} {t : TypeId} {cs : List Value} {x : DataW H × List MemPlace},plainT P d t = true → (∀ n ∈ x.1.weights P t,n ≤ reachBytes) → DataW.trod enc P w 0 (fun _ => true) held fuel t cs = some x → Got P w t cs
 | 0,_,_,_,_,hp,_,_ => by simp [plainT] at hp
 | d + 1,fuel,t,cs,x,hp,hwt,h => by
  unfold plainT at hp
  split at hp
  ·rename_i ht
   obtain ⟨b,rfl,_⟩ := DataW.trod_bool ht h
   exact ⟨[],[.v (.bool b)],.cons (.v rfl) .nil,fun v hv => by simp at hv,.bool ht,fun c hc => by simp at hc; subst hc; rfl⟩
  ·rename_i ht
   obtain ⟨s,rfl,rfl,_⟩ := DataW.trod_string ht h
   have hs : s.size ≤ reachBytes := by
    exact hwt s.data.toList.length (by rw [DataW.weights]; exact List.mem_cons_self ..)
   exact ⟨[],[.v (.string s)],.cons (.v rfl) .nil,fun v hv => by simp at hv,.string ht hs,fun c hc => by simp at hc; subst hc; rfl⟩
  ·rename_i k ht
   obtain ⟨n,rfl,_,hn⟩ := DataW.trod_int ht h
   refine ⟨[],[.v (.int k n)],.cons (.v rfl) .nil,fun v hv => by simp at hv,.int ht hn,fun c hc => ?_⟩
   simp only [List.mem_singleton] at hc
   subst hc
   cases k <;> first | rfl | (simp at hp)
  ·rename_i e ht
   simp only [Bool.and_eq_true,Nat.blt_eq,beq_iff_eq] at hp
   obtain ⟨⟨⟨hp1,hp2⟩,hp3⟩,hp4⟩ := hp
   rcases DataW.trod_slice ht h with ⟨rfl,_⟩ | ⟨a,len,cap,elems,rest,n,_,rfl,hx,_,hlc,hcm,hel0,he,hr,_⟩
   ·refine ⟨[],[.fz e 0 []],.cons .fz0 .nil,fun v hv => by simp at hv, ?_,fun c hc => by simp at hc; subst hc; rfl⟩
    have := Shp.slice (P := P) (pss := []) ht (Nat.zero_le _) (fun i h => by simp at h)
    exact this
   obtain ⟨hr1,hr2⟩ := hr rfl
   subst hx
   have hwe : ∀ y ∈ elems ++ rest,∀ n ∈ y.1.weights P e,n ≤ reachBytes := fun y hy n hn => hwt n (by
    have hu : (DataW.slice (elems.map (·.1)) (rest.map (·.1)) : DataW H).weights P t = ((elems.map (·.1)).length + (rest.map (·.1)).length) * P.bytesOf e :: (DataW.weightsAll P e (elems.map (·.1)) ++ DataW.weightsAll P e (rest.map (·.1))) := by rw [DataW.weights,ht]
    rw [hu]
    refine List.mem_cons_of_mem _ ?_
    rcases List.mem_append.1 hy with hy | hy
    ·exact List.mem_append_left _ (weightsAll_mem (List.mem_map.2 ⟨y,hy,rfl⟩) hn)
    ·exact List.mem_append_right _ (weightsAll_mem (List.mem_map.2 ⟨y,hy,rfl⟩) hn))
   have hcapr : cap ≤ reachBytes := by
    have := hwt ((elems.length + rest.length) * P.bytesOf e) (by
     have hu : (DataW.slice (elems.map (·.1)) (rest.map (·.1)) : DataW H).weights P t = ((elems.map (·.1)).length + (rest.map (·.1)).length) * P.bytesOf e :: (DataW.weightsAll P e (elems.map (·.1)) ++ DataW.weightsAll P e (rest.map (·.1))) := by rw [DataW.weights,ht]
     rw [hu]; simp)
    have h5 : elems.length + rest.length = cap := by omega
    rw [h5] at this
    exact Nat.le_trans (Nat.le_mul_of_pos_right _ hp4) this
   -- all elements up to the capacity
   have hall : ∀ i,i < cap → ∃ cs',w.cells? 0 (a.add (i * P.cellsOf e)) (P.cellsOf e) = some cs' ∧ Got P w e cs' := by
    intro i hi
    have key : ∀ {o : Option (DataW H × List MemPlace)},o.isSome = true → (∀ y,o = some y → y ∈ elems ++ rest) → (w.cells? 0 (a.add (i * P.cellsOf e)) (P.cellsOf e)).bind (DataW.trod enc P w 0 (fun _ => true) held n e) = o → ∃ cs',w.cells? 0 (a.add (i * P.cellsOf e)) (P.cellsOf e) = some cs' ∧ Got P w e cs' := by
     intro o ho hmm hb
     obtain ⟨y,rfl⟩ := Option.isSome_iff_exists.1 ho
     obtain ⟨cs',h1,h2⟩ := Option.bind_eq_some_iff.1 hb
     exact ⟨cs',h1,got_of_trod hby d hp1 (hwe y (hmm y rfl)) h2⟩
    by_cases hil : i < len
    ·exact key (by rw [List.getElem?_eq_getElem (by omega)]; rfl) (fun y hy => List.mem_append_left _ (List.mem_of_getElem? hy)) (he i hil)
    ·have := hr2 (i - len) (by omega)
     rw [show len + (i - len) = i by omega] at this
     exact key (by rw [List.getElem?_eq_getElem (by omega)]; rfl) (fun y hy => List.mem_append_right _ (List.mem_of_getElem? hy)) this
   by_cases hc0 : cap = 0
   ·subst hc0
    obtain rfl : len = 0 := by omega
    refine ⟨[],[.fz e 0 []],.cons .fz0 .nil,fun v hv => by simp at hv, ?_,fun c hc => by simp at hc; subst hc; rfl⟩
    exact Shp.slice (P := P) (pss := []) ht (Nat.zero_le _) (fun i h => by simp at h)
   -- the block
   obtain ⟨c0,h0,g0⟩ := hall 0 (by omega)
   simp only [Nat.zero_mul,Addr.add,if_true] at h0
   obtain ⟨hl0,hz0⟩ := cells?_run h0
   obtain ⟨hs,ccs,ct,fr,hb,hf0,hc0'⟩ := hz0 hp2
   have hel : ∀ i,i < cap → (a.off + i * P.cellsOf e) + P.cellsOf e ≤ ccs.size ∧ Got P w e ((ccs.toList.drop (a.off + i * P.cellsOf e)).take (P.cellsOf e)) := by
    intro i hi
    obtain ⟨cs',h1,h2⟩ := hall i hi
    obtain ⟨_,hz⟩ := cells?_run h1
    obtain ⟨_,ccs',ct',fr',hb',hf',hc'⟩ := hz hp2
    have h3 : (a.add (i * P.cellsOf e)).block = a.block ∧ (a.add (i * P.cellsOf e)).off = a.off + i * P.cellsOf e := by
     unfold Addr.add
     split
     ·rename_i h; rw [h]; exact ⟨rfl,rfl⟩
     ·exact ⟨rfl,rfl⟩
    rw [h3.1,hb] at hb'
    cases hb'
    rw [h3.2] at hf' hc'
    exact ⟨hf',hc' ▸ h2⟩
   have hap : glZ a.block = none := by
    cases hg : glZ a.block with
    | none => rfl
    | some z =>
     exfalso
     obtain ⟨_,_,_,_,_,hu⟩ := g0
     have hmem : c0[0]'(by omega) ∈ ccs.toList := by
      have h9 : ∀ y ∈ c0,y ∈ ccs.toList := fun y hy => by rw [hc0'] at hy; exact List.mem_of_mem_drop (List.mem_of_mem_take hy)
      exact h9 _ (List.getElem_mem _)
     have h1 := hby a.block (by rw [hg]; rfl) ccs ct fr hb _ hmem
     have h2 := hu (c0[0]'(by omega)) (List.getElem_mem _)
     rw [h1] at h2; cases h2
   obtain ⟨ws,pss,p1,p2,p3⟩ := Got.all (P := P) (w := w) (n := len) (t := fun _ => e) (cs := fun i => (ccs.toList.drop (a.off + i * P.cellsOf e)).take (P.cellsOf e)) fun i hi => (hel i (by omega)).2
   have hfit : a.off + len * P.cellsOf e ≤ ccs.toList.length := by
    rcases Nat.eq_zero_or_pos len with h | h
    ·subst h; simp; omega
    ·have := (hel (len - 1) (by omega)).1
     obtain ⟨m,rfl⟩ : ∃ m,len = m + 1 := ⟨len - 1,by omega⟩
     rw [Nat.add_sub_cancel] at this
     rw [Nat.succ_mul]; simp; omega
   let v : Win := ⟨a.block,a.off,e,pss.flatten,(ccs.toList.drop a.off).take (len * P.cellsOf e)⟩
   have hvx : v.xs.length = len * P.cellsOf e := by
    show ((ccs.toList.drop a.off).take (len * P.cellsOf e)).length = _
    rw [List.length_take,List.length_drop]; omega
   have hsub : ∀ x ∈ ws,x ∈ v :: ws := fun x hx => List.mem_cons_of_mem _ hx
   have hv : WinOk P w.heap (v :: ws) v := by
    refine ⟨⟨ccs,ct,fr,hb, ?_, ?_⟩, ?_,⟨_,hp2,hp3⟩,hap⟩
    ·rw [hvx]; simpa using hfit
    ·rw [hvx]
    ·show RdL (v :: ws) pss.flatten ((ccs.toList.drop a.off).take (len * P.cellsOf e))
     rw [← flatten_cut _ _ _ len hfit]
     refine F2.flatten (by simp [p1]) fun i h1 h2 => ?_
     simp only [List.getElem_map,List.getElem_range]
     exact (p3 i h1).1.mono hsub
   refine ⟨v :: ws,[.fz e len pss.flatten],.cons ?_ .nil,fun x hx => ?_, ?_,fun c hc => by simp at hc; subst hc; rfl⟩
   ·obtain ⟨ab,ao,as⟩ := a
    simp only at hs
    subst hs
    exact .fz (w := v) (List.mem_cons_self ..) hlc
   ·rcases List.mem_cons.1 hx with rfl | hx
    ·exact hv
    ·exact (p2 x hx).mono hsub
   ·subst p1
    exact .slice ht (by omega) fun i hi => (p3 i hi).2
  ·rename_i fs ht
   simp only [Bool.and_eq_true,List.all_eq_true] at hp
   obtain ⟨hp1,hp2⟩ := hp
   obtain ⟨xs,n,_,hxx,hl,hxl,hx⟩ := DataW.trod_struct ht h
   subst hxx
   have hgi : ∀ i (hi : i < fs.size),Got P w fs[i].type ((cs.drop fs[i].offset).take (P.cellsOf fs[i].type)) := by
    intro i hi
    have h1 := hx i fs[i] (Array.getElem?_eq_getElem hi)
    rw [List.getElem?_eq_getElem (by omega)] at h1
    refine got_of_trod hby d (hp1 _ (by simp)) (fun n hn => hwt n ?_) h1
    have hu : (DataW.agg (xs.map (·.1)) : DataW H).weights P t = DataW.weightsEach P (fs.toList.map (·.type)) (xs.map (·.1)) := by rw [DataW.weights,ht]
    rw [hu]
    exact DataW.weights_mem_each (j := i) (t := fs[i].type) (d := xs[i].1) (by simp [hi]) (by simp [show i < xs.length by omega]) n hn
   obtain ⟨ws,pss,p1,p2,p3⟩ := Got.all (P := P) (w := w) (n := fs.size) (t := fun i => (fs.getD i default).type) (cs := fun i => (cs.drop (fs.getD i default).offset).take (P.cellsOf (fs.getD i default).type)) fun i hi => by
    simp only [Array.getD,hi,dite_true]
    exact hgi i hi
   have hcs : ((fs.toList.map fun f => (cs.drop f.offset).take (P.cellsOf f.type))).flatten = cs := by
    rw [fields_cut P cs hp2 hl (Nat.zero_le _),List.drop_zero]
   refine ⟨ws,pss.flatten, ?_,p2, ?_,fun c hc => ?_⟩
   ·rw [← hcs]
    refine F2.flatten (by simp [p1]) fun i h1 h2 => ?_
    have := (p3 i h1).1
    have hi : i < fs.size := by omega
    simp only [Array.getD,hi,dite_true] at this
    simpa using this
   ·refine .struct ht p1 fun i h1 h2 => ?_
    have := (p3 i h1).2
    simp only [Array.getD,h2,dite_true] at this
    exact this
   ·rw [← hcs,List.mem_flatten] at hc
    obtain ⟨l,hl1,hl2⟩ := hc
    obtain ⟨f,hf1,rfl⟩ := List.mem_map.1 hl1
    obtain ⟨i,hi,rfl⟩ := List.getElem_of_mem hf1
    obtain ⟨_,_,_,_,_,hu⟩ := hgi i (by simpa using hi)
    exact hu c (by simpa using hl2)
  ·cases hp
end Go.Den
/- copyCheck and String of builders on objects. -/
namespace Go.Den
attribute [local irreducible] T.get T.set
theorem XA_check : XA 138 = some (xCheck 141) := by unfold XA; rw [if_neg (by decide),if_neg (by decide),if_neg (by decide),if_pos rfl]
theorem XA_str : XA 77 = some (xStr 5) := by unfold XA; rw [if_neg (by decide),if_neg (by decide),if_neg (by decide),if_neg (by decide),if_pos rfl]
theorem list2 {α : Type} {l : List α} (h : l.length = 2) : ∃ a b,l = [a,b] := by
 match l,h with
 | [a,b],_ => exact ⟨a,b,rfl⟩
theorem check_pf {i : Nat} {p s : PV} {L : List LObj} (hL : L[i]? = some (.row 141 [p,s])) (hp : p = .v (.pointer none) ∨ p = .ptr i 0) (hs : nl s = true) (ho : pone s = true) {K : PV → List LObj → Prop}
  (hk : K (.tup []) (L.set i (.row 141 [.ptr i 0,s]))) : PF FD XA XN false (.fn 138 [] []) [.ptr i 0] L K := by
 intro A ρ ζ H dv dargs gz hr hv ha
 obtain ⟨a',c',rfl,h1,h2⟩ := hv.fn_inv
 have e1 := h1.nil_left
 have e2 := h2.nil_left
 have hLi : prow L i = some (141,[p,s]) := by unfold prow; rw [hL]
 cases ha with
 | cons ha1 ha2 =>
  cases ha2
  rename_i y
  obtain ⟨k,hρ,rfl⟩ := ha1.ptr_inv
  have hr0 := hr
  obtain ⟨g,hg⟩ := hr
  obtain ⟨hi,r,cells,f',w2,w3,w4,w5,w6⟩ := hg.rowK hLi hρ
  obtain ⟨thr,tip,hget⟩ := w2.ext rfl
  have hrow := w2.rowAt.row
  have hcl := w5.length
  obtain ⟨c0,c1,rfl⟩ := list2 (l := cells) (by rw [← hcl]; rfl)
  obtain ⟨x0,hx0,hp0⟩ := w5.get (o := 0) (p := p) rfl
  cases hx0
  rcases hp with rfl | rfl
  ·have hc0 := (hp0.nl rfl).v_inv.1
   subst hc0
   have hvp : VP ρ ζ (.ptr i 0) (.pointer (some ⟨k,0,none⟩)) := .ptr hρ
   have hE : EnvP ρ ζ ((T.leaf.set 0 (.ptr i 0)).set 1 (.ptr i 0)) (((T.leaf : Env).set 0 (.pointer (some ⟨k,0,none⟩))).set 1 (.pointer (some ⟨k,0,none⟩))) :=
    EnvP.set (EnvP.set (fun j p h => by rw [T.get_leaf] at h; cases h) hvp) hvp
   have hpev : pev ((T.leaf.set 0 (.ptr i 0)).set 1 (.ptr i 0)) L (.store 1 (.tmp 0) (.tmp 1)) = some (.tup [],L.set i (.row 141 (psl [.v (.pointer none),s] 0 [.ptr i 0])),false) := by
    simp [hL]
   obtain ⟨x,H',ρ',hev,hle,hrh,_,honly,_⟩ := pev_ok gz hg hE hpev
   have hst : storeV H 1 (.pointer (some ⟨k,0,none⟩)) (.pointer (some ⟨k,0,none⟩)) = some H' := by
    have h5 := hev (fun _ _ _ => none)
    simp only [ev,ea,T.get_set,if_true,show ((0 : Nat) = 1) = False from by simp,if_false] at h5
    cases h6 : storeV H 1 (.pointer (some ⟨k,0,none⟩)) (.pointer (some ⟨k,0,none⟩)) with
    | none => rw [h6] at h5; cases h5
    | some H2 => rw [h6] at h5; simp only [ok1,Option.some.injEq,Prod.mk.injEq] at h5; rw [h5.2]
   have hw : H.write k [.pointer (some ⟨k,0,none⟩),c1] = some H' := by
    unfold storeV at hst
    simp only [hrow] at hst
    simpa [vcl,splice,one] using hst
   have hps : psl [.v (.pointer none),s] 0 [.ptr i 0] = [.ptr i 0,s] := rfl
   rw [hps] at hrh
   have hg0 : xCheck 141 [.pointer (some ⟨k,0,none⟩)] H = some (.ret (.tuple #[]),H') := by
    simp only [xCheck,hget,hrow,hw,if_true]
   refine wpF_ext (v := .tuple #[]) (H' := H') XA_check (by rw [e1,e2]; simpa using hg0) ?_
   exact ⟨ρ',ζ,.tup [],_,.refl _ _,hle,hrh,.tup rfl (fun i h => by simp at h),honly,(fun h => by cases h),by simp,hk⟩
  ·obtain ⟨k2,hk2,hc0⟩ := (hp0.nl rfl).ptr_inv
   rw [hρ] at hk2; cases hk2
   subst hc0
   have hset : L.set i (.row 141 [.ptr i 0,s]) = L := by
    apply List.ext_getElem?
    intro j
    rw [List.getElem?_set]
    by_cases e : i = j
    ·subst e; rw [if_pos rfl,if_pos hi,hL]
    ·rw [if_neg e]
   rw [hset] at hk
   have hg0 : xCheck 141 [.pointer (some ⟨k,0,none⟩)] H = some (.ret (.tuple #[]),H) := by
    simp only [xCheck,hget,hrow,if_true]
   refine wpF_ext (v := .tuple #[]) (H' := H) XA_check (by rw [e1,e2]; simpa using hg0) ?_
   exact ⟨ρ,ζ,.tup [],L,.refl _ _,.refl _,hr0,.tup rfl (fun i h => by simp at h),Only.refl _ _,(fun h => by cases h),Nat.le_refl _,hk⟩
theorem strNil_pf {i : Nat} {p : PV} {L : List LObj} (hL : L[i]? = some (.row 141 [p,.v (.slice none 0 0)])) {K : PV → List LObj → Prop}
  (hk : K (.v (.string .empty)) L) : PF FD XA XN false (.fn 77 [] []) [.ptr i 0] L K := by
 intro A ρ ζ H dv dargs gz hr hv ha
 obtain ⟨a',c',rfl,h1,h2⟩ := hv.fn_inv
 have e1 := h1.nil_left
 have e2 := h2.nil_left
 have hLi : prow L i = some (141,[p,.v (.slice none 0 0)]) := by unfold prow; rw [hL]
 cases ha with
 | cons ha1 ha2 =>
  cases ha2
  rename_i y
  obtain ⟨k,hρ,rfl⟩ := ha1.ptr_inv
  have hr0 := hr
  obtain ⟨g,hg⟩ := hr
  obtain ⟨hi,r,cells,f',w2,w3,w4,w5,w6⟩ := hg.rowK hLi hρ
  have hrow := w2.rowAt.row
  have hcl := w5.length
  obtain ⟨c0,c1,rfl⟩ := list2 (l := cells) (by rw [← hcl]; rfl)
  obtain ⟨x1,hx1,hp1⟩ := w5.get (o := 1) (p := .v (.slice none 0 0)) rfl
  cases hx1
  have hc1 := (hp1.nl rfl).v_inv.1
  subst hc1
  have hg0 : xStr 5 [.pointer (some ⟨k,0,none⟩)] H = some (.ret (.string .empty),H) := by
   simp only [xStr,hrow,if_true]
  refine wpF_ext (v := .string .empty) (H' := H) XA_str (by rw [e1,e2]; simpa using hg0) ?_
  exact ⟨ρ,ζ,.v (.string .empty),L,.refl _ _,.refl _,hr0,.v rfl,Only.refl _ _,(fun h => by cases h),Nat.le_refl _,hk⟩
theorem pbytes_nl : ∀ {cs : List PV} {bs : List UInt8},pbytes cs = some bs → cs.all nl = true := by
 intro cs
 induction cs with
 | nil => intro bs _; rfl
 | cons p cs ih =>
  intro bs h
  simp only [pbytes] at h
  split at h
  ·rename_i b bs' h1 h2
   simp only [List.all_cons,Bool.and_eq_true]
   refine ⟨?_,ih h2⟩
   unfold pbyte at h1
   split at h1
   ·rfl
   ·cases h1
  ·cases h
theorem str_pf {i j n c : Nat} {p : PV} {cs : List PV} {bs : List UInt8} {L : List LObj} (hL : L[i]? = some (.row 141 [p,.slc j 0 n c])) (hj : L[j]? = some (.row 5 cs)) (hn : n ≠ 0) (hb : n < 4611686018427387904) (hbs : pbytes (cs.take n) = some bs) (hle : n ≤ cs.length) {K : PV → List LObj → Prop}
  (hk : K (.v (.string ⟨bs.toArray⟩)) (L.set j .dead)) : PF FD XA XN false (.fn 77 [] []) [.ptr i 0] L K := by
 intro A ρ ζ H dv dargs gz hr hv ha
 obtain ⟨a',c',rfl,h1,h2⟩ := hv.fn_inv
 have e1 := h1.nil_left
 have e2 := h2.nil_left
 have hLi : prow L i = some (141,[p,.slc j 0 n c]) := by unfold prow; rw [hL]
 have hLj : prow L j = some (5,cs) := by unfold prow; rw [hj]
 cases ha with
 | cons ha1 ha2 =>
  cases ha2
  rename_i y
  obtain ⟨k,hρ,rfl⟩ := ha1.ptr_inv
  obtain ⟨g,hg⟩ := hr
  obtain ⟨hi,r,cells,f',w2,w3,w4,w5,w6⟩ := hg.rowK hLi hρ
  have hrow := w2.rowAt.row
  have hcl := w5.length
  obtain ⟨c0,c1,rfl⟩ := list2 (l := cells) (by rw [← hcl]; rfl)
  obtain ⟨x1,hx1,hp1⟩ := w5.get (o := 1) (p := .slc j 0 n c) rfl
  cases hx1
  rcases (hp1.nl rfl).slc_inv with ⟨kj,hρj,hnc,rfl⟩ | ⟨_,_,h3,_,_⟩
  case inr => exact absurd h3 hn
  obtain ⟨hji,rj,cj,fj,v2,v3,v4,v5,v6⟩ := hg.rowK hLj hρj
  have hrowj := v2.rowAt.row
  have hcjl := v5.length
  obtain ⟨fa,fb,u1,u2,_⟩ := v5.take n
  obtain ⟨hu8,hmap⟩ := pbytes_ok (u1.vpl (pbytes_nl hbs)) hbs
  have hkp : ∀ ob : AObj,Kp H (H.put rj ob) (· = rj) := fun ob => Kp.of_own v2 ((Only.put H rj ob).mono (fun _ h => .inl h))
  have hgj1 : 1 ≤ g j rj := by have := v6 rj; simp at this; omega
  have fin : ∀ (rcs : List Value) (rt : TypeId) (rro rex : Bool) (rthr rtip : Nat) (ex : Bool) (th ti : Nat),H.get kj = some (.cells cj 5 false ex rj th ti) → H.get rj = some (.cells rcs rt rro rex rj rthr rtip) →
    xStr 5 [.pointer (some ⟨k,0,none⟩)] H = some (.ret (.string ⟨bs.toArray⟩),H.put rj (.cells rcs rt rro rex rj H.next H.next)) ∧ (∀ j' o',(H.put rj (.cells rcs rt rro rex rj H.next H.next)).get j' = some o' → j' < H.next) := by
   intro rcs rt rro rex rthr rtip ex th ti q1 q2
   refine ⟨?_,fun j' o' hj' => ?_⟩
   ·have hc : n ≠ 0 ∧ n < 4611686018427387904 ∧ True ∧ 0 + n ≤ cj.length ∧ ((cj.drop 0).take n).all isU8 = true := ⟨hn,hb,trivial,by omega,by simpa using hu8⟩
    simp only [xStr,hrow,q1,hrowj,q2]
    rw [if_pos hc,List.drop_zero,hmap]
   ·rw [AH.gpt] at hj'
    split at hj'
    ·rename_i e; subst e; exact hg.wf _ _ q2
    ·exact hg.wf _ _ hj'
  obtain ⟨rcs,rt,rro,rex,rthr,rtip,ex,th,ti,q1,q2⟩ : ∃ rcs rt rro rex rthr rtip ex th ti,H.get kj = some (.cells cj 5 false ex rj th ti) ∧ H.get rj = some (.cells rcs rt rro rex rj rthr rtip) := by
   rcases v2.own with ⟨rfl,ex,thr,_,h⟩ | ⟨_,⟨thr,tip,h⟩,rcs,rt,rro,rthr,_,h'⟩
   ·exact ⟨_,_,_,_,_,_,_,_,_,h,h⟩
   ·exact ⟨_,_,_,_,_,_,_,_,_,h,h'⟩
  obtain ⟨f1,f2⟩ := fin _ _ _ _ _ _ _ _ _ q1 q2
  refine wpF_ext (v := .string ⟨bs.toArray⟩) (H' := _) XA_str (by rw [e1,e2]; simpa using f1) ?_
  exact ⟨ρ,ζ,.v (.string ⟨bs.toArray⟩),_,.refl _ _,.refl _,⟨g,hg.set (o' := .dead) hji hgj1 (hkp _) rfl f2 trivial⟩,.v rfl,(Only.put H rj _).mono (fun x hx => by subst hx; exact v4),(fun h => by cases h),by simp,hk⟩
end Go.Den
/- WriteString of builders on objects. -/
namespace Go.Den
open IrD
attribute [local irreducible] T.get T.set
def bcs (s : List UInt8) : List PV := s.map fun b => .v (.int .u8 b.toNat)
@[simp] theorem bcs_len {s : List UInt8} : (bcs s).length = s.length := by simp [bcs]
theorem bcs_app {a b : List UInt8} : bcs a ++ bcs b = bcs (a ++ b) := by simp [bcs]
@[simp] theorem bcs_one {s : List UInt8} : allOne (bcs s) := by
 show (bcs s).all pone = true
 simp [bcs,pone]
@[simp] theorem bcs_bytes {s : List UInt8} : pbytes (bcs s) = some s := by
 induction s with
 | nil => rfl
 | cons a s ih =>
  have : bcs (a :: s) = .v (.int .u8 a.toNat) :: bcs s := rfl
  rw [this]
  simp [pbytes,pbyte,ih]
theorem bstr_bcs {s : List UInt8} : (bstr s).data.toList.map (fun b => PV.v (.int .u8 b.toNat)) = bcs s := by simp [bstr,bcs]
theorem ws_pf {i j : Nat} {p : PV} {cs s : List UInt8} {L : List LObj} (hL : L[i]? = some (.row 141 [p,.slc j 0 cs.length cs.length])) (hj : L[j]? = some (.row 5 (bcs cs))) (hp : p = .v (.pointer none) ∨ p = .ptr i 0) (hr : roomy (cs.length + s.length) 1) {K : PV → List LObj → Prop}
  (hk : K (.tup [pin s.length,.v .nilIface]) (((L.set j .dead).set i (.row 141 [.ptr i 0,.slc L.length 0 (cs ++ s).length (cs ++ s).length])) ++ [.row 5 (bcs (cs ++ s))])) : PF FD XA XN false (.fn 73 [] []) [.ptr i 0,pstr s] L K := by
 have hij : i ≠ j := by
  rintro rfl; rw [hL] at hj; cases hj
 have hi := (List.getElem?_eq_some_iff.1 hL).1
 refine PF_code0 rfl rfl rfl (PW_ok _ ?_)
 simp [ir73]
 refine check_pf hL hp rfl rfl ?_
 have hL1 : (L.set i (.row 141 [.ptr i 0,.slc j 0 cs.length cs.length]))[i]? = some (.row 141 [.ptr i 0,.slc j 0 cs.length cs.length]) := by rw [List.getElem?_set,if_pos rfl,if_pos hi]
 have hj1 : (L.set i (.row 141 [.ptr i 0,.slc j 0 cs.length cs.length]))[j]? = some (.row 5 (bcs cs)) := by rw [List.getElem?_set,if_neg hij,hj]
 have hcut : cut (bcs cs) 0 (cs.length * 1) = bcs cs := by simp [cut,List.take_of_length_le]
 generalize hR : LObj.row 141 [.ptr i 0,.slc j 0 cs.length cs.length] = R at hL1 hj1
 have hL2 : ((L.set i R).set j LObj.dead ++ [LObj.row 5 (bcs cs ++ bcs s)])[i]? = some R := by
  rw [List.getElem?_append_left (by simpa using hi),List.getElem?_set,if_neg (Ne.symm hij),hL1]
 have hL3 : ∀ X,((L.set i R).set j LObj.dead ++ [LObj.row 5 (bcs cs ++ bcs s)]).set i X = ((L.set j LObj.dead).set i X) ++ [LObj.row 5 (bcs (cs ++ s))] := by
  intro X
  rw [List.set_append_left _ _ (by simpa using hi),bcs_app,List.set_comm _ _ (Ne.symm hij),List.set_set,List.set_comm _ _ hij]
 subst hR
 simp [hL1,hj1,bstr_bcs,hcut,hr,hL2,hL3]
 rw [List.length_append] at hk
 exact hk
def dec2 (n : Nat) : List UInt8 := if n < 10 then [48 + UInt8.ofNat (n % 10)] else [48 + UInt8.ofNat (n / 10 % 10),48 + UInt8.ofNat (n % 10)]
theorem dec2_eq {n : Nat} (h : n < 100) : dec2 n = decS n := by
 unfold dec2
 by_cases h10 : n < 10
 ·rw [if_pos h10,decS_small h10]
 ·rw [if_neg h10,decS_big h10,decS_small (by omega)]; rfl
theorem itoa_run : ∀ n : Nat,n < 100 → prunF FD 20 74 [pin n] = some (pstr (dec2 n))
 | 0,_ | 1,_ | 2,_ | 3,_ | 4,_ | 5,_ | 6,_ | 7,_ | 8,_ | 9,_ | 10,_ | 11,_ | 12,_ | 13,_ | 14,_ | 15,_ | 16,_ | 17,_ | 18,_ | 19,_ | 20,_ | 21,_ | 22,_ | 23,_ | 24,_ | 25,_ | 26,_ | 27,_ | 28,_ | 29,_ | 30,_ | 31,_ | 32,_ | 33,_ | 34,_ | 35,_ | 36,_ | 37,_ | 38,_ | 39,_ | 40,_ | 41,_ | 42,_ | 43,_ | 44,_ | 45,_ | 46,_ | 47,_ | 48,_ | 49,_ | 50,_ | 51,_ | 52,_ | 53,_ | 54,_ | 55,_ | 56,_ | 57,_ | 58,_ | 59,_ | 60,_ | 61,_ | 62,_ | 63,_ | 64,_ | 65,_ | 66,_ | 67,_ | 68,_ | 69,_ | 70,_ | 71,_ | 72,_ | 73,_ | 74,_ | 75,_ | 76,_ | 77,_ | 78,_ | 79,_ | 80,_ | 81,_ | 82,_ | 83,_ | 84,_ | 85,_ | 86,_ | 87,_ | 88,_ | 89,_ | 90,_ | 91,_ | 92,_ | 93,_ | 94,_ | 95,_ | 96,_ | 97,_ | 98,_ | 99,_ => by kernel_rfl
 | n + 100,h => absurd h (by omega)
theorem itoa_ok {n : Nat} (h : n < 100) : PPd (.fn 74 [] []) [pin n] (pstr (decS n)) := by
 rw [← dec2_eq h]; exact PP_run FD_ext rfl (itoa_run n h)
def small9 (x : Int) : Prop := 0 ≤ x ∧ x < 100
theorem blk_facts9 {l : List FIns} (hl : l.length ≤ 90) (hc : ∀ x ∈ l,opT x = true → 0 ≤ x.c ∧ x.c < l.length) : ∀ b ∈ blkL l,small9 b.src ∧ small9 b.to ∧ b.next.length ≤ 2 ∧ ∀ x ∈ b.next,small9 x := by
 intro b hb
 unfold blkL at hb
 obtain ⟨k,hk,rfl⟩ := List.mem_map.1 hb
 rw [List.mem_range] at hk
 have hle := allB_ok (f := leadL l) (n := l.length)
 have hnum := fun c (h : c < l.length) => numB_lt (f := leadL l) h
 obtain ⟨x,hx⟩ : ∃ x,(allB (leadL l) l.length)[k]? = some x := ⟨_,List.getElem?_eq_getElem hk⟩
 have hx1 := hle.1 x (List.mem_of_getElem? hx)
 obtain ⟨y,hy⟩ : ∃ y,l[x.2 - 1]? = some y := ⟨_,List.getElem?_eq_getElem (by omega)⟩
 have hyc := hc y (List.mem_of_getElem? hy)
 have e : blkAt l (allB (leadL l) l.length) k = ⟨x.1,x.2,nextB (leadL l) k y⟩ := by unfold blkAt; rw [hx]; simp only [hy]
 rw [e]
 have hle2 := hle.2
 refine ⟨⟨by simp,by simp; omega⟩,⟨by simp,by simp; omega⟩, ?_, ?_⟩
 ·simp only [nextB]
  split
  ·simp
  ·split
   ·simp
   ·split
    ·split <;> simp
    ·simp
 ·intro z hz
  simp only [nextB] at hz
  have hk1 : small9 ((k + 1 : Nat) : Int) := ⟨by omega,by omega⟩
  split at hz
  ·simp at hz
  ·split at hz
   ·rename_i h19
    have h1 := hyc (by simp [opT,h19])
    have h2 := hnum y.c.toNat (by omega)
    simp only [List.mem_singleton] at hz
    subst hz; exact ⟨by omega,by omega⟩
   ·split at hz
    ·rename_i h20
     have h1 := hyc (by simp [opT,h20])
     have h2 := hnum y.c.toNat (by omega)
     split at hz
     ·simp only [List.mem_singleton] at hz
      subst hz; exact hk1
     ·simp only [List.mem_cons,List.mem_nil_iff,or_false] at hz
      rcases hz with rfl | rfl
      ·exact hk1
      ·exact ⟨by omega,by omega⟩
    ·simp only [List.mem_singleton] at hz
     subst hz; exact hk1
structure OkN (bs : List Blk) (ds : List Int) (ls : List Lp) : Prop where
 nb : bs.length < 100
 nd : ds.length = bs.length
 nl : ls.length ≤ 1000
 src : ∀ b ∈ bs,small9 b.src ∧ small9 b.to ∧ b.next.length ≤ 2 ∧ ∀ x ∈ b.next,small9 x
 dom : ∀ x ∈ ds,x < 100
theorem blk_okN {l : List FIns} (hl : l.length ≤ 90) (hc : ∀ x ∈ l,opT x = true → 0 ≤ x.c ∧ x.c < l.length) : OkN (blkL l) (domsR (blkL l)) (lpT (blkL l) (blkL l).length) := by
 have hlen : (blkL l).length ≤ l.length := by rw [blkL_len]; exact (allB_ok (f := leadL l) (n := l.length)).2
 have hT := blk_okT (show l.length ≤ 900 by omega) hc
 refine ⟨by omega,hT.nd,hT.nl,blk_facts9 hl hc,fun x hx => ?_⟩
 unfold domsR at hx
 obtain ⟨k,hk,rfl⟩ := List.mem_map.1 hx
 unfold idomR
 split
 ·omega
 ·rcases idomTo_lt (domB (blkL l)) k (blkL l).length with h | ⟨j,h1,h2⟩
  ·omega
  ·omega
theorem OkN.t {bs : List Blk} {ds : List Int} {ls : List Lp} (h : OkN bs ds ls) : OkT bs ds ls := by
 refine ⟨by have := h.nb; omega,h.nd,h.nl,fun b hb => ?_,fun x hx => by have := h.dom x hx; omega⟩
 obtain ⟨a1,a2,a3,a4⟩ := h.src b hb
 exact ⟨⟨a1.1,by have := a1.2; omega⟩,⟨a2.1,by have := a2.2; omega⟩,by omega,fun x hx => ⟨(a4 x hx).1,by have := (a4 x hx).2; omega⟩⟩
theorem itoa9 {x : Int} (h : small9 x) : PPd (.fn 74 [] []) [pin x] (pstr (decI x)) := by
 obtain ⟨k,rfl⟩ : ∃ k : Nat,x = k := ⟨x.toNat,by have := h.1; omega⟩
 have := h.2
 exact itoa_ok (by omega)
def At (J : PEnv → List LObj → Prop) (E : PEnv) (L : List LObj) : Prop := ∃ E' L',Abs 0 E L E' L' ∧ J E' L'
@[congr] theorem At_congr {J : PEnv → List LObj → Prop} {E E' : PEnv} {L L' : List LObj} (h : E = E') (h' : L = L') : At J E L = At J E' L' := by rw [h,h']
def bld (p : PV) (s : List UInt8) : List LObj := [.row 141 [p,.slc 1 0 s.length s.length],.row 5 (bcs s)]
def CanT (bs : List Blk) (ds : List Int) (ls : List Lp) (i : Nat) (b : Blk) (s : List UInt8) (E : PEnv) (L : List LObj) : Prop :=
 L = bld (.ptr 0 0) s ++ [.row 3 [pin i],.row 143 [pin b.src,pin b.to,ints 3 b.next]] ∧
 Has E [(32,blks 143 bs),(33,pin bs.length),(34,pin i),(9,ints 3 ds),(10,recs 131 encL ls),(11,.ptr 0 0),(12,.ptr 2 0),(13,.ptr 3 0)]
def TextJ (bs : List Blk) (ds : List Int) (ls : List Lp) (m : Nat) (E : PEnv) (L : List LObj) : Prop := ∃ (i : Nat) (p : PV),i + m = bs.length ∧ (p = .v (.pointer none) ∨ p = .ptr 0 0) ∧ L = bld p (txtS bs ds ls i) ∧
 Has E [(32,blks 143 bs),(33,pin bs.length),(34,pin i),(9,ints 3 ds),(10,recs 131 encL ls),(11,.ptr 0 0)]
def TextJ2 (bs : List Blk) (ds : List Int) (ls : List Lp) (i : Nat) (b : Blk) (s1 : List UInt8) (m : Nat) (E : PEnv) (L : List LObj) : Prop := ∃ k : Nat,k + m = b.next.length ∧ L = bld (.ptr 0 0) (s1 ++ nextS (b.next.take k)) ++ [.row 3 [pin i],.row 143 [pin b.src,pin b.to,ints 3 b.next]] ∧
 Has E [(32,blks 143 bs),(33,pin bs.length),(34,pin i),(9,ints 3 ds),(10,recs 131 encL ls),(11,.ptr 0 0),(12,.ptr 2 0),(13,.ptr 3 0),(54,ints 3 b.next),(55,pin b.next.length),(56,pin k)]
def tround : ICode := unloop (unblock (dSq 1 (hSq (dSq 6 ir17.body))))
def tbody : ICode := unblock (hSq (dSq 2 tround))
theorem roomy9 {n m : Nat} (h : n + m ≤ 5000000000) : roomy (n + m) 1 := by
 show (2 * (n + m) + 1000) * (1 + 1) ≤ 281474976710656; omega
@[simp] theorem bnI {s : List UInt8} : noIdL (bcs s) = true := by
 rw [nIi]; intro p hp
 unfold bcs at hp
 obtain ⟨x,_,rfl⟩ := List.mem_map.1 hp
 rfl
theorem keep4 {i : Nat} {b : Blk} {s : List UInt8} {n : Nat} {X : LObj} (hn : n = s.length) : F2 (fun k o' => ∃ o,[LObj.row 141 [.ptr 0 0,.slc 4 0 n n],X,.row 3 [pin i],.row 143 [pin b.src,pin b.to,ints 3 b.next],.row 5 (bcs s)][k]? = some o ∧
  VwO [0,4,2,3] [LObj.row 141 [.ptr 0 0,.slc 4 0 n n],X,.row 3 [pin i],.row 143 [pin b.src,pin b.to,ints 3 b.next],.row 5 (bcs s)] o o') [0,4,2,3] (bld (.ptr 0 0) s ++ [.row 3 [pin i],.row 143 [pin b.src,pin b.to,ints 3 b.next]]) := by
 subst hn
 exact .cons ⟨_,rfl,.row (.cons (.ptr rfl) (.cons (.slc rfl) .nil))⟩ (.cons ⟨_,rfl,.row (VwL.same (by simp))⟩ (.cons ⟨_,rfl,.row (VwL.same (by simp))⟩ (.cons ⟨_,rfl,.row (VwL.same (by simp))⟩ .nil)))
theorem tdraw_ok {bs : List Blk} {ds : List Int} {ls : List Lp} {i : Nat} {b : Blk} {s0 : List UInt8} (hs0 : s0.length ≤ 2000000000) (hi : i < bs.length) (hi9 : i < 100) (hb : bs[i] = b) (hsrc : small9 b.src) (hto : small9 b.to) {p : PV} (hp : p = .v (.pointer none) ∨ p = .ptr 0 0) {Q : Ex → PEnv → List LObj → Prop} {R : ICode} {E : PEnv}
  (hE : Has E [(32,blks 143 bs),(33,pin bs.length),(34,pin i),(9,ints 3 ds),(10,recs 131 encL ls),(11,.ptr 0 0)])
  (h : ∀ E L,CanT bs ds ls i b (s0 ++ (decS i ++ 32 :: (decI b.src ++ 46 :: 46 :: (decI b.to ++ [32,45,62])))) E L → PC FD XA XN 0 R Q E L) :
  PC FD XA XN 0 (.seq (hSq tbody) (.seq (hSq (dSq 1 tbody)) R)) Q E (bld p s0) := by
 obtain ⟨e32,e33,e34,e9,e10,e11, -⟩ := hE
 have hi' : (i : Int) < (bs.length : Int) := by omega
 have hcut := cutB hi
 have hd1 := itoa_ok (n := i) hi9
 have hd2 := itoa9 hsrc
 have hd3 := itoa9 hto
 rw [hb] at hcut
 have hl1 := decS_len i i (Nat.le_refl _)
 have hl2 := decI_len (x := b.src) (by have := hsrc.2; omega)
 have hl3 := decI_len (x := b.to) (by have := hto.2; omega)
 simp [tbody,tround,unblock,unloop,ir17,hSq,dSq]
 refine PCq (PW_ok _ ?_)
 have hpi : pone (ints 3 b.next) = true := by simp [ints,pone]
 simp [e32,e33,e34,hi,hi',hcut,blks,recs,bld,psl,hpi]
 refine PCq (PW_ok _ ?_)
 have a2 := str_lit (a := decS i) (b := #[32]) (by simp; omega)
 have a3 := str_add (a := decS i ++ [32]) (b := decI b.src) (by simp; omega)
 have a4 := str_lit (a := decS i ++ [32] ++ decI b.src) (b := #[46,46]) (by simp; omega)
 have a5 := str_add (a := decS i ++ [32] ++ decI b.src ++ [46,46]) (b := decI b.to) (by simp; omega)
 have a6 := str_lit (a := decS i ++ [32] ++ decI b.src ++ [46,46] ++ decI b.to) (b := #[32,45,62]) (by simp; omega)
 simp only [List.append_assoc,List.cons_append,List.nil_append] at a2 a3 a4 a5 a6
 simp [e11]
 refine hd1.runj ?_
 simp [a2]
 refine hd2.runj ?_
 simp [a3,a4]
 refine hd3.runj ?_
 simp [a5,a6,e11]
 generalize hs1 : decS i ++ 32 :: (decI b.src ++ 46 :: 46 :: (decI b.to ++ [32,45,62])) = s1 at *
 have hl : s1.length ≤ 5000 := by rw [← hs1]; simp; omega
 refine ws_pf (p := p) (cs := s0) (s := s1) rfl rfl hp (roomy9 (by omega)) ?_
 simp
 refine PC.abs (Abs.keep [0,4,2,3] [(32,blks 143 bs),(33,pin bs.length),(34,pin i),(9,ints 3 ds),(10,recs 131 encL ls),(11,.ptr 0 0),(12,.ptr 2 0),(13,.ptr 3 0)] (by decide) (by simp) (L' := bld (.ptr 0 0) (s0 ++ s1) ++ [.row 3 [pin i],.row 143 [pin b.src,pin b.to,ints 3 b.next]]) ?_ ?_) (h _ _ ⟨rfl,Has.env (by simp)⟩)
 ·exact keep4 (by simp)
 ·simp [e32,e33,e34,e9,e10,e11]
  exact ⟨.same (by simp),.same rfl,.same rfl,.same (by simp),.same (by simp [recs,noId]),.ptr rfl,.ptr rfl,.ptr rfl⟩
theorem tinner_ok {bs : List Blk} {ds : List Int} {ls : List Lp} {i : Nat} {b : Blk} {s1 : List UInt8} (hs1 : s1.length ≤ 3000000000) (hnl : b.next.length ≤ 2) (hnx : ∀ x ∈ b.next,small9 x) {Q : Ex → PEnv → List LObj → Prop} {R : ICode} {E : PEnv} {L : List LObj}
  (hC : CanT bs ds ls i b s1 E L) (h : ∀ E L,CanT bs ds ls i b (s1 ++ nextS b.next) E L → PC FD XA XN 0 R Q E L) :
  PC FD XA XN 0 (.seq (hSq (dSq 2 tbody)) R) Q E L := by
 obtain ⟨rfl,e32,e33,e34,e9,e10,e11,e12,e13, -⟩ := hC
 simp [tbody,tround,unblock,unloop,ir17,hSq,dSq]
 refine PCq (PCq (PW_ok _ ?_))
 simp [e13,bld,ints]
 refine PW_ok _ ?_
 simp
 refine PCl (TextJ2 bs ds ls i b s1) ?_ (k := b.next.length) ⟨0,by omega,by simp [nextS,bld,ints],by simp [e32,e33,e34,e9,e10,e11,e12,e13,ints]⟩
 clear e32 e33 e34 e9 e10 e11 e12 e13
 rintro m E L ⟨k,hkm,rfl,⟨e32,e33,e34,e9,e10,e11,e12,e13,e54,e55,e56, -⟩⟩
 by_cases hk : k < b.next.length
 case neg =>
  have hke : k = b.next.length := by omega
  subst hke
  rw [List.take_length]
  simp [e32,e33,e34,e9,e10,e11,e12,e13,e54,e55,e56]
  exact h _ _ ⟨rfl,by simp [e32,e33,e34,e9,e10,e11,e12,e13]⟩
 have hk' : (k : Int) < (b.next.length : Int) := by omega
 have hxk := hnx _ (List.getElem_mem hk)
 have hd := itoa9 hxk
 have hlx := decI_len (x := b.next[k]) (by have := hxk.2; omega)
 have hcutk := cut1 (f := pin) hk
 have hns := nextS_len (l := b.next.take k) (fun x hx => ⟨(hnx x (List.mem_of_mem_take hx)).1,by have := (hnx x (List.mem_of_mem_take hx)).2; omega⟩) (by rw [List.length_take]; omega)
 have hst : nextS (b.next.take (k + 1)) = nextS (b.next.take k) ++ 32 :: decI b.next[k] := by rw [List.take_succ_eq_append_getElem hk]; unfold nextS; rw [List.flatMap_append,List.flatMap_cons,List.flatMap_nil,List.append_nil]
 have hwk : IntKind.wrap .i64 ((k : Int) + 1) = (k : Int) + 1 := wrap64 (by omega) (by omega)
 generalize hx : b.next[k] = x at *
 generalize nextS (b.next.take k) = s2 at *
 have a1 : arS .add ⟨#[32]⟩ (bstr (decI x)) = some (.string (bstr (32 :: decI x))) := by
  have := str_add (a := [32]) (b := decI x) (by simp; omega)
  exact this
 have e54' : E.get 54 = some (.fz 3 b.next.length (b.next.map pin)) := e54
 simp [e32,e33,e34,e9,e10,e11,e12,e13,e54',e55,e56,hk,hk',hcutk]
 refine hd.runk ?_
 simp [a1,e11]
 refine ws_pf (p := .ptr 0 0) (cs := s1 ++ s2) (s := 32 :: decI x) rfl rfl (.inr rfl) (roomy9 (by simp; omega)) ?_
 simp [hwk,e56,bld]
 refine GoOn.keep [0,4,2,3] [(32,blks 143 bs),(33,pin bs.length),(34,pin i),(9,ints 3 ds),(10,recs 131 encL ls),(11,.ptr 0 0),(12,.ptr 2 0),(13,.ptr 3 0),(54,ints 3 b.next),(55,pin b.next.length),(56,pin (k + 1 : Nat))] (m - 1) (by omega) (by decide) (by simp) (keep4 (s := s1 ++ (s2 ++ 32 :: decI x)) (by simp)) ?_ ⟨k + 1,by omega,by rw [hst],Has.env (by simp)⟩
 simp [e32,e33,e34,e9,e10,e11,e12,e13,e54,e55]
 exact ⟨.same (by simp),.same rfl,.same rfl,.same (by simp),.same (by simp [recs,noId]),.ptr rfl,.ptr rfl,.ptr rfl,.same (by simp),.same rfl,.same rfl⟩
theorem tdom_ok {bs : List Blk} {ds : List Int} {ls : List Lp} {i : Nat} {b : Blk} {s1 : List UInt8} (hs1 : s1.length ≤ 3100000000) (hi : i < ds.length) (hdx : ds[i] < 100) {Q : Ex → PEnv → List LObj → Prop} {R : ICode} {E : PEnv} {L : List LObj}
  (hC : CanT bs ds ls i b s1 E L) (h : ∀ E L,CanT bs ds ls i b (s1 ++ byS ds[i]) E L → PC FD XA XN 0 R Q E L) :
  PC FD XA XN 0 (.seq (hSq (dSq 3 tbody)) R) Q E L := by
 obtain ⟨rfl,e32,e33,e34,e9,e10,e11,e12,e13, -⟩ := hC
 have hcutd := cut1 (f := pin) hi
 have hid : (i : Int) < (ds.length : Int) := by omega
 have e9' : E.get 9 = some (.fz 3 ds.length (ds.map pin)) := e9
 have hbyd : byS ds[i] = if 0 ≤ ds[i] then [32,98,121,32] ++ decI ds[i] else [] := rfl
 generalize ds[i] = x at *
 simp [tbody,tround,unblock,unloop,ir17,hSq,dSq]
 refine PCq (PCq (PW_ok _ ?_))
 by_cases hx : 0 ≤ x
 rotate_left
 ·rw [if_neg hx] at hbyd
  simp [e9',e12,bld,hi,hid,hcutd,hx]
  refine PW_ok _ ?_
  simp
  refine h _ _ ⟨by rw [hbyd,List.append_nil]; rfl,by simp [e32,e33,e34,e9,e10,e11,e12,e13]⟩
 ·rw [if_pos hx] at hbyd
  have hd := itoa9 (x := x) ⟨hx,hdx⟩
  have hlx := decI_len (x := x) (by omega)
  have a1 : arS .add ⟨#[32,98,121,32]⟩ (bstr (decI x)) = some (.string (bstr (32 :: 98 :: 121 :: 32 :: decI x))) := str_add (a := [32,98,121,32]) (b := decI x) (by simp; omega)
  simp [e9',e12,bld,hi,hid,hcutd,hx]
  refine PW_ok _ ?_
  simp [e9',e12,hi,hid,hcutd]
  refine hd.runk ?_
  simp [a1,e11]
  refine ws_pf (p := .ptr 0 0) (cs := s1) (s := 32 :: 98 :: 121 :: 32 :: decI x) rfl rfl (.inr rfl) (roomy9 (by simp; omega)) ?_
  simp
  refine PC.abs (Abs.keep [0,4,2,3] [(32,blks 143 bs),(33,pin bs.length),(34,pin i),(9,ints 3 ds),(10,recs 131 encL ls),(11,.ptr 0 0),(12,.ptr 2 0),(13,.ptr 3 0)] (by decide) (by simp) (keep4 (s := s1 ++ 32 :: 98 :: 121 :: 32 :: decI x) (by simp)) ?_) (h _ _ ⟨by rw [hbyd]; rfl,Has.env (by simp)⟩)
  simp [e32,e33,e34,e9,e10,e11,e12,e13]
  exact ⟨.same (by simp),.same rfl,.same rfl,.same (by simp),.same (by simp [recs,noId]),.ptr rfl,.ptr rfl,.ptr rfl⟩
theorem thead_ok {bs : List Blk} {ds : List Int} {ls : List Lp} {i : Nat} {b : Blk} {s1 : List UInt8} (hs1 : s1.length ≤ 3200000000) (hls : ls.length ≤ 1000) {Q : Ex → PEnv → List LObj → Prop} {R : ICode} {E : PEnv} {L : List LObj}
  (hC : CanT bs ds ls i b s1 E L) (h : ∀ E L,CanT bs ds ls i b (s1 ++ if ls.any (fun x => decide (x.head = (i : Int))) = true then [32,108,111,111,112] else []) E L → PC FD XA XN 0 R Q E L) :
  PC FD XA XN 0 (.seq (hSq (dSq 4 tbody)) R) Q E L := by
 obtain ⟨rfl,e32,e33,e34,e9,e10,e11,e12,e13, -⟩ := hC
 have hh := hasHead_ok (ls := ls) (i := i) hls
 generalize ls.any (fun x => decide (x.head = (i : Int))) = hd at *
 simp [tbody,tround,unblock,unloop,ir17,hSq,dSq]
 refine PCq (PCq (PW_ok _ ?_))
 simp [e10,e12,bld]
 have hv : ∀ X Y Z : LObj,Vw [] [X,Y,.row 3 [pin i],Z] (.ptr 2 0) (.fp [pin i]) := fun X Y Z =>
  .fzp (i := 2) (o := 0) (t := 3) (cs := [pin i]) (cs' := [pin i]) (cs'' := [pin i]) (by simp) rfl (by simp [allNl,nl]) (by simp) rfl rfl (fun j h1 h2 => by
   obtain rfl : j = 0 := by simp at h1; omega
   exact .same rfl)
 refine PP.roc (fv := .fn 75 [] []) (args := [recs 131 encL ls,.fn 76 [] [.ptr 2 0]]) hh (.same rfl) (.cons (.same (by simp [recs,noId])) (.cons (.fn rfl (fun j h1 h2 => by simp at h1) rfl (fun j h1 h2 => by
  obtain rfl : j = 0 := by simp at h1; omega
  exact hv _ _ _)) .nil)) (by simp [noIdL,noId,recs]) rfl rfl rfl _ ?_
 simp
 refine PW_ok _ ?_
 cases hd with
 | false =>
  simp
  refine h _ _ ⟨by simp [bld],by simp [e32,e33,e34,e9,e10,e11,e12,e13]⟩
 | true =>
  simp [e11]
  refine ws_pf (p := .ptr 0 0) (cs := s1) (s := [32,108,111,111,112]) rfl rfl (.inr rfl) (roomy9 (by simp; omega)) ?_
  simp
  refine PC.abs (Abs.keep [0,4,2,3] [(32,blks 143 bs),(33,pin bs.length),(34,pin i),(9,ints 3 ds),(10,recs 131 encL ls),(11,.ptr 0 0),(12,.ptr 2 0),(13,.ptr 3 0)] (by decide) (by simp) (keep4 (s := s1 ++ [32,108,111,111,112]) (by simp)) ?_) (h _ _ ⟨rfl,Has.env (by simp)⟩)
  simp [e32,e33,e34,e9,e10,e11,e12,e13]
  exact ⟨.same (by simp),.same rfl,.same rfl,.same (by simp),.same (by simp [recs,noId]),.ptr rfl,.ptr rfl,.ptr rfl⟩
theorem tbody_eq : tbody = .seq (hSq tbody) (.seq (hSq (dSq 1 tbody)) (.seq (hSq (dSq 2 tbody)) (.seq (hSq (dSq 3 tbody)) (.seq (hSq (dSq 4 tbody)) (dSq 5 tbody))))) := rfl
theorem tround_eq : tround = .seq (hSq tround) (.seq (hSq (dSq 1 tround)) (.seq (.block 1 tbody) (dSq 3 tround))) := rfl
theorem keep2 {s : List UInt8} {n : Nat} {X Y Z : LObj} (hn : n = s.length) : F2 (fun k o' => ∃ o,[LObj.row 141 [.ptr 0 0,.slc 4 0 n n],X,Y,Z,.row 5 (bcs s)][k]? = some o ∧
  VwO [0,4] [LObj.row 141 [.ptr 0 0,.slc 4 0 n n],X,Y,Z,.row 5 (bcs s)] o o') [0,4] (bld (.ptr 0 0) s) := by
 subst hn
 exact .cons ⟨_,rfl,.row (.cons (.ptr rfl) (.cons (.slc rfl) .nil))⟩ (.cons ⟨_,rfl,.row (VwL.same (by simp))⟩ .nil)
theorem tround_ok {bs : List Blk} {ds : List Int} {ls : List Lp} (ok : OkN bs ds ls) (hlp : ∀ i,loopS ls i = if ls.any (fun x => decide (x.head = (i : Int))) = true then [32,108,111,111,112] else []) {Q : Ex → PEnv → List LObj → Prop} {m : Nat} {E : PEnv} {L : List LObj} (hJ : TextJ bs ds ls m E L)
  (hQ : ∀ E L,TextJ bs ds ls 0 E L → Q (.exit 0) E L) : PC FD XA XN 0 tround (pnext (GoOn (TextJ bs ds ls) m) Q) E L := by
 obtain ⟨i,p,him,hp,rfl,e32,e33,e34,e9,e10,e11, -⟩ := hJ
 rw [tround_eq]
 by_cases hi : i < bs.length
 case neg =>
  have hie : i = bs.length := by omega
  have hi' : ¬ (i : Int) < (bs.length : Int) := by omega
  simp [tround,unblock,unloop,ir17,hSq,dSq]
  refine PCq (PW_ok _ ?_)
  simp [e33,e34,hi']
  refine PCq (PW_ok _ ?_)
  simp
  exact hQ _ _ ⟨i,p,by omega,hp,rfl,by simp [e32,e33,e34,e9,e10,e11]⟩
 have hi' : (i : Int) < (bs.length : Int) := by omega
 have hnb := ok.nb
 obtain ⟨hsrc,hto,hnl,hnx⟩ := ok.src _ (List.getElem_mem hi)
 have hdi : i < ds.length := by rw [ok.nd]; exact hi
 have hdx := ok.dom _ (List.getElem_mem hdi)
 have hts := txtS_len ok.t (i := i) (by omega)
 have hla : lineAt bs ds ls i = lineS bs[i] ds[i] ls i := by simp [lineAt,hi,hdi]
 have hsucc := txtS_succ (bs := bs) (ds := ds) (ls := ls) (i := i)
 rw [hla] at hsucc
 have hl1 := decS_len i i (Nat.le_refl _)
 have hl2 := decI_len (x := bs[i].src) (by have := hsrc.2; omega)
 have hl3 := decI_len (x := bs[i].to) (by have := hto.2; omega)
 have hl4 := nextS_len (l := bs[i].next) (fun x hx => ⟨(hnx x hx).1,by have := (hnx x hx).2; omega⟩) (by omega)
 have hl5 := byS_len (x := ds[i]) (by omega)
 have hl6 := loopS_len (i := i) ok.nl
 have hwi : IntKind.wrap .i64 ((i : Int) + 1) = (i : Int) + 1 := wrap64 (by omega) (by omega)
 have h35 : PC FD XA XN 0 (hSq tround) (fun x E' L' => x = .norm ∧ E' = E.set 35 (pbool true) ∧ L' = bld p (txtS bs ds ls i)) E (bld p (txtS bs ds ls i)) := by
  simp [tround,unblock,unloop,ir17,hSq,dSq]
  refine PW_ok _ ?_
  simp [e33,e34,hi']
 refine PCq (h35.mono ?_)
 rintro _ _ _ ⟨rfl,rfl,rfl⟩
 have hcd : ∀ {E0 : PEnv} {L0 : List LObj},E0.get 35 = some (pbool true) → PC FD XA XN 0 (hSq (dSq 1 tround)) (fun x E' L' => x = .norm ∧ E' = E0 ∧ L' = L0) E0 L0 := by
  intro E0 L0 h
  simp [tround,unblock,unloop,ir17,hSq,dSq]
  refine PW_ok _ ?_
  simp [h]
 refine PCq ((hcd (by simp)).mono ?_)
 rintro _ _ _ ⟨rfl,rfl,rfl⟩
 refine PCq (PC_block ?_)
 rw [tbody_eq]
 refine tdraw_ok (bs := bs) (ds := ds) (ls := ls) (i := i) (b := bs[i]) (by omega) hi (by omega) rfl hsrc hto hp (by simp [e32,e33,e34,e9,e10,e11]) ?_
 intro E1 L1 h1
 refine tinner_ok (by simp; omega) hnl hnx h1 ?_
 intro E2 L2 h2
 refine tdom_ok (by simp; omega) hdi hdx h2 ?_
 intro E3 L3 h3
 refine thead_ok (by simp; omega) ok.nl h3 ?_
 intro E4 L4 h4
 rw [← hlp i] at h4
 clear h1 h2 h3 h35 hcd e32 e33 e34 e9 e10 e11
 generalize hs4 : txtS bs ds ls i ++ (decS i ++ 32 :: (decI bs[i].src ++ 46 :: 46 :: (decI bs[i].to ++ [32,45,62]))) ++ nextS bs[i].next ++ byS ds[i] ++ loopS ls i = s4 at *
 have hl7 : s4.length ≤ 4000000000 := by rw [← hs4]; simp; omega
 have hfin : txtS bs ds ls (i + 1) = s4 ++ [10] := by rw [hsucc,← hs4]; simp [lineS]
 obtain ⟨rfl,e32,e33,e34,e9,e10,e11,e12,e13, -⟩ := h4
 simp [tbody,tround,unblock,unloop,ir17,hSq,dSq]
 refine PW_ok _ ?_
 simp [e11,bld]
 refine ws_pf (p := .ptr 0 0) (cs := s4) (s := [10]) rfl rfl (.inr rfl) (roomy9 (by simp; omega)) ?_
 simp
 refine PW_ok _ ?_
 simp [e34,hwi]
 refine GoOn.keep [0,4] [(32,blks 143 bs),(33,pin bs.length),(34,pin (i + 1 : Nat)),(9,ints 3 ds),(10,recs 131 encL ls),(11,.ptr 0 0)] (m - 1) (by omega) (by decide) (by simp) (keep2 (s := s4 ++ [10]) (by simp)) ?_ ⟨i + 1,_,by omega,.inr rfl,by rw [hfin],Has.env (by simp)⟩
 simp [e32,e33,e34,e9,e10,e11,e12,e13]
 exact ⟨.same (by simp),.same rfl,.same rfl,.same (by simp),.same (by simp [recs,noId]),.ptr rfl⟩
theorem tloop_ok {bs : List Blk} {ds : List Int} {ls : List Lp} (ok : OkN bs ds ls) (hlp : ∀ i,loopS ls i = if ls.any (fun x => decide (x.head = (i : Int))) = true then [32,108,111,111,112] else []) {Q : Ex → PEnv → List LObj → Prop} {E : PEnv} {L : List LObj} (hJ : TextJ bs ds ls bs.length E L)
  (hQ : ∀ E L,TextJ bs ds ls 0 E L → Q .norm E L) : PC FD XA XN 0 (.block 0 (.loop tround)) Q E L := by
 refine PC_block ?_
 refine PC_loop (TextJ bs ds ls) (fun k E L hj => tround_ok ok hlp hj ?_) hJ
 intro E L h
 simpa [pout] using hQ _ _ h
theorem ptext_ok {c : FCode} {body : Int} (hc : OkC c) (hs : ∀ b ∈ c.bodies,b.code.length ≤ 90) : PPd (.fn 17 [] []) [.agg (encC c),pin body] (.tup [pstr (textC c body),pin (errS c body)]) := by
 refine PPc rfl rfl rfl (by simp) (by simp [noId]) (by simp [noId,noIdL]) ?_
 have hres : ir17.results = [.tmp 4,.tmp 5] := rfl
 have hcc : cut (encC c) 0 2 = encC c := rfl
 by_cases he : errS c body = 0
 case neg =>
  have hls : textC c body = [] := by simp [textC,he]
  rw [hls]
  refine PCq (PW_ok _ ?_)
  simp
  refine PCq (PW_ok _ ?_)
  simp [hcc]
  refine (given_err hc he).runk ?_
  have hps : psl [PV.v (S []),PV.v (I 0),PV.v (I 0),PV.v (.slice none 0 0)] 0 zeroBo = zeroBo := psplice_full rfl
  have hl : zeroBo.length = 4 := rfl
  have ho : allOne zeroBo := by simp [zeroBo]
  simp [hps,hl,ho]
  refine PCq (PCq (PW_ok _ ?_))
  simp [he]
  refine PW_ok _ ?_
  simp [he,hres]
  exact .tup rfl (fun j a b => by
   match j,a,b with
   | 0,_,_ => exact .same rfl
   | 1,_,_ => exact .same rfl)
 obtain ⟨h0,k,rfl,hk⟩ := errS_zero he
 have hg := given_ok hc h0 hk
 have hob := okB_of h0 hk
 have hsk := hs _ (List.getElem_mem hk)
 have htg := targets_ok hob
 have hlt : textC c (k : Int) = textOf c.bodies[k].code := by simp [textC,he,hk]
 rw [hlt,he]
 generalize c.bodies[k] = b at *
 have hG := blk_okG (l := b.code) (by omega) htg
 have hN := blk_okN hsk htg
 have hB := blocks_ok (l := b.code) (by omega) htg
 have hps : psl [PV.v (S []),PV.v (I 0),PV.v (I 0),PV.v (.slice none 0 0)] 0 (encBo b) = encBo b := psplice_full rfl
 have hl : (encBo b).length = 4 := rfl
 have ho : allOne (encBo b) := by simp [encBo,recs,allOne_cons,allOne_nil,pone]
 have hlp : ∀ i,loopS (lpT (blkL b.code) (blkL b.code).length) i = if (lpT (blkL b.code) (blkL b.code).length).any (fun x => decide (x.head = (i : Int))) = true then [32,108,111,111,112] else [] := fun i => loopS_any _
 refine PCq (PW_ok _ ?_)
 simp
 refine PCq (PW_ok _ ?_)
 simp [hcc]
 refine hg.runk ?_
 simp [hps,hl,ho]
 refine PCq (PCq (PW_ok _ ?_))
 simp
 refine PW_ok _ ?_
 have hbo : encBo b = [pstr b.name,pin b.regs,pin b.args,recs 65 encI b.code] := rfl
 rw [hbo]
 simp
 refine PCq (PW_ok _ ?_)
 simp [recs]
 refine hB.runk ?_
 simp
 refine PCq (PW_ok _ ?_)
 simp
 unfold textOf
 rw [← doms_eq] at hN ⊢
 generalize blkL b.code = bs at *
 refine (dominators_ok hG).runk ?_
 simp
 refine (loops_ok hG).runk ?_
 simp
 generalize doms bs = ds at *
 generalize lpT bs bs.length = ls at *
 refine PCq (PW_ok _ ?_)
 simp
 refine PCq (PCq (PW_ok _ ?_))
 simp [blks,recs]
 by_cases hbs : bs = []
 ·subst hbs
  refine PW_ok _ ?_
  simp
  refine PCl (fun _ E L => Has E [(33,pin (0 : Nat)),(34,pin (0 : Nat)),(11,.ptr 2 0)] ∧ L[2]? = some (.row 141 [.v (.pointer none),.v (.slice none 0 0)])) ?_ (k := 0) ⟨by simp,rfl⟩
  rintro m E L ⟨⟨e33,e34,e11, -⟩,hL⟩
  simp [e33,e34]
  refine PW_ok _ ?_
  simp [e11]
  refine strNil_pf hL ?_
  simp [hres]
  exact .same rfl
 have hne : 0 < bs.length := List.length_pos_iff.2 hbs
 show PC FD XA XN 0 (.block 0 (.loop tround)) _ _ _
 refine PC.abs ((Abs.addNil _ _ _).trans (Abs.keep [2,3] [(32,blks 143 bs),(33,pin bs.length),(34,pin (0 : Nat)),(9,ints 3 ds),(10,recs 131 encL ls),(11,.ptr 0 0)] (by decide) (by simp) (L' := bld (.v (.pointer none)) (txtS bs ds ls 0)) ?_ ?_)) ?_
 ·exact .cons ⟨_,rfl,.row (.cons (.same rfl) (.cons (.nilr rfl rfl) .nil))⟩ (.cons ⟨_,rfl,.nilr⟩ .nil)
 ·simp
  exact ⟨.same (by simp [blks,recs,noId]),.same rfl,.same rfl,.same (by simp),.same (by simp [recs,noId]),.ptr rfl⟩
 refine tloop_ok hN hlp ⟨0,_,by omega,.inl rfl,rfl,Has.env (by simp)⟩ ?_
 rintro E L ⟨i,p,him,hp,rfl,e32,e33,e34,e9,e10,e11, -⟩
 have hie : i = bs.length := by omega
 subst hie
 have hts := txtS_len hN.t (i := bs.length) (by have := hN.nb; omega)
 have hnb := hN.nb
 have htl : 0 < (txtS bs ds ls bs.length).length := by
  obtain ⟨n,hn⟩ : ∃ n,bs.length = n + 1 := ⟨bs.length - 1,by omega⟩
  have h1 : n < bs.length := by omega
  have h2 : n < ds.length := by rw [hN.nd]; omega
  rw [hn,txtS_succ]
  simp [lineAt,h1,h2,lineS]
  omega
 generalize txtS bs ds ls bs.length = s at *
 simp
 refine PW_ok _ ?_
 simp [e11,bld]
 refine str_pf (i := 0) (j := 1) (n := s.length) (c := s.length) (p := p) (cs := bcs s) (bs := s) rfl rfl (by omega) (by omega) (by rw [List.take_of_length_le (by simp)]; simp) (by simp) ?_
 simp [hres]
 exact .same rfl
end Go.Den
/- The law of Calls: the numbers in order, each once. -/
namespace Go.Den
theorem getBang {zs : List Int} {m : Nat} (h : m < zs.length) : zs.toArray[m]! = zs[m] := by simp [getElem!_pos,h]
theorem compact_law {zs : List Int} (hs : zs.Pairwise (· ≤ ·)) : ∀ m,m ≤ zs.length → Asc (Lib.compactUpTo zs.toArray m) ∧ ∀ x,x ∈ Lib.compactUpTo zs.toArray m ↔ x ∈ zs.take m := by
 intro m
 induction m with
 | zero => intro _; simp [Lib.compactUpTo,Asc]
 | succ m ih =>
  intro hm
  obtain ⟨h1,h2⟩ := ih (by omega)
  have hm' : m < zs.length := by omega
  have htk : zs.take (m + 1) = zs.take m ++ [zs[m]] := List.take_succ_eq_append_getElem hm'
  have hle : ∀ j,(hj : j < m) → zs[j]'(by omega) ≤ zs[m] := fun j hj => (List.pairwise_iff_getElem.1 hs) j m (by omega) hm' hj
  rw [Lib.compactUpTo_succ,htk]
  rw [getBang hm']
  cases hk : Lib.keeps zs.toArray m with
  | true =>
   simp only [if_true]
   refine ⟨?_,fun x => by simp only [List.mem_append,h2 x]⟩
   unfold Asc at h1 ⊢
   rw [List.pairwise_append]
   refine ⟨h1,by simp,fun a ha b hb => ?_⟩
   have hb' : b = zs[m] := by simpa using hb
   subst hb'
   have ha' := (h2 a).1 ha
   obtain ⟨j,hj,rfl⟩ := List.mem_take_iff_getElem.1 ha'
   have hj' : j < m := by omega
   simp only [Lib.keeps,decide_eq_true_eq] at hk
   rcases hk with hk | hk
   ·omega
   ·rw [getBang hm',getBang (by omega : m - 1 < zs.length)] at hk
    have h3 := hle (m - 1) (by omega)
    have h4 : zs[j] ≤ zs[m - 1] := by
     rcases Nat.lt_or_ge j (m - 1) with h | h
     ·exact (List.pairwise_iff_getElem.1 hs) j (m - 1) (by omega) (by omega) h
     ·have : j = m - 1 := by omega
      subst this; exact Int.le_refl _
    omega
  | false =>
   simp only [Bool.false_eq_true,if_false,List.append_nil]
   refine ⟨h1,fun x => ?_⟩
   rw [h2 x]
   simp only [Lib.keeps,decide_eq_false_iff_not,not_or,Classical.not_not] at hk
   rw [getBang hm',getBang (by omega : m - 1 < zs.length)] at hk
   simp only [List.mem_append,List.mem_singleton]
   constructor
   ·exact .inl
   ·rintro (h | h)
    ·exact h
    ·rw [h,hk.2]
     exact List.mem_take_iff_getElem.2 ⟨m - 1,by omega,rfl⟩
theorem compact_asc {zs : List Int} (hs : zs.Pairwise (· ≤ ·)) : Asc (Lib.compact zs) ∧ ∀ x,x ∈ Lib.compact zs ↔ x ∈ zs := by
 have := compact_law hs zs.length (Nat.le_refl _)
 rw [List.take_length] at this
 exact this
theorem callL_go : ∀ (l : List FIns) (a : List Int),Asc a → Asc (l.foldl (fun a x => if isCall x then putL a x.b else a) a) ∧
  ∀ x,x ∈ l.foldl (fun a x => if isCall x then putL a x.b else a) a ↔ x ∈ a ∨ x ∈ (l.filter isCall).map (·.b) := by
 intro l
 induction l with
 | nil => intro a h; simp [h]
 | cons y l ih =>
  intro a h
  rw [List.foldl_cons]
  cases hy : isCall y with
  | true =>
   simp only [if_true]
   obtain ⟨h1,h2⟩ := ih (putL a y.b) (putL_asc h)
   refine ⟨h1,fun x => ?_⟩
   rw [h2 x,putL_mem,List.filter_cons,if_pos hy,List.map_cons,List.mem_cons]
   constructor
   ·rintro ((h | h) | h)
    ·exact .inl h
    ·exact .inr (.inl h)
    ·exact .inr (.inr h)
   ·rintro (h | h | h)
    ·exact .inl (.inl h)
    ·exact .inl (.inr h)
    ·exact .inr h
  | false =>
   simp only [Bool.false_eq_true,if_false]
   obtain ⟨h1,h2⟩ := ih a h
   refine ⟨h1,fun x => ?_⟩
   rw [h2 x,List.filter_cons,hy]; simp
def gotL (l : List FIns) : List Int := (l.filter isCall).map (·.b)
theorem sortI_sorted {l : List Int} : (sortI l).Pairwise (· ≤ ·) := by
 have h := List.pairwise_mergeSort (le := fun x y : Int => decide (x ≤ y)) (fun a b c h1 h2 => by simp at *; omega) (fun a b => by simp; omega) l
 exact h.imp fun h => by simpa using h
theorem callL_law {l : List FIns} : Lib.compact (sortI (gotL l)) = callL l := by
 obtain ⟨h1,h2⟩ := compact_asc (sortI_sorted (l := gotL l))
 obtain ⟨h3,h4⟩ := callL_go l [] (by simp [Asc])
 refine asc_ext h1 h3 fun x => ?_
 rw [h2 x]
 have h5 := h4 x
 simp only [List.not_mem_nil,false_or] at h5
 rw [show callL l = l.foldl (fun a x => if isCall x then putL a x.b else a) [] from rfl,h5]
 unfold sortI gotL
 rw [List.mem_mergeSort]
end Go.Den
/- Sort and Compact on objects. -/
namespace Go.Den
attribute [local irreducible] T.get T.set
theorem compact_len' (zs : List Int) : (Lib.compact zs).length ≤ zs.length := by
 unfold Lib.compact Lib.compactUpTo
 rw [List.length_map]
 exact Nat.le_trans (List.length_filter_le _ _) (by simp)
theorem compI_len' {zs : List Int} : (compI zs).length = zs.length := by
 have := compact_len' zs
 unfold compI; simp; omega
theorem sort_pf {zs : List Int} {i c : Nat} {junk : List PV} {L : List LObj} (hL : prow L i = some (3,zs.map pin ++ junk)) (hbg : zs.length < 4611686018427387904) {K : PV → List LObj → Prop}
  (hk : K (.tup []) (L.set i (.row 3 ((sortI zs).map pin ++ junk)))) : PF FD XA XN false (.fn 82 [] []) [.slc i 0 zs.length c] L K :=
 sort_ok (by unfold XA; rw [if_neg (by decide),if_pos rfl]) hL hbg hk
theorem comp_pf {zs : List Int} {i c : Nat} {junk : List PV} {L : List LObj} (hL : prow L i = some (3,zs.map pin ++ junk)) (hbg : zs.length < 4611686018427387904) {K : PV → List LObj → Prop}
  (hk : K (.slc i 0 (Lib.compact zs).length c) (L.set i (.row 3 ((compI zs).map pin ++ junk)))) : PF FD XA XN false (.fn 83 [] []) [.slc i 0 zs.length c] L K := by
 have h0 : XA 83 = some xComp := by unfold XA; rw [if_neg (by decide),if_neg (by decide),if_pos rfl]
 intro A ρ ζ H dv dargs gz hr hv ha
 obtain ⟨a',c',rfl,h1,h2⟩ := hv.fn_inv
 have e1 := h1.nil_left
 have e2 := h2.nil_left
 have hLi := prow_some hL
 cases ha with
 | cons ha1 ha2 =>
  cases ha2
  rename_i y
  by_cases hz : zs = []
  ·subst hz
   have hc0 : Lib.compact ([] : List Int) = [] := rfl
   have hset : L.set i (.row 3 ((compI []).map pin ++ junk)) = L := by
    have hs0 : compI [] = [] := rfl
    rw [hs0]
    apply List.ext_getElem?
    intro j
    rw [List.getElem?_set]
    by_cases e : i = j
    ·subst e; rw [if_pos rfl,if_pos (List.getElem?_eq_some_iff.1 hLi).1,hLi]
    ·rw [if_neg e]
   rw [hset,hc0] at hk
   have hg0 : xComp [y] H = some (.ret y,H) := by
    rcases ha1.slc_inv with ⟨k,_,_,rfl⟩ | ⟨_,_,_,_,rfl⟩ <;> simp [xComp]
   refine wpF_ext (v := y) (H' := H) h0 (by rw [e1,e2]; simpa using hg0) ?_
   exact ⟨ρ,ζ,_,L,.refl _ _,.refl _,hr,ha1,Only.refl _ _,(fun h => by cases h),Nat.le_refl _,hk⟩
  ·have hn : zs.length ≠ 0 := fun h => hz (List.length_eq_zero_iff.1 h)
   obtain ⟨g,hg⟩ := hr
   have hsrc : psrc L 1 (.slc i 0 zs.length c) = some (zs.map pin,zs.length) := by
    simp only [psrc,hL]
    have hcut : cut (zs.map pin ++ junk) 0 (zs.length * 1) = zs.map pin := by simp [cut]
    rw [hcut]
    rw [if_pos ⟨by simp,by simp⟩]
   obtain ⟨cs,hcs,hvl,_⟩ := psrc_ok hg ha1 hsrc
   have hints := intsV_of hvl
   rcases ha1.slc_inv with ⟨k,hρ,hlc,rfl⟩ | ⟨_,_,h3,_,_⟩
   case inr => exact absurd h3 hn
   have hvp : VP ρ ζ (.ptr i 0) (.pointer (some ⟨k,0,none⟩)) := .ptr hρ
   have hva : VP ρ ζ (.agg ((compI zs).map pin)) (.agg ((compI zs).map (.int .i64)).toArray) := by
    refine .agg (by simp) (fun j h h' => ?_)
    simp only [List.getElem_map,List.getElem_toArray]
    exact .v rfl
   have hE : EnvP ρ ζ ((T.leaf.set 0 (.ptr i 0)).set 1 (.agg ((compI zs).map pin))) (((T.leaf : Env).set 0 (.pointer (some ⟨k,0,none⟩))).set 1 (.agg ((compI zs).map (.int .i64)).toArray)) :=
    EnvP.set (EnvP.set (fun j p h => by rw [T.get_leaf] at h; cases h) hvp) hva
   have hcl := compI_len' (zs := zs)
   have hpev : pev ((T.leaf.set 0 (.ptr i 0)).set 1 (.agg ((compI zs).map pin))) L (.store zs.length (.tmp 0) (.tmp 1)) = some (.tup [],L.set i (.row 3 (psl (zs.map pin ++ junk) 0 ((compI zs).map pin))),false) := by
    simp [hLi,allOne,hcl]
   obtain ⟨x,H',ρ',hev,hle,hrh,_,honly,_⟩ := pev_ok gz hg hE hpev
   have hst : storeV H zs.length (.pointer (some ⟨k,0,none⟩)) (.agg ((compI zs).map (.int .i64)).toArray) = some H' := by
    have h5 := hev (fun _ _ _ => none)
    simp only [ev,ea,T.get_set,if_true,show ((0 : Nat) = 1) = False from by simp,if_false] at h5
    cases h6 : storeV H zs.length (.pointer (some ⟨k,0,none⟩)) (.agg ((compI zs).map (.int .i64)).toArray) with
    | none => rw [h6] at h5; cases h5
    | some H2 => rw [h6] at h5; simp only [ok1,Option.some.injEq,Prod.mk.injEq] at h5; rw [h5.2]
   have hps : psl (zs.map pin ++ junk) 0 ((compI zs).map pin) = (compI zs).map pin ++ junk := by
    simp [psl,hcl]
   rw [hps] at hrh
   have hg0 : xComp [.slice (some ⟨k,0,none⟩) zs.length c] H = some (.ret (.slice (some ⟨k,0,none⟩) (Lib.compact zs).length c),H') := by
    simp only [xComp,if_neg hn,if_neg (Nat.not_le.2 hbg),hcs,hints,hst]
   have hcl2 := compact_len' zs
   refine wpF_ext (v := .slice (some ⟨k,0,none⟩) (Lib.compact zs).length c) (H' := H') h0 (by rw [e1,e2]; simpa using hg0) ?_
   exact ⟨ρ',ζ,_,_,.refl _ _,hle,hrh,.slc (hle _ _ hρ) (by omega),honly,(fun h => by cases h),by simp,hk⟩
end Go.Den
/- Calls, by the program. -/
namespace Go.Den
open IrD
attribute [local irreducible] T.get T.set
theorem gotL_succ {l : List FIns} {k : Nat} (hk : k < l.length) : gotL (l.take (k + 1)) = if isCall l[k] then gotL (l.take k) ++ [l[k].b] else gotL (l.take k) := by
 unfold gotL
 rw [List.take_succ_eq_append_getElem hk,List.filter_append,List.map_append,List.filter_cons]
 split <;> simp
theorem gotL_len {l : List FIns} : (gotL l).length ≤ l.length := by
 unfold gotL; rw [List.length_map]; exact List.length_filter_le _ _
def PcJ (c : FCode) (m : Nat) (E : PEnv) (L : List LObj) : Prop := ∃ i : Nat,i + m = c.bodies.length ∧ L = [.row 41 (((callLs c).map (ints 3)).take i)] ∧
 Has E [(5,.slc 0 0 i i),(17,recs 61 encBo c.bodies),(18,pin c.bodies.length),(19,pin i)]
def PcJ2 (c : FCode) (i : Nat) (l : List FIns) (m : Nat) (E : PEnv) (L : List LObj) : Prop := ∃ k : Nat,k + m = l.length ∧ L = [.row 41 (((callLs c).map (ints 3)).take i),.row 3 ((gotL (l.take k)).map pin)] ∧
 Has E [(5,.slc 0 0 i i),(17,recs 61 encBo c.bodies),(18,pin c.bodies.length),(19,pin i),(8,.slc 1 0 (gotL (l.take k)).length (gotL (l.take k)).length),(24,recs 65 encI l),(25,pin l.length),(26,pin k)]
theorem pcalls_ok {c : FCode} (hc : OkC c) (hs : ∀ b ∈ c.bodies,b.code.length ≤ 1000) : PPd (.fn 19 [] []) [.agg (encC c)] (.tup [lists2 41 (callsS c),pin (checkS c)]) := by
 refine PPc rfl rfl rfl (by simp) (by simp [noId]) (by simp [noId,noIdL]) ?_
 have hres : ir19.results = [.tmp 2,.tmp 3] := rfl
 have hcc : cut (encC c) 0 2 = encC c := rfl
 refine PCq (PW_ok _ ?_)
 simp
 refine PCq (PCq (PW_ok _ ?_))
 simp [hcc]
 refine (check_ok hc).runk ?_
 simp
 refine PCq (PW_ok _ ?_)
 simp
 by_cases he : checkS c = 0
 case neg =>
  have hls : callsS c = [] := by simp [callsS,he]
  rw [hls]
  refine PW_ok _ ?_
  simp [he]
  simp [he,hres]
  exact .tup rfl (fun j a b => by
   match j,a,b with
   | 0,_,_ => exact .nil
   | 1,_,_ => exact .same rfl)
 have hls : callsS c = callLs c := by simp [callsS,he]
 have hco : encC c = [pin c.globals,recs 61 encBo c.bodies] := rfl
 rw [hls,he]
 refine PW_ok _ ?_
 simp
 refine PCq (PW_ok _ ?_)
 simp
 rw [hco]
 refine PCq (PCq (PW_ok _ ?_))
 simp [recs]
 refine PC.abs ((Abs.addNil 0 _ _).trans (Abs.keep [1] [(5,.slc 0 0 0 0),(17,recs 61 encBo c.bodies),(18,pin c.bodies.length),(19,pin (0 : Nat))] (L' := [.row 41 []]) (by simp) (by simp) (.cons ⟨_,rfl,.nilr⟩ .nil) ?_)) ?_
 ·simp [recs]
  exact ⟨.nilr rfl rfl,.same (by simp [noId]),.same rfl,.same rfl⟩
 refine PW_ok _ ?_
 simp
 have hbB : c.bodies.length ≤ 1000000 := hc.bodies
 refine PCl (PcJ c) ?_ (k := c.bodies.length) ⟨0,by omega,by simp,Has.env (by simp)⟩
 rintro m E L ⟨i,him,rfl,⟨e5,e17,e18,e19, -⟩⟩
 by_cases hi : i < c.bodies.length
 case neg =>
  have hie : i = c.bodies.length := by omega
  subst hie
  rw [List.take_of_length_le (by simp [callLs_len])]
  simp [e5,e17,e18,e19,recs]
  refine PW_ok _ ?_
  simp [e5,hres]
  exact .tup rfl (fun j a b => by
   match j,a,b with
   | 0,_,_ => exact Vw.frz rfl (by simp [ints]) (by simp) (by simp [lists2,callLs_len])
   | 1,_,_ => exact .same rfl)
 have hi' : (i : Int) < (c.bodies.length : Int) := by omega
 have hsi := hs _ (List.getElem_mem hi)
 have hcut := cutBo hi
 have htk := callLs_take hi
 have hwi : IntKind.wrap .i64 ((i : Int) + 1) = (i : Int) + 1 := wrap64 (by omega) (by omega)
 have hbo : encBo c.bodies[i] = [pstr c.bodies[i].name,pin c.bodies[i].regs,pin c.bodies[i].args,recs 65 encI c.bodies[i].code] := rfl
 have rr : roomy (i + 1) 24 := rmf (by omega) (by omega)
 have hle : i ≤ (callLs c).length := by rw [callLs_len]; omega
 generalize c.bodies[i] = b at *
 rw [hbo] at hcut
 simp [e5,e17,e18,e19,recs,hi,hi',hcut]
 refine PC.abs ((Abs.addNil 0 _ _).trans (Abs.keep [0,2] [(5,.slc 0 0 i i),(17,recs 61 encBo c.bodies),(18,pin c.bodies.length),(19,pin i),(8,.slc 1 0 0 0),(24,recs 65 encI b.code),(25,pin b.code.length),(26,pin (0 : Nat))]
  (L' := [.row 41 (((callLs c).map (ints 3)).take i),.row 3 []]) (by simp) (by simp) (.cons ⟨_,rfl,.row (VwL.same (noIdL_take (by simp)))⟩ (.cons ⟨_,rfl,.nilr⟩ .nil)) ?_)) ?_
 ·simp [e5,e17,e18,e19,recs]
  exact ⟨.slc rfl,.same (by simp [noId]),.same rfl,.same rfl,.nilr rfl rfl,.same (by simp [noId]),.same rfl,.same rfl⟩
 refine PCl (PcJ2 c i b.code) ?_ (k := b.code.length) ⟨0,by omega,by simp [gotL],Has.env (by simp [gotL])⟩
 clear e5 e17 e18 e19
 rintro m2 E L ⟨k,hkm,rfl,⟨e5,e17,e18,e19,e8,e24,e25,e26, -⟩⟩
 have hgl := gotL_len (l := b.code.take k)
 rw [List.length_take] at hgl
 by_cases hk : k < b.code.length
 case neg =>
  have hke : k = b.code.length := by omega
  subst hke
  rw [List.take_length] at e8 hgl ⊢
  simp [e5,e17,e18,e19,e8,e24,e25,e26]
  unfold PFk
  refine sort_pf (zs := gotL b.code) (junk := []) (by simp) (by omega) ?_
  simp [e5,e17,e18,e19,e8,e24,e25,e26]
  unfold PFk
  have hsl : (sortI (gotL b.code)).length = (gotL b.code).length := sortI_len
  rw [← hsl]
  refine comp_pf (zs := sortI (gotL b.code)) (junk := []) (by simp) (by omega) ?_
  have hlaw := callL_law (l := b.code)
  rw [hlaw]
  simp [e5,e17,e18,e19,e8,e24,e25,e26,rr,hle,hwi]
  have hcl := compact_len' (sortI (gotL b.code))
  rw [hlaw] at hcl
  have hci : (compI (sortI (gotL b.code))).map pin = (callL b.code).map pin ++ (List.replicate ((sortI (gotL b.code)).length - (callL b.code).length) (0 : Int)).map pin := by unfold compI; rw [hlaw,List.map_append]
  refine GoOn.keep [3] [(5,.slc 0 0 (i + 1) (i + 1)),(17,recs 61 encBo c.bodies),(18,pin c.bodies.length),(19,pin (i + 1 : Nat))] (L' := [.row 41 (((callLs c).map (ints 3)).take (i + 1))]) (m - 1) (by omega) (by simp) (by simp)
   (.cons ⟨_,rfl,.row (by
    rw [htk]
    refine VwL.snoc (noIdL_take (by simp)) ?_
    exact .fzs (cs'' := (callL b.code).map pin) (by simp) rfl (by simp) (by simp) (by rw [hci]; simp) (by simp) (fun j h h' => .same (nIg (l := (callL b.code).map pin) (by simp) j h)))⟩ .nil) ?_ ⟨i + 1,by omega,rfl,Has.env (by simp)⟩
  simp only [HasV_cons,HasV_nil,and_true]
  exact ⟨⟨_,by simp,.slc rfl⟩,⟨_,by simp [e17],.same (by simp)⟩,⟨_,by simp [e18],.same rfl⟩,⟨_,by simp,.same rfl⟩⟩
 have hcut2 := cutI hk
 have hk' : (k : Int) < (b.code.length : Int) := by omega
 have hwk : IntKind.wrap .i64 ((k : Int) + 1) = (k : Int) + 1 := wrap64 (by omega) (by omega)
 have hstep := gotL_succ hk
 have hxe : encI b.code[k] = [pin b.code[k].op,pin b.code[k].a,pin b.code[k].b,pin b.code[k].c,pin b.code[k].d,pstr b.code[k].text,ints 3 b.code[k].list] := rfl
 have go : ∀ {E' : PEnv} {L' : List LObj} {j g : Nat},E'.get 5 = some (.slc 0 0 i i) → E'.get 17 = some (recs 61 encBo c.bodies) → E'.get 18 = some (pin c.bodies.length) → E'.get 19 = some (pin i) → E'.get 8 = some (.slc j 0 g g) → g = (gotL (b.code.take (k + 1))).length → E'.get 24 = some (recs 65 encI b.code) → E'.get 25 = some (pin b.code.length) → E'.get 26 = some (pin (k + 1 : Nat)) →
   L'[0]? = some (.row 41 (((callLs c).map (ints 3)).take i)) → L'[j]? = some (.row 3 ((gotL (b.code.take (k + 1))).map pin)) → j ≠ 0 → GoOn (PcJ2 c i b.code) m2 E' L' := by
  intro E' L' j g a5 a17 a18 a19 a8 hg a24 a25 a26 h0 h1 hj
  subst hg
  refine GoOn.keep [0,j] [(5,.slc 0 0 i i),(17,recs 61 encBo c.bodies),(18,pin c.bodies.length),(19,pin i),(8,.slc 1 0 (gotL (b.code.take (k + 1))).length (gotL (b.code.take (k + 1))).length),(24,recs 65 encI b.code),(25,pin b.code.length),(26,pin (k + 1 : Nat))]
   (L' := [.row 41 (((callLs c).map (ints 3)).take i),.row 3 ((gotL (b.code.take (k + 1))).map pin)]) (m2 - 1) (by omega) (by simp; omega) (by simp; exact ⟨(List.getElem?_eq_some_iff.1 h0).1,(List.getElem?_eq_some_iff.1 h1).1⟩)
   (.cons ⟨_,h0,.row (VwL.same (noIdL_take (by simp)))⟩ (.cons ⟨_,h1,.row (VwL.same (by simp))⟩ .nil)) ?_ ⟨k + 1,by omega,rfl,Has.env (by simp)⟩
  simp only [HasV_cons,HasV_nil,and_true]
  exact ⟨⟨_,a5,.slc rfl⟩,⟨_,a17,.same (by simp)⟩,⟨_,a18,.same rfl⟩,⟨_,a19,.same rfl⟩,⟨_,a8,.slc rfl⟩,⟨_,a24,.same (by simp)⟩,⟨_,a25,.same rfl⟩,⟨_,a26,.same rfl⟩⟩
 generalize b.code[k] = x at *
 rw [hxe] at hcut2
 have rr2 : roomy ((gotL (b.code.take k)).length + 1) 8 := rmf (by omega) (by omega)
 by_cases hx : isCall x = true
 ·rw [if_pos hx] at hstep
  have hx2 : x.op = 21 ∨ x.op = 27 := by simpa [isCall] using hx
  rcases hx2 with h | h
  ·simp [e5,e17,e18,e19,e8,e24,e25,e26,recs,ints,hk,hk',hcut2,h,hwk,rr2]
   exact go (j := 4) (g := (gotL (b.code.take k)).length + 1) (by simp [e5]) (by simp [e17]) (by simp [e18]) (by simp [e19]) (by simp) (by rw [hstep]; simp) (by simp [e24,recs]) (by simp [e25]) (by simp) (by simp) (by rw [hstep]; simp) (by omega)
  ·simp [e5,e17,e18,e19,e8,e24,e25,e26,recs,ints,hk,hk',hcut2,h,hwk,rr2]
   exact go (j := 4) (g := (gotL (b.code.take k)).length + 1) (by simp [e5]) (by simp [e17]) (by simp [e18]) (by simp [e19]) (by simp) (by rw [hstep]; simp) (by simp [e24,recs]) (by simp [e25]) (by simp) (by simp) (by rw [hstep]; simp) (by omega)
 ·rw [if_neg hx] at hstep
  have hx2 : ¬ x.op = 21 ∧ ¬ x.op = 27 := by simpa [isCall] using hx
  simp [e5,e17,e18,e19,e8,e24,e25,e26,recs,ints,hk,hk',hcut2,hx2.1,hx2.2,hwk]
  exact go (j := 1) (g := (gotL (b.code.take k)).length) (by simp [e5]) (by simp [e17]) (by simp [e18]) (by simp [e19]) (by simp [e8]) (by rw [hstep]) (by simp [e24,recs]) (by simp [e25]) (by simp) (by simp) (by rw [hstep]; simp) (by omega)
theorem blocksS_big {c : FCode} {body : Int} (hs : ∀ b ∈ c.bodies,b.code.length ≤ 90) : big (blocksS c body).length ∧ ∀ a ∈ blocksS c body,big a.next.length := by
 by_cases he : errS c body = 0
 case neg =>
  have hls : blocksS c body = [] := by simp [blocksS,he]
  rw [hls]
  exact ⟨by simp [big],fun a h => by simp at h⟩
 obtain ⟨h0,k,rfl,hk⟩ := errS_zero he
 have hob := okB_of h0 hk
 have hsk := hs _ (List.getElem_mem hk)
 have htg := targets_ok hob
 have hls : blocksS c (k : Int) = blkL c.bodies[k].code := by simp [blocksS,he,hk]
 rw [hls]
 have hN := blk_okN hsk htg
 exact ⟨by have := hN.nb; unfold big; omega,fun a ha => by have := (hN.src a ha).2.2.1; unfold big; omega⟩
theorem callsS_big {c : FCode} (hc : OkC c) (hs : ∀ b ∈ c.bodies,b.code.length ≤ 90) : big (callsS c).length ∧ ∀ l ∈ callsS c,big l.length := by
 unfold callsS
 split
 ·refine ⟨by rw [callLs_len]; have := hc.bodies; unfold big; omega,fun l hl => ?_⟩
  unfold callLs at hl
  obtain ⟨b,hb,rfl⟩ := List.mem_map.1 hl
  have h1 := hs b hb
  have h2 := callL_len (l := b.code) (k := b.code.length) (Nat.le_refl _)
  rw [List.take_length] at h2
  unfold big; omega
 ·exact ⟨by simp [big],fun l hl => by simp at hl⟩
theorem flowBlocks_ok {c : FCode} {body : Int} (hh : Holds c) : PPd (.fn 3 [] []) [.agg (encC c),pin body] (pbool true) := by
 refine PPc rfl rfl rfl (by simp) (by simp [noId]) (by simp) (PW_ok _ ?_)
 have hcc : cut (encC c) 0 2 = encC c := rfl
 simp [ir3,hcc]
 refine (small_ok (most := 90) hh (by omega) (by omega)).runk ?_
 by_cases hs : smallB c 90 = true
 case neg =>
  have hs' : smallB c 90 = false := by simpa using hs
  simp [hs']
  refine awakeV_ok.runk ?_
  simp
  exact .same rfl
 obtain ⟨hc,h5⟩ := small_okC (by omega) hs
 have h90 : ∀ b ∈ c.bodies,b.code.length ≤ 90 := fun b hb => by
  unfold smallB at hs
  simp only [Bool.and_eq_true,decide_eq_true_eq] at hs
  have := (small_few (by omega) hs.2 b hb).1
  omega
 have b1 := blocksS_big (body := body) h90
 have b2 := callsS_big hc h90
 simp [hs,hcc]
 refine (pblocks_ok hc (fun b hb => by have := h90 b hb; omega)).runk ?_
 simp [hcc]
 refine (rblocks_ok hc (fun b hb => by have := h90 b hb; omega)).runk ?_
 simp [hcc]
 refine (ptext_ok hc h90).runk ?_
 simp [hcc]
 refine (rtext_ok hc (fun b hb => by have := h90 b hb; omega)).runk ?_
 simp [hcc]
 refine (pcalls_ok hc (fun b hb => by have := h90 b hb; omega)).runk ?_
 simp [hcc]
 refine (rcalls_ok hc (fun b hb => by have := h90 b hb; omega)).runk ?_
 simp
 have hse : ∀ s : List UInt8,arS .eql (bstr s) (bstr s) = some (.bool true) := fun s => by simp [arS]
 refine (lawBlocks_ok b1.1 b1.2).runk ?_
 simp [hse]
 refine (lists_ok b2.1 b2.2).runk ?_
 simp
 refine awakeV_ok.runk ?_
 simp
 exact .same rfl
end Go.Den
