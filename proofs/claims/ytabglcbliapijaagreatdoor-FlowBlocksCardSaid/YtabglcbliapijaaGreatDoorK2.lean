/- Part 2 of the proof: a compiled form, its executor, what it computes. -/
import Derived.Test.YtabglcbliapijaaGreatDoorK1
import Derived.RangeFuncNested
set_option linter.all false
set_option maxRecDepth 8000
set_option maxHeartbeats 8000000
/- Den, part Q: regions in the order of the text; code; functions. -/
namespace Go.Den
variable {gl : Nat → Bool} {P : Program} {σ : Ren} {H H' : AH} {w : World} {inv : Inv} {e : Env} {a : Act} {o : Oper} {v : Value}
theorem wanted_ok {N n0 : Nat} (st : St gl P σ H w e a N n0) {ops : Array Oper} {b : Bool} (h : wtI e (cIns P ops o).guard = some b) (hg : o.guard.isSome → (cIns P ops o).guard.isSome) : Region.wanted o (yielded ops a.tmps) = b := by
 unfold cIns at h hg
 cases hgo : o.guard with
 | none => rw [hgo] at h; simp [wtI] at h; subst h; simp [Region.wanted,hgo]
 | some jb =>
  obtain ⟨j,want⟩ := jb
  rw [hgo] at h hg
  simp only at h hg
  cases hd : (ops[j]?).bind (·.dst) with
  | none => rw [hd] at hg; simp at hg
  | some t =>
   rw [hd] at h
   simp only [wtI] at h
   cases ht : e.get t with
   | none => rw [ht] at h; cases h
   | some u =>
    rw [ht] at h
    have hr := st.cx.he t u ht
    simp only [Region.wanted,hgo,yielded,hd,Option.bind_some]
    by_cases hb : ∃ c,u = .bool c
    ·obtain ⟨c,rfl⟩ := hb
     simp only [Option.some.injEq] at h
     have hc := hr.bool_inv
     cases htm : a.tmps[t]? with
     | none => simp [Array.getD_eq_getD_getElem?,htm,Go.undef] at hc
     | some y =>
      simp [Array.getD_eq_getD_getElem?,htm] at hc
      subst hc
      rw [← h]; cases c <;> cases want <;> rfl
    ·have hb' : b = false := by cases u <;> first | exact absurd ⟨_,rfl⟩ hb | (simpa using h.symm)
     subst hb'
     cases htm : a.tmps[t]? with
     | none => simp
     | some y =>
      simp [Array.getD_eq_getD_getElem?,htm] at hr
      cases y <;> first | (simp; done) | (exfalso; cases u <;> first | exact hb ⟨_,rfl⟩ | cases hr)
theorem evs_list {ro : Option Nat} {N n0 : Nat} {ops : Array Oper} (hinv : InvOk gl P inv) {Q : Exit → Act → World → Prop} : ∀ (l : List Nat) {σ : Ren} {H : AH} {w : World} {e : Env} {a : Act} {x : Ex} {e' : Env} {H' : AH},St gl P σ H w e a N n0 → (∀ i ∈ l,i < ops.size) →
  (∀ i ∈ l,(cIns P ops (ops.getD i default)).ok gl N = true) →
  evs inv (l.map fun i => cIns P ops (ops.getD i default)) e H = some (x,e',H') → (∀ ex a' w',PostC gl P σ H w N n0 x e' H' ex a' w' → Q ex a' w') → wpOpsIn (Fw ro) 0 P ops Q l a w := by
 intro l
 induction l with
 | nil =>
  intro σ H w e a x e' H' st _ _ h hq
  simp [evs] at h
  obtain ⟨rfl,rfl,rfl⟩ := h
  exact hq _ _ _ ⟨σ,trivial,st,.refl _ _ _⟩
 | cons i l ih =>
  intro σ H w e a x e' H' st hlt hoks h hq
  have hi := hlt i (by simp)
  have ho : ops[i]? = some (ops.getD i default) := by simp [Array.getD_eq_getD_getElem?,hi]
  have hok := hoks i (by simp)
  simp only [List.map_cons,evs] at h
  simp only [wpOpsIn,ho]
  generalize ops.getD i default = o at *
  have hop : (cIns P ops o).op = cOp P o.op ∨ (cIns P ops o).op = .bad "guard" := by
   unfold cIns; split
   ·exact .inl rfl
   ·split
    ·exact .inl rfl
    ·exact .inr rfl
  have hdst : (cIns P ops o).dst = o.dst := by
   unfold cIns; split
   ·rfl
   ·split <;> rfl
  simp only [Ins.ok,Bool.and_eq_true] at hok
  cases hw : wtI e (cIns P ops o).guard with
  | none => rw [hw] at h; cases h
  | some b =>
   rw [hw] at h
   by_cases hgu : o.guard.isSome → (cIns P ops o).guard.isSome
   case neg =>
    exfalso
    have hn : o.guard.isSome ∧ ¬ (cIns P ops o).guard.isSome := Classical.not_imp.1 hgu
    have hbad : (cIns P ops o).guard = none ∧ (cIns P ops o).op = .bad "guard" := by
     obtain ⟨h1,h2⟩ := hn
     unfold cIns at h2 ⊢
     cases hg : o.guard with
     | none => rw [hg] at h1; cases h1
     | some jb =>
      obtain ⟨j,bb⟩ := jb
      rw [hg] at h2
      simp only at h2 ⊢
      cases hd : (ops[j]?).bind (·.dst) with
      | none => exact ⟨rfl,rfl⟩
      | some t => rw [hd] at h2; simp at h2
    rw [hbad.1] at hw
    simp only [wtI,Option.some.injEq] at hw
    subst hw
    simp only [hbad.2] at h
    simp [ev] at h
   have hwant := wanted_ok st hw hgu
   cases b with
   | false =>
    simp only at h
    rw [hwant,if_neg (by simp)]
    refine ⟨about_wide, ?_⟩
    rw [hdst] at h
    have st' := st.put (d := o.dst) (hdst ▸ hok.1) (VR.undef σ)
    exact ih st' (fun j hj => hlt j (by simp [hj])) (fun j hj => hoks j (by simp [hj])) h hq
   | true =>
    simp only at h
    rw [hwant,if_pos rfl]
    rcases hop with hop | hop
    ·rw [hop] at h hok
     rw [hdst] at h hok
     cases hev : ev inv e H (cOp P o.op) with
     | none => rw [hev] at h; cases h
     | some oh =>
      obtain ⟨out,H1⟩ := oh
      rw [hev] at h
      refine oper_ok (N := N) (n0 := n0) hinv st.cx hok.2 hev (fun v c σ' w' hout hv hr hf _ => ?_) (fun v c σ' w' hout hv hr hf => ?_)
      ·subst hout
       simp only at h
       have st' := (st.step hr hf).put hok.1 hv
       exact ih st' (fun j hj => hlt j (by simp [hj])) (fun j hj => hoks j (by simp [hj])) h (fun ex a' w' hp => hq _ _ _ (hp.trans hf))
      ·subst hout
       simp only [Option.some.injEq,Prod.mk.injEq] at h
       obtain ⟨rfl,rfl,rfl⟩ := h
       exact hq _ _ _ ⟨σ',⟨c,rfl,hv⟩,st.step hr hf,hf⟩
    ·rw [hop] at h; simp [ev] at h
theorem ops_list (ops : Array Oper) (f : Oper → Ins) : ops.toList.map f = (List.range ops.size).map fun i => f (ops.getD i default) := by
 apply List.ext_getElem?
 intro i
 simp only [List.getElem?_map,Array.getElem?_toList]
 by_cases h : i < ops.size
 ·simp [h,Array.getD_eq_getD_getElem?]
 ·rw [Array.getElem?_eq_none (by omega),List.getElem?_eq_none (by simp; omega)]; rfl
theorem region_ok {ro : Option Nat} {N n0 id : Nat} {ops : Array Oper} {x : Ex} {e' : Env} (hinv : InvOk gl P inv) (st : St gl P σ H w e a N n0) (hok : (ops.toList.map (cIns P ops)).all (Ins.ok gl N) = true)
  (h : evs inv (ops.toList.map (cIns P ops)) e H = some (x,e',H')) : (Code.region id ops false).wpIn (Fw ro) 0 P (PostC gl P σ H w N n0 x e' H') a w := by
 rw [ops_list ops (cIns P ops)] at h hok
 refine wpIn_region (evs_list hinv (List.range ops.size) st (fun i hi => by simpa using hi) (fun i hi => ?_) h (fun _ _ _ hq => hq))
 exact List.all_eq_true.1 hok _ (List.mem_map.2 ⟨i,hi,rfl⟩)
theorem wpIn_loopN {F : Fence} {n : Nat} {c : Code} {Q : Exit → Act → World → Prop} (J : Nat → Act → World → Prop) (h0 : ∀ a w,¬ J 0 a w)
  (round : ∀ m a w,J (m + 1) a w → c.wpIn F n P (Exit.then (J m) Q) a w) {m : Nat} (hJ : J m a w) : (Code.loop c).wpIn F n P Q a w := by
 intro b k cs hro hb hr
 have key : ∀ m a w,J m a w → ∃ e a' w',Q e a' w' ∧ ArrivesIn (Machine.fenced P F) P (lone (b.atR a (.code c :: .inLoop c :: k)) cs w) b k cs e a' w' := by
  intro m
  induction m with
  | zero => intro a w h; exact absurd h (h0 a w)
  | succ m ih =>
   intro a w h
   obtain ⟨e,a₁,w₁,hq,harr⟩ := round m a w h b (.inLoop c :: k) cs hro hb hr
   cases e with
   | normal =>
    obtain ⟨e₂,a₂,w₂,hq₂,harr₂⟩ := ih a₁ w₁ hq
    exact ⟨e₂,a₂,w₂,hq₂,.of_steps (StepsIn.trans harr (.one (fenced_calm hb hr rfl) stepR_inLoop)) harr₂⟩
   | exit id => exact ⟨_,a₁,w₁,hq,.pass (x := .inLoop c) rfl (fun _ _ => .inl (by simp)) harr⟩
   | goto l => exact ⟨_,a₁,w₁,hq,.pass (x := .inLoop c) rfl (fun _ _ => .inl (by simp)) harr⟩
   | ret => exact ⟨_,a₁,w₁,hq,.pass (x := .inLoop c) rfl (fun _ _ => .inl (by simp)) harr⟩
   | panic ch => exact ⟨_,a₁,w₁,hq,.pass (x := .inLoop c) rfl (fun _ _ => .inl (by simp)) harr⟩
   | outgrown => exact ⟨_,a₁,w₁,hq,.pass (x := .inLoop c) rfl (fun _ _ => .inl (by simp)) harr⟩
 obtain ⟨e,a',w',hq,harr⟩ := key m a w hJ
 exact ⟨e,a',w',hq,.of_steps (.one (fenced_calm hb hr rfl) stepR_loop) harr⟩
theorem wpIn_scopeD {F : Fence} {n : Nat} {c : Code} {Q : Exit → Act → World → Prop} (h : c.wpIn F n P Q a w) (hg : ∀ l a w,¬ Q (.goto l) a w) : (Code.scope c).wpIn F n P Q a w := by
 intro b k cs hro hb hr
 have h0 : (lone (b.atR a (.code (.scope c) :: k)) cs w).fenced P F := fenced_calm hb hr rfl
 have s1 : step P (lone (b.atR a (.code (.scope c) :: k)) cs w) = .next (lone (b.atR a (.code c :: .inScope c :: k)) cs w) := step_lone_go (by simp [stepG,stepG.exec,Frame.atR])
 have s2 : ∀ a w,step P (lone (b.atR a (.inScope c :: k)) cs w) = .next (lone (b.atR a k) cs w) := fun a w => step_lone_go (by simp [stepG,stepG.exec,Frame.atR])
 obtain ⟨e,a₁,w₁,hq,harr⟩ := h b (.inScope c :: k) cs hro hb hr
 have hx : ∀ id,exitTo id (.inScope c :: k) = exitTo id k := fun id => by simp [exitTo]
 cases e with
 | normal => exact ⟨.normal,a₁,w₁,hq,.head h0 s1 (StepsIn.trans harr (.one (fenced_calm hb hr rfl) (s2 _ _)))⟩
 | exit id => exact ⟨.exit id,a₁,w₁,hq,fun k' hk => .head h0 s1 (harr.1 k' (by rw [hx]; exact hk)),
    fun hr' hk => let ⟨k₁,h1,h2⟩ := harr.2 hr' (by rw [hx]; exact hk); ⟨k₁,h1,.head h0 s1 h2⟩⟩
 | goto l => exact absurd hq (hg _ _ _)
 | ret => exact ⟨_,a₁,w₁,hq,.of_steps (.one h0 s1) harr⟩
 | panic ch => exact ⟨_,a₁,w₁,hq,.of_steps (.one h0 s1) harr⟩
 | outgrown => exact ⟨_,a₁,w₁,hq,.of_steps (.one h0 s1) harr⟩
theorem PostC.noGoto {N n0 : Nat} {x : Ex} {e' : Env} : ∀ l a' w',¬ PostC gl P σ H w N n0 x e' H' (.goto l) a' w' := by
 rintro l a' w' ⟨σ',h,_⟩; cases x <;> exact h
theorem HR.junk {hp : Array Obj} (h : HR gl P σ H hp) (ob : Obj) : HR gl P σ H (hp.push ob) ∧ Fr σ H hp σ H (hp.push ob) := by
 constructor
 ·exact ⟨h.lt,h.fam,fun k p hk => ⟨(h.sig k p hk).1,by have := (h.sig k p hk).2; simp; omega⟩,fun k p hk => (h.obj k p hk).mono (.refl σ) (gpl (h.sig k p hk).2),h.typ,h.dis⟩
 ·exact ⟨.refl σ,Nat.le_refl _,fun _ _ => rfl,by simp,fun b hb hpr => ⟨gpl hb,hpr⟩,fun b l hl => ⟨l,(gpl (lt_of_some hl)).trans hl⟩⟩
def resSem (tmps : Array Value) : ResultVar → Sem Value
 | .tmp t => pure (tmps.getD t Go.undef)
 | .cell ad t => do loadVar t (← asAddr (tmps.getD ad Go.undef))
theorem run_results {rs : List ResultVar} {irs : List IRes} {vs : List Value} (cx : Cx gl P σ H w e a) (h : cRess P rs = some irs) (hv : resVs e H irs = some vs) :
  ∃ cs,(rs.mapM (resSem a.tmps)).run P w = .ok cs w ∧ VL σ vs cs := by
 induction rs generalizing irs vs with
 | nil => simp [cRess] at h; subst h; simp [resVs] at hv; subst hv; exact ⟨[],by simp,.nil⟩
 | cons r rs ih =>
  simp only [cRess] at h
  cases hr : cRes P r with
  | none => rw [hr] at h; cases h
  | some x =>
   rw [hr] at h
   cases hrs : cRess P rs with
   | none => rw [hrs] at h; cases h
   | some xs =>
    rw [hrs] at h
    simp only [Option.some.injEq] at h; subst h
    simp only [resVs] at hv
    cases h1 : resV e H x with
    | none => rw [h1] at hv; cases hv
    | some v =>
     rw [h1] at hv
     cases h2 : resVs e H xs with
     | none => rw [h2] at hv; cases hv
     | some us =>
      rw [h2] at hv
      simp only [Option.some.injEq] at hv; subst hv
      obtain ⟨cs,h3,h4⟩ := ih hrs h2
      have hone : ∃ c,(resSem a.tmps r).run P w = .ok c w ∧ VR σ v c := by
       cases r with
       | tmp t =>
        simp only [cRes,Option.some.injEq] at hr; subst hr
        simp only [resV] at h1
        exact ⟨_,rfl,cx.he t v h1⟩
       | cell ad t =>
        simp only [cRes,Option.map_eq_some_iff] at hr
        obtain ⟨g,hg,rfl⟩ := hr
        simp only [resV] at h1
        cases hp : e.get ad with
        | none => rw [hp] at h1; cases h1
        | some p =>
         rw [hp] at h1
         simp only at h1
         have hpr := cx.he ad p hp
         obtain ⟨c,h5,h6⟩ := run_loadVar (P := P) cx.hr hg hpr h1
         refine ⟨c, ?_,h6⟩
         cases p <;> simp [loadV] at h1
         rename_i ad'
         cases ad' with
         | none => simp at h1
         | some ad' =>
          obtain ⟨k,of,pl, -,hk,hq⟩ := hpr.ptr_inv
          rw [hq] at h5
          simp only [Instr.loadAt,Instr.sureAddr,Sem.run_bind,Sem.run_pure,Result.andThen_ok] at h5
          simp only [resSem,hq,asAddr,Sem.run_bind,Sem.run_pure,Result.andThen_ok]
          exact h5
      obtain ⟨c,h5,h6⟩ := hone
      refine ⟨c :: cs, ?_,.cons h6 h4⟩
      simp only [List.mapM_cons,Sem.run_bind,h5,Result.andThen_ok,h3,Sem.run_pure]
theorem results_ok {fn : Func} {irs : List IRes} (cx : Cx gl P σ H w e a) (h : cRess P fn.results.toList = some irs) (hv : resOut e H irs = some v) : ∃ c,(results fn a.tmps).run P w = .ok c w ∧ VR σ v c := by
 unfold resOut at hv
 cases hvs : resVs e H irs with
 | none => rw [hvs] at hv; cases hv
 | some vs =>
  rw [hvs] at hv
  obtain ⟨cs,h1,h2⟩ := run_results cx h hvs
  have hrun : (results fn a.tmps).run P w = .ok (if h : cs.toArray.size = 1 then cs.toArray[0] else .tuple cs.toArray) w := by
   have hrs : results fn a.tmps = (do let vs ← fn.results.mapM (resSem a.tmps); pure (if h : vs.size = 1 then vs[0] else .tuple vs)) := rfl
   rw [hrs,Array.mapM_eq_mapM_toList]
   simp only [Sem.run_bind,Sem.run_map]
   rw [h1]
   simp only [Result.andThen_ok,Sem.run_pure]
  refine ⟨_,hrun, ?_⟩
  have hlen := h2.length
  cases h2 with
  | nil => simp at hv; subst hv; simp; exact VR.tuple_iff.2 ⟨_,rfl,.nil⟩
  | cons hab hrest =>
   cases hrest with
   | nil => simp at hv; subst hv; simpa using hab
   | cons hab2 hrest2 =>
    simp at hv; subst hv
    simp
    exact VR.tuple_iff.2 ⟨_,rfl,.cons hab (.cons hab2 hrest2)⟩
theorem leaves_ok {fn : Func} {R : Ending → World → Prop} {n0 : Nat} {u : FrameMode} {tmps : Array Value} (hu : u ≠ .run) : ∀ (rs : List Nat) (w : World),rs.Nodup → (∀ r ∈ rs,n0 ≤ r ∧ w.heap[r]? = some (.deferred (some []))) →
  (∀ w' : World,(∀ b,(∀ r ∈ rs,b ≠ r) → w'.heap[b]? = w.heap[b]?) → (∀ r ∈ rs,w'.heap[r]? = some (.deferred none)) → (w'.heap.size = w.heap.size ∧ w'.os = w.os ∧ w'.output = w.output) → LeavesIn (Fw none) 0 P fn tmps R [] u w') →
  LeavesInM (Fw none) 0 P fn tmps R (rs.map mark) u w := by
 intro rs
 induction rs with
 | nil => intro w _ _ h; exact h w (fun _ _ => rfl) (fun _ h => by cases h) ⟨rfl,rfl,rfl⟩
 | cons r rs ih =>
  intro w hnd hall h
  obtain ⟨h1,h2⟩ := hall r (by simp)
  rw [List.nodup_cons] at hnd
  refine ⟨hu,.inl ⟨r,w.putObj r (.deferred none),rfl,run_takeDeferred h2, ?_⟩⟩
  refine ih _ hnd.2 (fun r' hr' => ?_) (fun w' g1 g2 g3 => ?_)
  ·obtain ⟨h3,h4⟩ := hall r' (by simp [hr'])
   refine ⟨h3, ?_⟩
   rw [World.putObj_heap_other (by rintro rfl; exact hnd.1 hr')]; exact h4
  ·refine h w' (fun b hb => ?_) (fun r' hr' => ?_) ⟨by rw [g3.1]; simp,g3.2.1,g3.2.2⟩
   ·rw [g1 b (fun r' hr' => hb r' (by simp [hr']))]
    exact World.putObj_heap_other (hb r (by simp))
   ·rcases List.mem_cons.1 hr' with rfl | hr'
    ·by_cases hin : r' ∈ rs
     ·exact g2 r' hin
     ·rw [g1 r' (fun q hq e => hin (e ▸ hq))]
      exact World.putObj_heap_same (lt_of_some h2)
    ·exact g2 r' hr'
end Go.Den
/- Den, part R: code. -/
namespace Go.Den
variable {gl : Nat → Bool} {P : Program} {σ : Ren} {H H' : AH} {w : World} {inv : Inv} {e : Env} {a : Act} {o : Oper} {v : Value}
def DrawsOk (gl : Nat → Bool) (P : Program) (inv : Inv) : Prop := ∀ (σ : Ren) (H : AH) (w : World) (e : Env) (a : Act) (N n0 : Nat) (ro : Option Nat) (id : Nat) (ops : Array Oper) (x : Ex) (e' : Env) (H' : AH) (n : Nat),
 (cCode P (.region id ops true)).ok gl N = true → St gl P σ H w e a N n0 → run inv n (cCode P (.region id ops true)) e H = some (x,e',H') → (Code.region id ops true).wpIn (Fw ro) 0 P (PostC gl P σ H w N n0 x e' H') a w
def RoOk (ro : Option Nat) (w : World) : Prop := ∀ l,ro = some l → ∃ r,w.heap[l]? = some (.loop r)
theorem RoOk.step {ro : Option Nat} {w' : World} {σ' : Ren} (h : RoOk ro w) (hf : FrW σ H w σ' H' w') : RoOk ro w' := fun l hl => let ⟨r,hr⟩ := h l hl; hf.loops l r hr
theorem resolve_fv {g : Operand} {l : Nat} : resolve a.eval (rangeCall g l) 0 = Deferred.ofValue (a.eval g) #[.func (.yield l) #[] #[]] := by
 simp [resolve,Act.eval]
theorem DefOk.nil {n0 : Nat} : DefOk n0 [] w := ⟨[],rfl,List.nodup_nil,fun _ h => by cases h⟩
theorem loopIn {ro : Option Nat} {N n0 : Nat} {f : Operand} {ps : Array Tmp} {as bd : Code} (st : St gl P σ H w e a N n0) (hro : RoOk ro w) (fn : FuncId)
  (h1 : (ps.toList.all fun t => Nat.blt t N) = true) (h2 : (cCode P as).ok gl N = true) (h3 : (cCode P bd).ok gl N = true) :
  ∃ l mk σ1 w1,(Instr.enterLoop fn a.tmps ps as bd ro).run P w = .ok (l,mk) w1 ∧
   (∃ p,σ1 H.next = some p ∧ p.b = l) ∧ St gl P σ1 (H.push (.loop e ps.toList (cCode P as) (cCode P bd) 0 none)) w1 e { a with defers := mk ++ a.defers } N n0 ∧
   FrW σ H w σ1 (H.push (.loop e ps.toList (cCode P as) (cCode P bd) 0 none)) w1 := by
 -- one block behind what is there
 have push : ∀ {w0 : World} {a0 : Act} (r : Loop),St gl P σ H w0 e a0 N n0 → r.tmps = a0.tmps → r.params = ps → r.assign = as → r.body = bd → r.state = .ready → r.pending = none →
   (∃ p,σ.add H.next ⟨w0.heap.size,0,0,0⟩ H.next = some p ∧ p.b = w0.heap.size) ∧
   St gl P (σ.add H.next ⟨w0.heap.size,0,0,0⟩) (H.push (.loop e ps.toList (cCode P as) (cCode P bd) 0 none)) (w0.alloc (.loop r)) e a0 N n0 ∧
   FrW σ H w0 (σ.add H.next ⟨w0.heap.size,0,0,0⟩) (H.push (.loop e ps.toList (cCode P as) (cCode P bd) 0 none)) (w0.alloc (.loop r)) := by
  intro w0 a0 r st0 e1 e2 e3 e4 e5 e6
  obtain ⟨hA,hB⟩ := st0.cx.hr.alloc (o := .loop e ps.toList (cCode P as) (cCode P bd) 0 none) (co := .loop r) (room := 0) (esz := 0) (fun _ => .inr trivial) (fun _ _ _ _ _ _ _ h => by cases h) (fun _ _ _ _ _ _ _ h => by cases h) (fun σ' hs => by
   unfold ObjOk
   rw [AH.gpu,if_pos rfl]
   refine ⟨r,by simp, ?_,by rw [e2],by rw [e3],by rw [e4], ?_, ?_, ?_,by rw [e5]; rfl,e6⟩
   ·rw [e1]; exact st0.cx.he.mono hs
   ·rw [e1,st0.size]; exact h2
   ·rw [e1,st0.size]; exact h3
   ·rw [e1,st0.size]; exact h1)
  exact ⟨⟨_,Ren.add_self _ _ _,rfl⟩,st0.step hA (.of hB),.of hB⟩
 cases ro with
 | none =>
  have hj := st.cx.hr.junk (.deferred (some []))
  have st1 : St gl P σ H (w.alloc (.deferred (some []))) e a N n0 := st.step hj.1 (.of hj.2)
  have hd : DefOk n0 (mark w.heap.size :: a.defers) (w.alloc (.deferred (some []))) := by
   obtain ⟨rs,h4,h5,h6⟩ := st.defs
   refine ⟨w.heap.size :: rs,by rw [h4]; rfl,List.nodup_cons.2 ⟨fun hin => ?_,h5⟩,fun r hr => ?_⟩
   ·exact absurd (lt_of_some (h6 _ hin).2) (Nat.lt_irrefl _)
   ·rcases List.mem_cons.1 hr with rfl | hr
    ·exact ⟨st.base,World.alloc_heap_new w _⟩
    ·obtain ⟨h7,h8⟩ := h6 r hr
     exact ⟨h7,(gpl (lt_of_some h8)).trans h8⟩
  have st2 : St gl P σ H (w.alloc (.deferred (some []))) e { a with defers := mark w.heap.size :: a.defers } N n0 := ⟨⟨st1.cx.hr,st1.cx.hgl,st1.cx.he⟩,st1.size,hd,st1.base⟩
  obtain ⟨hA,hB,hC⟩ := push { state := .ready,pending := none,fn,tmps := a.tmps,params := ps,assign := as,body := bd,defers := w.heap.size } st2 rfl rfl rfl rfl rfl rfl
  refine ⟨_,_,_,_,run_enterLoop_outer fn a.tmps ps as bd, ?_,hB,.trans (.of hj.2) hC⟩
  simpa using hA
 | some l0 =>
  obtain ⟨r0,hr0⟩ := hro l0 rfl
  obtain ⟨hA,hB,hC⟩ := push { state := .ready,pending := none,fn,tmps := a.tmps,params := ps,assign := as,body := bd,defers := r0.defers } st rfl rfl rfl rfl rfl rfl
  exact ⟨_,_,_,_,run_enterLoop_inner hr0 fn a.tmps ps as bd,hA,hB,hC⟩
theorem run_ok (hinv : InvOk gl P inv) (hdr : DrawsOk gl P inv) (n : Nat) : ∀ (c : Code) {σ : Ren} {H : AH} {w : World} {e : Env} {a : Act} {N n0 : Nat} {ro : Option Nat} {x : Ex} {e' : Env} {H' : AH},
  (cCode P c).ok gl N = true → St gl P σ H w e a N n0 → RoOk ro w → run inv n (cCode P c) e H = some (x,e',H') → c.wpIn (Fw ro) 0 P (PostC gl P σ H w N n0 x e' H') a w := by
 intro c
 induction c with
 | skip =>
  intro σ H w e a N n0 ro x e' H' hok st hro h
  simp only [cCode,run,Option.some.injEq,Prod.mk.injEq] at h
  obtain ⟨rfl,rfl,rfl⟩ := h
  exact wpIn_skip ⟨σ,trivial,st,.refl _ _ _⟩
 | label l =>
  intro σ H w e a N n0 ro x e' H' hok st hro h
  simp only [cCode,run,Option.some.injEq,Prod.mk.injEq] at h
  obtain ⟨rfl,rfl,rfl⟩ := h
  exact wpIn_label ⟨σ,trivial,st,.refl _ _ _⟩
 | exit id =>
  intro σ H w e a N n0 ro x e' H' hok st hro h
  simp only [cCode,run,Option.some.injEq,Prod.mk.injEq] at h
  obtain ⟨rfl,rfl,rfl⟩ := h
  exact wpIn_exit ⟨σ,rfl,st,.refl _ _ _⟩
 | ret =>
  intro σ H w e a N n0 ro x e' H' hok st hro h
  simp only [cCode,run,Option.some.injEq,Prod.mk.injEq] at h
  obtain ⟨rfl,rfl,rfl⟩ := h
  exact wpIn_ret ⟨σ,trivial,st,.refl _ _ _⟩
 | goto l => intro σ H w e a N n0 ro x e' H' hok st hro h; simp [cCode,run] at h
 | refuse s => intro σ H w e a N n0 ro x e' H' hok st hro h; simp [cCode,run] at h
 | region id ops draw =>
  intro σ H w e a N n0 ro x e' H' hok st hro h
  cases draw with
  | true => exact hdr σ H w e a N n0 ro id ops x e' H' n hok st h
  | false =>
   simp only [cCode,Bool.false_eq_true,if_false,run,ICode.ok] at h hok
   exact region_ok hinv st hok h
 | seq p q ihp ihq =>
  intro σ H w e a N n0 ro x e' H' hok st hro h
  simp only [cCode,run,ICode.ok,Bool.and_eq_true] at h hok
  refine wpIn_seq ?_
  cases h1 : run inv n (cCode P p) e H with
  | none => rw [h1] at h; cases h
  | some r =>
   obtain ⟨x1,e1,H1⟩ := r
   rw [h1] at h
   refine wpIn_mono (ihp hok.1 st hro h1) (fun ex a1 w1 hp => ?_)
   obtain ⟨σ1,hx,st1,hf⟩ := hp
   by_cases hn : x1 = .norm
   ·subst hn
    cases ex <;> simp [ExR] at hx
    exact wpIn_mono (ihq hok.2 st1 (hro.step hf) h) (fun _ _ _ hp => hp.trans hf)
   ·have h' : (x1,e1,H1) = (x,e',H') := by
     cases x1 <;> first | exact absurd rfl hn | simpa using h
    cases h'
    have : PostC gl P σ H w N n0 x e' H' ex a1 w1 := ⟨σ1,hx,st1,hf⟩
    cases ex <;> first | exact this | (exfalso; cases x <;> first | exact hn rfl | exact hx)
 | cond c p q ihp ihq =>
  intro σ H w e a N n0 ro x e' H' hok st hro h
  simp only [cCode,run,ICode.ok,Bool.and_eq_true] at h hok
  cases hc : ea e (cArg c) with
  | none => rw [hc] at h; cases h
  | some u =>
   rw [hc] at h
   have hr := st.cx.ea hok.1.1 hc
   cases u <;> simp only at h <;> try cases h
   rename_i t
   have hb : a.eval c = .bool t := hr.bool_inv
   refine wpIn_cond hb ?_
   cases t with
   | true => simp only [cond_true] at h; simpa using ihp hok.1.2 st hro h
   | false => simp only [cond_false] at h; simpa using ihq hok.2 st hro h
 | block id p ih =>
  intro σ H w e a N n0 ro x e' H' hok st hro h
  simp only [cCode,run,ICode.ok] at h hok
  refine wpIn_block ?_
  cases h1 : run inv n (cCode P p) e H with
  | none => rw [h1] at h; cases h
  | some r =>
   obtain ⟨x1,e1,H1⟩ := r
   rw [h1] at h
   refine wpIn_mono (ih hok st hro h1) (fun ex a1 w1 hp => ?_)
   obtain ⟨σ1,hx,st1,hf⟩ := hp
   by_cases hn : ∃ j,x1 = .exit j
   ·obtain ⟨j,rfl⟩ := hn
    cases ex <;> simp only [ExR] at hx
    subst hx
    simp only [Exit.inBlock]
    simp only at h
    cases hj : Nat.beq j id with
    | true =>
     rw [hj] at h; simp only [cond_true,Option.some.injEq,Prod.mk.injEq] at h
     obtain ⟨rfl,rfl,rfl⟩ := h
     rw [if_pos (Nat.eq_of_beq_eq_true hj)]
     exact ⟨σ1,trivial,st1,hf⟩
    | false =>
     rw [hj] at h; simp only [cond_false,Option.some.injEq,Prod.mk.injEq] at h
     obtain ⟨rfl,rfl,rfl⟩ := h
     rw [if_neg (fun hh => by subst hh; rw [Nat.beq_refl] at hj; cases hj)]
     exact ⟨σ1,rfl,st1,hf⟩
   ·have h' : (x1,e1,H1) = (x,e',H') := by
     cases x1 <;> first | exact absurd ⟨_,rfl⟩ hn | simpa using h
    cases h'
    have : PostC gl P σ H w N n0 x e' H' ex a1 w1 := ⟨σ1,hx,st1,hf⟩
    cases ex <;> first | exact this | (exfalso; cases x <;> first | exact hn ⟨_,rfl⟩ | exact hx)
 | loop p ih =>
  intro σ H w e a N n0 ro x e' H' hok st hro h
  simp only [cCode,run,ICode.ok] at h hok
  refine wpIn_loopN (n := 0) (J := fun m a1 w1 => ∃ σ1 H1 e1,St gl P σ1 H1 w1 e1 a1 N n0 ∧ FrW σ H w σ1 H1 w1 ∧ iter (run inv n (cCode P p)) m e1 H1 = some (x,e',H')) (fun a1 w1 hj => ?_) (fun m a1 w1 hj => ?_) (m := n) ⟨σ,H,e,st,.refl _ _ _,h⟩
  ·obtain ⟨_,_,_,_,_,h0⟩ := hj; simp [iter] at h0
  ·obtain ⟨σ1,H1,e1,st1,hf1,h1⟩ := hj
   simp only [iter] at h1
   cases h2 : run inv n (cCode P p) e1 H1 with
   | none => rw [h2] at h1; cases h1
   | some r =>
    obtain ⟨x2,e2,H2⟩ := r
    rw [h2] at h1
    refine wpIn_mono (ih hok st1 (hro.step hf1) h2) (fun ex a2 w2 hp => ?_)
    obtain ⟨σ2,hx,st2,hf2⟩ := hp
    by_cases hn : x2 = .norm
    ·subst hn
     cases ex <;> simp [ExR] at hx
     exact ⟨σ2,H2,e2,st2,hf1.trans hf2,h1⟩
    ·have h' : (x2,e2,H2) = (x,e',H') := by
      cases x2 <;> first | exact absurd rfl hn | simpa using h1
     cases h'
     have : PostC gl P σ H w N n0 x e' H' ex a2 w2 := ⟨σ2,hx,st2,hf1.trans hf2⟩
     cases ex <;> first | exact this | (exfalso; cases x <;> first | exact hn rfl | exact hx)
 | scope p ih =>
  intro σ H w e a N n0 ro x e' H' hok st hro h
  simp only [cCode] at h hok
  exact wpIn_scopeD (ih hok st hro h) PostC.noGoto
 | rangeFunc f ps as bd iha ihb =>
  intro σ H w e a N n0 ro x e' H' hok st hro h
  simp only [cCode,run,ICode.ok,Bool.and_eq_true] at h hok
  cases hfv : ea e (cArg f) with
  | none => rw [hfv] at h; cases h
  | some fv =>
   rw [hfv] at h
   have hfr := st.cx.ea hok.1.1.1 hfv
   by_cases hfn : ∃ g b c,fv = .func (.func g) b c
   case neg =>
    exfalso
    cases fv <;> first | cases h | skip
    rename_i g b c
    cases g <;> first | cases h | exact hfn ⟨_,_,_,rfl⟩
   obtain ⟨g,b,c,rfl⟩ := hfn
   simp only at h
   cases hcall : inv (.func (.func g) b c) [.func (.yield H.next) #[] #[]] (H.push (.loop e ps.toList (cCode P as) (cCode P bd) 0 none)) with
   | none => rw [hcall] at h; cases h
   | some r =>
    obtain ⟨out,H1⟩ := r
    rw [hcall] at h
    cases out with
    | pan v => cases h
    | ret u =>
    simp only at h
    refine wpIn_rangeFunc (fun fn _ => ?_)
    obtain ⟨l,mk,σ1,w1,hen,⟨p,hp,hpl⟩,st1,hf1⟩ := loopIn (f := f) st hro fn hok.1.1.2 hok.1.2 hok.2
    obtain ⟨cf,cb,cc,hce,_⟩ := VR.func_iff.1 hfr
    rw [hce] at hfr
    have hy : VR σ1 (.func (.yield H.next) #[] #[]) (.func (.yield l) #[] #[]) := by
     subst hpl
     exact .func (.yield hp) rfl (fun i h _ => by simp at h) rfl (fun i h _ => by simp at h)
    rcases hinv.func g b c [.func (.yield H.next) #[] #[]] _ (.ret u) H1 σ1 w1 cf cb cc #[.func (.yield l) #[] #[]] hcall st1.cx.hr st1.cx.hgl (hfr.mono hf1.le) (.cons hy .nil) with ⟨fid,as',h1,h2⟩ | ⟨hbad,_⟩
    case inr => simp [isYield] at hbad
    rw [Sem.run_bind] at h1
    cases hd : (Deferred.ofValue (.func cf cb cc) #[.func (.yield l) #[] #[]]).run P w1 with
    | halt s w0 => rw [hd] at h1; cases h1
    | ok d w0 =>
    rw [hd] at h1
    refine ⟨l,mk,w1,d,w0,fid,as',w1,hen, ?_,fun _ _ => trivial,h1,fun h => by simp [Fence.wide] at h, ?_⟩
    ·rw [resolve_fv,hce]; exact hd
    refine callsIn_wide.2 (h2.mono fun ee w3 he => ?_)
    cases ee with
    | outgrown => exact he.elim
    | panicked chain => obtain ⟨v,_,_,h0,_⟩ := he; cases h0
    | returned c' =>
     obtain ⟨_,σ2,_,_,hr2,hf2⟩ := he
     have hp2 : σ2 H.next = some p := hf2.le _ _ hp
     have hob := hr2.obj _ _ hp2
     unfold ObjOk at hob
     cases hg : H1.get H.next with
     | none => rw [hg] at h; cases h
     | some ob =>
      rw [hg] at h hob
      cases ob <;> simp only at h <;> try cases h
      rename_i le lps las lbd lst lpend
      obtain ⟨r,hr,hl⟩ := hob
      cases hst : Nat.beq lst 1 with
      | true => rw [hst] at h; cases h
      | false =>
      rw [hst] at h
      simp only [cond_false,Option.some.injEq,Prod.mk.injEq] at h
      obtain ⟨hx,rfl,rfl⟩ := h
      rw [hpl] at hr
      have hnb : r.state ≠ .busy := by
       intro hb; have := hl.st; rw [hb] at this; simp [stOf] at this; subst this; simp at hst
      obtain ⟨hA,hB⟩ := hr2.setObj (ob' := .loop le lps las lbd 3 lpend) (co' := .loop { r with state := .exhausted }) hp2 hg (fun _ _ _ _ _ _ _ h => by cases h) (fun h => by cases h) (fun _ _ _ _ _ _ _ h => by cases h) (hpl ▸ hr) (fun _ _ => ⟨_,rfl⟩) (by
       unfold ObjOk
       rw [AH.gpt,if_pos rfl]
       refine ⟨{ r with state := .exhausted },by rw [hpl]; simp [lt_of_some hr],hl.env,hl.params,hl.assign,hl.body,hl.boundA,hl.boundB,hl.boundP,rfl,hl.pend⟩)
      have st2 := (st1.step hr2 hf2)
      have st3 : St gl P σ2 (H1.put H.next (.loop le lps las lbd 3 lpend)) (w3.putObj l (.loop { r with state := .exhausted })) e { a with defers := mk ++ a.defers } N n0 := st2.step (by rw [← hpl]; exact hA) (by rw [← hpl]; exact .of hB)
      have hfr3 : FrW σ H w σ2 (H1.put H.next (.loop le lps las lbd 3 lpend)) (w3.putObj l (.loop { r with state := .exhausted })) := (hf1.trans hf2).trans (by rw [← hpl]; exact .of hB)
      refine ⟨r.pending,_,run_endLoop hr hnb, ?_⟩
      generalize w3.putObj l (.loop { r with state := .exhausted }) = w4 at st3 hfr3 ⊢
      have hpe := hl.pend
      cases lpend with
      | none =>
       simp only [PendOk] at hpe
       rw [hpe]
       simp at hx; subst hx
       exact ⟨σ2,trivial,st3,hfr3⟩
      | some y =>
       obtain ⟨c0,hj,hpe⟩ := hpe
       rw [hpe]
       simp at hx; subst hx
       cases y <;> simp [jumpOf] at hj <;> subst hj
       ·exact wpIn_exit ⟨σ2,rfl,st3,hfr3⟩
       ·exact wpIn_ret ⟨σ2,trivial,st3,hfr3⟩
end Go.Den
/- Den, part S: rounds; functions; the executor is right. -/
namespace Go.Den
variable {gl : Nat → Bool} {P : Program} {σ : Ren} {H H' : AH} {w : World} {inv : Inv} {e : Env} {a : Act} {o : Oper} {v : Value}
theorem HR.agree {hp hp' : Array Obj} (h : HR gl P σ H hp) (hsz : hp'.size = hp.size) (hag : ∀ b : Nat,hp'[b]? = hp[b]? ∨ ∃ x : Option (List Deferred),hp[b]? = some (Obj.deferred x)) : HR gl P σ H hp' := by
 refine ⟨h.lt,h.fam,fun k p hk => by rw [hsz]; exact h.sig k p hk,fun k p hk => ?_,h.typ,h.dis⟩
 rcases hag p.b with e | ⟨x,hx⟩
 ·exact (h.obj k p hk).mono (.refl σ) e
 ·have := h.obj k p hk
  unfold ObjOk at *
  cases hg : H.get k with
  | none => trivial
  | some o =>
   rw [hg] at this
   cases o with
   | cells => intro hl; obtain ⟨⟨_,_,_,_,h2,_⟩,_⟩ := this hl; rw [hx] at h2; cases h2
   | map => obtain ⟨_,h2,_⟩ := this; rw [hx] at h2; cases h2
   | iter => have h2 := this.2; rw [hx] at h2; cases h2
   | loop => obtain ⟨_,h2,_⟩ := this; rw [hx] at h2; cases h2
   | gone => trivial
theorem Fr.agree {hp hp' hp'' : Array Obj} {σ' : Ren} (h : Fr σ H hp σ' H' hp') (hsz : hp''.size = hp'.size) (hag : ∀ b,b < hp.size → hp''[b]? = hp'[b]?) : Fr σ H hp σ' H' hp'' :=
 ⟨h.le,h.next,h.old,by rw [hsz]; exact h.size,fun b hb hpr => let ⟨x,y⟩ := h.prot b hb hpr; ⟨(hag b hb).trans x,y⟩,
  fun b l hl => let ⟨l',x⟩ := h.loops b l hl; ⟨l',(hag b (lt_of_some hl)).trans x⟩⟩
theorem guardOk_mono {N M : Nat} (h : N ≤ M) {d : Option Nat} (hd : guardOk N d = true) : guardOk M d = true := by
 cases d with
 | none => rfl
 | some t => simp only [guardOk,Nat.blt_eq] at *; omega
theorem Ins.ok_mono {N M : Nat} (h : N ≤ M) {i : Ins} (hi : i.ok gl N = true) : i.ok gl M = true := by
 simp only [Ins.ok,Bool.and_eq_true] at *; exact ⟨guardOk_mono h hi.1,hi.2⟩
theorem all_mono {l : List Ins} {N M : Nat} (h : N ≤ M) (hl : l.all (Ins.ok gl N) = true) : l.all (Ins.ok gl M) = true := by
 rw [List.all_eq_true] at *; exact fun x hx => Ins.ok_mono h (hl x hx)
theorem ICode.ok_mono {N M : Nat} (h : N ≤ M) : ∀ {c : ICode},c.ok gl N = true → c.ok gl M = true := by
 intro c
 induction c with
 | ops l => intro hc; simp only [ICode.ok] at *; exact all_mono h hc
 | draw q t => intro hc; simp only [ICode.ok,Bool.and_eq_true] at *; exact ⟨all_mono h hc.1,all_mono h hc.2⟩
 | seq a b iha ihb => intro hc; simp only [ICode.ok,Bool.and_eq_true] at *; exact ⟨iha hc.1,ihb hc.2⟩
 | cond c a b iha ihb => intro hc; simp only [ICode.ok,Bool.and_eq_true] at *; exact ⟨⟨hc.1.1,iha hc.1.2⟩,ihb hc.2⟩
 | block _ c ih => intro hc; simp only [ICode.ok] at *; exact ih hc
 | loop c ih => intro hc; simp only [ICode.ok] at *; exact ih hc
 | rangeFunc f ps a b iha ihb =>
  intro hc; simp only [ICode.ok,Bool.and_eq_true] at *
  refine ⟨⟨⟨hc.1.1.1, ?_⟩,iha hc.1.2⟩,ihb hc.2⟩
  have := hc.1.1.2
  rw [List.all_eq_true] at *
  intro t ht; have := this t ht; simp only [Nat.blt_eq] at *; omega
 | _ => intro hc; exact hc
def FOk (gl : Nat → Bool) (P : Program) (F : FuncId → Option IFunc) : Prop := ∀ f fn, F f = some fn → ∃ Fn, P.funcs[f]? = some Fn ∧ (Fn.name == "runtime.NumGoroutine") = false ∧ cFunc P Fn = some fn ∧ fn.body.ok gl fn.ntmps = true
def EOk (gl : Nat → Bool) (P : Program) (E : Ext) : Prop := ∀ f g, E f = some g → (∃ Fn, P.funcs[f]? = some Fn ∧ (Fn.name == "runtime.NumGoroutine") = false ∧ Fn.body.isNone = false) ∧
 ∀ (args : List Value) (H : AH) (out : Out) (H' : AH) (σ : Ren) (w : World) (cargs : Array Value),g args H = some (out,H') → HR gl P σ H w.heap → GlR gl σ → VL σ args cargs.toList → Calls P f cargs w (EndP gl P σ H w out H')
def XOk (gl : Nat → Bool) (P : Program) (X : Ext) : Prop := ∀ f g,X f = some g →
 ∀ (args : List Value) (H : AH) (out : Out) (H' : AH) (σ : Ren) (w : World) (cargs : Array Value),g args H = some (out,H') → HR gl P σ H w.heap → GlR gl σ → VL σ args cargs.toList →
  ∃ c w',(callFunc f cargs).run P w = .ok (.value c) w' ∧ EndP gl P σ H w out H' (.returned c) w'
theorem run_enter {f : FuncId} {Fn : Func} (hf : P.funcs[f]? = some Fn) (hn : (Fn.name == "runtime.NumGoroutine") = false) (hb : Fn.body.isNone = false) (args : Array Value) : (callFunc f args).run P w = .ok (.enter f args) w := by
 have hb' : Fn.body.isNone ≠ true := by rw [hb]; simp
 have hn' : (Fn.name == "runtime.NumGoroutine") ≠ true := by rw [hn]; simp
 unfold callFunc
 have : (program).run P w = .ok P w := rfl
 rw [Sem.run_bind,this]
 simp only [Result.andThen_ok,hf]
 rw [if_neg hn',if_neg hb']
 rfl
theorem run_ofValue (f : Fn) (cb cc cargs : Array Value) : (do let d ← Deferred.ofValue (.func f cb cc) cargs; invoke d.target d.args : Sem Next).run P w = (invoke (.fn f cc) (cb ++ cargs)).run P w := by
 simp [Deferred.ofValue]
theorem setAll_ok {ps : List Nat} {args : List Value} {e e1 : Env} {tmps : Array Value} {cargs : List Value} (he : EnvR σ e tmps) (hb : (ps.all fun t => Nat.blt t tmps.size) = true) (h : setAll e ps args = some e1) (ha : VL σ args cargs) :
  cargs.length = ps.length ∧ EnvR σ e1 ((ps.zip cargs).foldl (fun tmps (x : Nat × Value) => tmps.setIfInBounds x.1 x.2) tmps) ∧ ((ps.zip cargs).foldl (fun tmps (x : Nat × Value) => tmps.setIfInBounds x.1 x.2) tmps).size = tmps.size := by
 induction ps generalizing args e tmps cargs with
 | nil =>
  cases args with
  | nil => cases ha; simp [setAll] at h; subst h; exact ⟨rfl,he,rfl⟩
  | cons _ _ => simp [setAll] at h
 | cons t ps ih =>
  cases args with
  | nil => simp [setAll] at h
  | cons u args =>
   cases ha with
   | cons h1 h2 =>
    simp only [setAll] at h
    simp only [List.all_cons,Bool.and_eq_true,Nat.blt_eq] at hb
    obtain ⟨g1,g2,g3⟩ := ih (he.set hb.1 h1) (by simpa using hb.2) h h2
    exact ⟨by simp [g1],by simpa using g2,by simpa using g3⟩
theorem func_ok (hinv : InvOk gl P inv) (hdr : DrawsOk gl P inv) {n : Nat} {f : FuncId} {fn : IFunc} {Fn : Func} (hf : P.funcs[f]? = some Fn) (hc : cFunc P Fn = some fn) (hok : fn.body.ok gl fn.ntmps = true)
  {args : List Value} {cargs : Array Value} {out : Out} (hr : HR gl P σ H w.heap) (hgl : GlR gl σ) (ha : VL σ args cargs.toList)
  (h : (match run inv n fn.body (T.ofFrom 0 args) H with
     | some (.norm,e,H') | some (.ret,e,H') => match resOut e H' fn.results with
      | some v => some (.ret v,H')
      | none => none
     | some (.pan v,_,H') => some (.pan v,H')
     | _ => none) = some (out,H')) : Calls P f cargs w (EndP gl P σ H w out H') := by
 obtain ⟨c,hb,hcs⟩ : ∃ c,Fn.body = some c ∧ ∃ rs,cRess P Fn.results.toList = some rs ∧ fn = ⟨Fn.ntmps,rs,cCode P c⟩ := by
  unfold cFunc at hc
  cases hb : Fn.body with
  | none => rw [hb] at hc; cases hc
  | some c =>
   cases hrs : cRess P Fn.results.toList with
   | none => rw [hb,hrs] at hc; cases hc
   | some rs => rw [hb,hrs] at hc; simp only [Option.some.injEq] at hc; exact ⟨c,rfl,rs,rfl,hc.symm⟩
 obtain ⟨rs,hrs,rfl⟩ := hcs
 simp only at h hok
 refine (callsIn_wide (n := 0)).1 (callsIn_of_wp_marks hf hb trivial ?_)
 let tm := cargs ++ Array.replicate (Fn.ntmps - cargs.size) Go.undef
 have hsz : Fn.ntmps ≤ tm.size := by simp [tm]; omega
 have hst : St gl P σ H w (T.ofFrom 0 args) { tmps := tm,defers := [] } tm.size w.heap.size := by
  refine ⟨⟨hr,hgl,fun t u hu => ?_⟩,rfl,.nil,Nat.le_refl _⟩
  rw [T.get_ofFrom] at hu
  simp only [Nat.zero_le,if_true,Nat.sub_zero] at hu
  obtain ⟨c',hc',hv⟩ := ha.get hu
  have hlt : t < cargs.size := by
   rcases Nat.lt_or_ge t cargs.size with x | x
   ·exact x
   ·rw [List.getElem?_eq_none (by simpa using x)] at hc'; cases hc'
  have : tm.getD t Go.undef = c' := by
   rw [Array.getD_eq_getD_getElem?,Array.getElem?_append_left hlt,← Array.getElem?_toList,hc']; rfl
  rw [this]; exact hv
 cases hrun : run inv n (cCode P c) (T.ofFrom 0 args) H with
 | none => rw [hrun] at h; cases h
 | some r =>
  obtain ⟨x,e1,H1⟩ := r
  rw [hrun] at h
  refine wpIn_mono (run_ok hinv hdr n c (ro := none) (ICode.ok_mono hsz hok) hst (fun l hl => by cases hl) hrun) (fun ex a1 w1 hp => ?_)
  obtain ⟨σ1,hx,st1,hf1⟩ := hp
  obtain ⟨ms,hms,hnd,hall⟩ := st1.defs
  have leave : ∀ {u : FrameMode} {R : Ending → World → Prop},u ≠ .run → (∀ w',HR gl P σ1 H1 w'.heap → FrW σ H w σ1 H1 w' → LeavesIn (Fw none) 0 P Fn a1.tmps R [] u w') → LeavesInM (Fw none) 0 P Fn a1.tmps R a1.defers u w1 := by
   intro u R hu hl
   rw [hms]
   refine leaves_ok hu ms w1 hnd hall (fun w' g1 g2 g3 => hl w' ?_ ?_)
   ·refine st1.cx.hr.agree g3.1 (fun b => ?_)
    by_cases hb : b ∈ ms
    ·exact .inr ⟨_,(hall b hb).2⟩
    ·exact .inl (g1 b (fun r hr he => hb (he ▸ hr)))
   ·refine ⟨hf1.fr.agree g3.1 (fun b hb => g1 b (fun r hr he => ?_)),g3.2.1.trans hf1.os,g3.2.2.trans hf1.out⟩
    subst he; have := (hall b hr).1; omega
  have normal : ∀ {e' : Env},e' = e1 → (match resOut e1 H1 rs with | some v => some (Out.ret v,H1) | none => none) = some (out,H') → LeavesInM (Fw none) 0 P Fn a1.tmps (EndP gl P σ H w out H') a1.defers .returning w1 := by
   intro _ _ h2
   cases hres : resOut e1 H1 rs with
   | none => rw [hres] at h2; cases h2
   | some v =>
    rw [hres] at h2
    simp only [Option.some.injEq,Prod.mk.injEq] at h2
    obtain ⟨rfl,rfl⟩ := h2
    refine leave (fun hh => by cases hh) (fun w' hr' hf' => ?_)
    obtain ⟨cv,hcv,hv⟩ := results_ok (fn := Fn) (w := w') (a := a1) ⟨hr',st1.cx.hgl,st1.cx.he⟩ hrs hres
    exact ⟨cv,hcv,v,σ1,rfl,hv,hr',hf'⟩
  cases x with
  | norm => cases ex <;> simp only [ExR] at hx; exact normal rfl h
  | ret => cases ex <;> simp only [ExR] at hx; exact normal rfl h
  | exit i => cases h
  | pan v =>
   simp only [Option.some.injEq,Prod.mk.injEq] at h
   obtain ⟨rfl,rfl⟩ := h
   cases ex <;> simp only [ExR] at hx
   obtain ⟨cv,rfl,hv⟩ := hx
   exact leave (fun hh => by cases hh) (fun w' hr' hf' => ⟨v,cv,σ1,rfl,rfl,hv,hr',hf'⟩)
theorem jumpOf_roundPost {l : Nat} {x : Ex} {ex : Exit} {a1 : Act} {w1 : World} {R : Ending → World → Prop} {σ1 : Ren} (hx : ExR σ1 x ex) (hn : ∀ v,x ≠ .pan v) (hn' : x ≠ .norm) (h : ∀ c,jumpOf x = some c → ∃ v w',(Instr.endRound l (some c)).run P w1 = .ok v w' ∧ R (.returned v) w') : roundPost P l R ex a1 w1 := by
 cases x with
 | norm => exact absurd rfl hn'
 | pan v => exact absurd rfl (hn v)
 | ret => cases ex <;> simp only [ExR] at hx; exact h _ rfl
 | exit i => cases ex <;> simp only [ExR] at hx; subst hx; exact h _ rfl
theorem loopSet {l : Nat} {p : Place} (hr : HR gl P σ H w.heap) (hp : σ l = some p) {le : Env} {lps : List Nat} {las lbd : ICode} {st : Nat} {pend : Option Ex} (hg : H.get l = some (.loop le lps las lbd st pend)) {r : Loop} (hb : w.heap[p.b]? = some (.loop r)) (hl : LoopOk gl P σ le lps las lbd st pend r)
  (s' : LoopState) (pend' : Option Ex) (j : Option Code) (hj : PendOk pend' j) : HR gl P σ (H.put l (.loop le lps las lbd (stOf s') pend')) (w.putObj p.b (.loop { r with state := s',pending := j })).heap ∧ FrW σ H w σ (H.put l (.loop le lps las lbd (stOf s') pend')) (w.putObj p.b (.loop { r with state := s',pending := j })) := by
 refine And.imp_right FrW.of (hr.setObj hp hg (fun _ _ _ _ _ _ _ h => by cases h) (fun h => by cases h) (fun _ _ _ _ _ _ _ h => by cases h) hb (fun _ _ => ⟨_,rfl⟩) ?_)
 unfold ObjOk
 rw [AH.gpt,if_pos rfl]
 exact ⟨{ r with state := s',pending := j },by simp [lt_of_some hb],hl.env,hl.params,hl.assign,hl.body,hl.boundA,hl.boundB,hl.boundP,rfl,hj⟩
theorem HR.loop {l : Nat} {p : Place} (hr : HR gl P σ H w.heap) (hp : σ l = some p) {le : Env} {lps : List Nat} {las lbd : ICode} {st : Nat} {pend : Option Ex} (hg : H.get l = some (.loop le lps las lbd st pend)) : ∃ r,w.heap[p.b]? = some (.loop r) ∧ LoopOk gl P σ le lps las lbd st pend r := by
 have := hr.obj l p hp
 unfold ObjOk at this
 rw [hg] at this
 exact this
theorem den_ok {F : FuncId → Option IFunc} {E X : Ext} (hF : FOk gl P F) (hE : EOk gl P E) (hX : XOk gl P X) (hdr : ∀ n,InvOk gl P (den F E X n) → DrawsOk gl P (den F E X n)) : ∀ n,InvOk gl P (den F E X n) := by
 intro n
 induction n with
 | zero => exact ⟨fun f b c args H out H' σ w cf cb cc cargs h => by simp [den] at h,fun l b c args H out H' σ w cf cb cc cargs h => by simp [den] at h,fun fv args H _ _ => rfl⟩
 | succ n ih =>
  refine ⟨fun f b c args H out H' σ w cf cb cc cargs h hr hgl hv ha => ?_,fun l b c args H out H' σ w cf cb cc cargs h hr hgl hv ha => ?_,fun fv args H h1 h2 => ?_⟩
  ·obtain ⟨cf',cb',cc',he,hfr,hb,hc⟩ := VR.func_iff.1 hv
   injection he with e1 e2 e3
   subst e1; subst e2; subst e3
   cases hfr
   have hall : VL σ (b.toList ++ args ++ c.toList) (cb ++ cargs ++ cc).toList := by
    simp only [Array.toList_append]
    exact (hb.append ha).append hc
   rw [show CallOk gl P σ H w (args.any isYield) (do let d ← Deferred.ofValue (.func (.func f) cb cc) cargs; invoke d.target d.args) out H' ↔ CallOk gl P σ H w (args.any isYield) (callFunc f (cb ++ cargs ++ cc)) out H' from by
    unfold CallOk; rw [run_ofValue]; simp only [invoke]]
   simp only [den] at h
   cases hEf : E f with
   | some g =>
    rw [hEf] at h
    obtain ⟨⟨Fn,h1,h2,h3⟩,h4⟩ := hE f g hEf
    exact .inl ⟨_,_,run_enter h1 h2 h3 _,h4 _ _ _ _ _ _ _ h hr hgl hall⟩
   | none =>
    rw [hEf] at h
    simp only at h
    cases hXf : X f with
    | some g =>
     rw [hXf] at h
     simp only at h
     cases hy : args.any isYield with
     | true => rw [hy] at h; cases h
     | false =>
      rw [hy] at h
      simp only [cond_false] at h
      obtain ⟨cv,w',h1,h2⟩ := hX f g hXf _ _ _ _ σ w _ h hr hgl hall
      exact .inr ⟨rfl,cv,w',h1,h2⟩
    | none =>
     rw [hXf] at h
     simp only at h
     cases hFf : F f with
     | none => rw [hFf] at h; cases h
     | some fn =>
      rw [hFf] at h
      simp only at h
      obtain ⟨Fn,h1,h2,h3,h4⟩ := hF f fn hFf
      have hbn : Fn.body.isNone = false := by
       unfold cFunc at h3; cases hbb : Fn.body with
       | none => rw [hbb] at h3; cases h3
       | some _ => rfl
      exact .inl ⟨_,_,run_enter h1 h2 hbn _,func_ok ih (hdr _ ih) h1 h3 h4 hr hgl hall h⟩
  ·obtain ⟨cf',cb',cc',he,hfr,hb,hc⟩ := VR.func_iff.1 hv
   injection he with e1 e2 e3
   subst e1; subst e2; subst e3
   cases hfr
   rename_i p hp
   simp only [den] at h
   cases hg : H.get l with
   | none => rw [hg] at h; cases h
   | some ob =>
    rw [hg] at h
    cases ob <;> simp only at h <;> try cases h
    rename_i le lps las lbd lst lpend
    cases hst : (Nat.beq lst 0 && b.size == 0) with
    | false => rw [hst] at h; cases h
    | true =>
     rw [hst] at h
     simp only [cond_true] at h
     simp only [Bool.and_eq_true,Nat.beq_eq,beq_iff_eq] at hst
     obtain ⟨rfl,hb0⟩ := hst
     have hcb : cb = #[] := by
      have := hb.length; simp at this; apply Array.eq_empty_of_size_eq_zero; omega
     subst hcb
     obtain ⟨r,hrb,hl⟩ := hr.loop hp hg
     cases hse : setAll le lps args with
     | none => rw [hse] at h; cases h
     | some e1 =>
      rw [hse] at h
      simp only at h
      obtain ⟨g1,g2,g3⟩ := setAll_ok hl.env hl.boundP hse ha
      have hps := hl.params
      have hsize : cargs.size = r.params.size := by
       have : cargs.toList.length = r.params.toList.length := by rw [g1,hps]
       simpa using this
      have htm : ((lps.zip cargs.toList).foldl (fun tmps (x : Nat × Value) => tmps.setIfInBounds x.1 x.2) r.tmps) = ((r.params.zip cargs).foldl (fun tmps (t,a) => tmps.setIfInBounds t a) r.tmps) := by
       rw [← hps,← Array.foldl_toList,Array.toList_zip]
      rw [htm] at g2 g3
      refine ⟨p.b,r.fn,(r.params.zip cargs).foldl (fun tmps (t,a) => tmps.setIfInBounds t a) r.tmps,r.assign,r.body, ?_,fun ro => ?_⟩
      ·rw [run_ofValue]
       simp only [invoke,Array.empty_append]
       exact run_yield hrb hsize
      refine roundIn_of_wpIn trivial ?_
      cases hra : run (den F E X n) n las e1 H with
      | none => rw [hra] at h; cases h
      | some ra =>
      obtain ⟨x2,e2,H2⟩ := ra
      rw [hra] at h
      cases x2 <;> simp only at h <;> try cases h
      have has : r.assign = r.assign := rfl
      rw [← hl.assign] at hra
      have st0 : St gl P σ H w e1 { tmps := (r.params.zip cargs).foldl (fun tmps (t,a) => tmps.setIfInBounds t a) r.tmps,defers := [] } r.tmps.size w.heap.size := ⟨⟨hr,hgl,g2⟩,g3,.nil,Nat.le_refl _⟩
      refine wpIn_mono (run_ok ih (hdr _ ih) n r.assign (ro := some p.b) (hl.assign ▸ hl.boundA) st0 (fun l' hl' => by cases hl'; exact ⟨r,hrb⟩) hra) (fun ex a1 w1 hp1 => ?_)
      obtain ⟨σ1,hx,st1,hf1⟩ := hp1
      cases ex <;> simp only [ExR] at hx
      simp only [Exit.then]
      have hp1 := hf1.le _ _ hp
      cases hg2 : H2.get l with
      | none => rw [hg2] at h; cases h
      | some ob2 =>
      rw [hg2] at h
      cases ob2 <;> skip <;> try cases h
      rename_i le2 lps2 las2 lbd2 lst2 lpend2
      obtain ⟨r2,hrb2,hl2⟩ := st1.cx.hr.loop hp1 hg2
      cases lst2 with
      | succ _ => cases h
      | zero =>
      simp only at h
      have hs2 : r2.state = .ready := by
       have := hl2.st; cases hh : r2.state <;> rw [hh] at this <;> simp [stOf] at this
      obtain ⟨hA,hB⟩ := loopSet st1.cx.hr hp1 hg2 hrb2 hl2 .busy lpend2 r2.pending hl2.pend
      refine ⟨_,run_beginRound hrb2 hs2, ?_⟩
      cases hrn : run (den F E X n) n lbd e2 (H2.put l (.loop le2 lps2 las2 lbd2 1 lpend2)) with
      | none => rw [hrn] at h; cases h
      | some rb =>
      obtain ⟨x3,e3,H3⟩ := rb
      rw [hrn] at h
      rw [← hl.body] at hrn
      have st2 := st1.step hA hB
      refine wpIn_mono (run_ok ih (hdr _ ih) n r.body (ro := some p.b) (hl.body ▸ hl.boundB) st2 (fun l' hl' => by cases hl'; exact ⟨_,World.putObj_heap_same (lt_of_some hrb2)⟩) hrn) (fun ex a3 w3 hp3 => ?_)
      obtain ⟨σ3,hx3,st3,hf3⟩ := hp3
      have hp3 := hf3.le _ _ hp1
      have hff := (hf1.trans hB).trans hf3
      have done : ∀ {le3 : Env} {lps3 : List Nat} {las3 lbd3 : ICode} {lst3 : Nat} {lpend3 : Option Ex} (s' : LoopState) (pend' : Option Ex) (j : Option Code) (v : Value),H3.get l = some (.loop le3 lps3 las3 lbd3 lst3 lpend3) → PendOk pend' j → out = .ret v → v = .bool j.isNone → s' = (if j.isNone then .ready else .done) → H' = H3.put l (.loop le3 lps3 las3 lbd3 (stOf s') pend') →
        ∃ c w',(Instr.endRound p.b j).run P w3 = .ok c w' ∧ EndP gl P σ H w out H' (.returned c) w' := by
       intro le3 lps3 las3 lbd3 lst3 lpend3 s' pend' j v hg3 hj ho hv hs hH
       obtain ⟨r3,hrb3,hl3⟩ := st3.cx.hr.loop hp3 hg3
       obtain ⟨hC,hD⟩ := loopSet st3.cx.hr hp3 hg3 hrb3 hl3 s' pend' j hj
       refine ⟨_,_,run_endRound j hrb3,v,σ3,ho, ?_, ?_, ?_⟩
       ·rw [hv]; exact .bool _
       ·rw [hH,← hs]; exact hC
       ·rw [hH,← hs]; exact hff.trans hD
      cases hg3 : H3.get l with
      | none => exfalso; cases x3 <;> simp [hg3] at h
      | some ob3 =>
      by_cases hlo : ∃ a b c d e f,ob3 = .loop a b c d e f
      case neg =>
       exfalso
       cases ob3 <;> first | exact hlo ⟨_,_,_,_,_,_,rfl⟩ | (cases x3 <;> simp [hg3] at h)
      obtain ⟨le3,lps3,las3,lbd3,lst3,lpend3,rfl⟩ := hlo
      cases x3 with
      | pan v => cases h
      | norm =>
       simp only [hg3,Option.some.injEq,Prod.mk.injEq] at h
       obtain ⟨rfl,rfl⟩ := h
       cases ex <;> simp only [ExR] at hx3
       exact done .ready none none (.bool true) hg3 rfl rfl rfl rfl rfl
      | ret =>
       simp only [hg3,Option.some.injEq,Prod.mk.injEq] at h
       obtain ⟨rfl,rfl⟩ := h
       refine jumpOf_roundPost hx3 (fun _ h => by cases h) (fun h => by cases h) (fun c hc => ?_)
       exact done .done (some .ret) (some c) (.bool false) hg3 ⟨c,hc,rfl⟩ rfl rfl rfl rfl
      | exit i =>
       simp only [hg3,Option.some.injEq,Prod.mk.injEq] at h
       obtain ⟨rfl,rfl⟩ := h
       refine jumpOf_roundPost hx3 (fun _ h => by cases h) (fun h => by cases h) (fun c hc => ?_)
       exact done .done (some (.exit i)) (some c) (.bool false) hg3 ⟨c,hc,rfl⟩ rfl rfl rfl rfl
  ·cases fv <;> try rfl
   rename_i f b c
   cases f <;> first | rfl | exact absurd rfl (h1 _ _ _) | exact absurd rfl (h2 _ _ _)
end Go.Den
/- Den, part T: what the executor leaves as it was, with no machine in sight. -/
namespace Go.Den
def FamOk (H : AH) : Prop := ∀ k cs t ro ex root thr tip,H.get k = some (.cells cs t ro ex root thr tip) → root ≤ k ∧ (ex = true → root = k) ∧
  ∃ rcs rt rro rex rthr rtip,H.get root = some (.cells rcs rt rro rex root rthr rtip) ∧ k ≤ rtip ∧ (rex = true → root = k) ∧ rtip ≤ H.next
structure WF (H : AH) : Prop where
 lt : ∀ k o,H.get k = some o → k < H.next
 fam : FamOk H
 low : H.low ≤ H.next
inductive Same : Option AObj → Option AObj → Prop
 | refl (o : Option AObj) : Same o o
 | tip (cs : List Value) (t : TypeId) (ro ex : Bool) (root thr tip tip' : Nat) : Same (some (.cells cs t ro ex root thr tip)) (some (.cells cs t ro ex root thr tip'))
theorem Same.trans {a b c : Option AObj} (h : Same a b) (h' : Same b c) : Same a c := by
 cases h with
 | refl => exact h'
 | tip => cases h' <;> exact .tip ..
structure KW (H H' : AH) : Prop where
 wf : WF H'
 next : H.next ≤ H'.next
 low : H'.low ≤ H.low
 same : ∀ k,k < H'.low → Same (H.get k) (H'.get k)
 ro : ∀ k,H'.roOf k → H.roOf k
def KWs (H H' : AH) : Prop := WF H → KW H H'
theorem KWs.refl (H : AH) : KWs H H := fun h => ⟨h,Nat.le_refl _,Nat.le_refl _,fun _ _ => .refl _,fun _ h => h⟩
theorem KWs.trans {H H1 H2 : AH} (h : KWs H H1) (h' : KWs H1 H2) : KWs H H2 := fun w => by
 have a := h w
 have b := h' a.wf
 exact ⟨b.wf,Nat.le_trans a.next b.next,Nat.le_trans b.low a.low,fun k hk => (a.same k (Nat.lt_of_lt_of_le hk b.low)).trans (b.same k hk),fun k hk => a.ro k (b.ro k hk)⟩
theorem WF.none_next {H : AH} (h : WF H) : H.get H.next = none := by
 cases hg : H.get H.next with
 | none => rfl
 | some o => exact absurd (h.lt _ _ hg) (Nat.lt_irrefl _)
theorem KWs.push {H : AH} {o : AObj} (ho : ∀ cs t ro ex root thr tip,o = .cells cs t ro ex root thr tip → root = H.next ∧ tip = H.next ∧ ro = false) : KWs H (H.push o) := fun w => by
 refine ⟨⟨fun k x hk => ?_,fun k cs t ro ex root thr tip hk => ?_,Nat.le_succ_of_le w.low⟩,Nat.le_succ _,Nat.le_refl _,fun k hk => ?_,fun k hk => ?_⟩
 ·rw [AH.gpu] at hk
  by_cases e : k = H.next
  ·subst e; simp
  ·rw [if_neg e] at hk; have := w.lt _ _ hk; simp; omega
 ·rw [AH.gpu] at hk
  by_cases e : k = H.next
  ·subst e; rw [if_pos rfl] at hk; injection hk with hk; subst hk
   obtain ⟨rfl,rfl,rfl⟩ := ho _ _ _ _ _ _ _ rfl
   exact ⟨Nat.le_refl _,fun _ => rfl,cs,t,false,ex,thr,_,by rw [AH.gpu,if_pos rfl],Nat.le_refl _,fun _ => rfl,Nat.le_succ _⟩
  ·rw [if_neg e] at hk
   obtain ⟨a,b,rcs,rt,rro,rex,rthr,rtip,c,d,f,g⟩ := w.fam _ _ _ _ _ _ _ _ hk
   refine ⟨a,b,rcs,rt,rro,rex,rthr,rtip, ?_,d,f,Nat.le_succ_of_le g⟩
   rw [AH.gpu,if_neg,c]
   rintro rfl; rw [w.none_next] at c; cases c
 ·have : k ≠ H.next := by have := w.low; have : (H.push o).low = H.low := rfl; omega
  rw [AH.gpu,if_neg this]; exact .refl _
 ·unfold AH.roOf at *
  rw [AH.gpu] at hk
  by_cases e : k = H.next
  ·rw [if_pos e] at hk
   cases o <;> simp only at hk
   obtain ⟨_,_,h3⟩ := ho _ _ _ _ _ _ _ rfl
   rw [h3] at hk; cases hk
  ·rwa [if_neg e] at hk
theorem KWs.put {H : AH} {i : Nat} {o o' : AObj} (hg : H.get i = some o) (hn : ∀ cs t ro ex root thr tip,o ≠ .cells cs t ro ex root thr tip) (hn' : ∀ cs t ro ex root thr tip,o' ≠ .cells cs t ro ex root thr tip) : KWs H (H.put i o') := fun w => by
 have hlow : (H.put i o').low ≤ H.low ∧ (H.put i o').low ≤ i := by
  show (bif Nat.ble H.low i then H.low else i) ≤ _ ∧ (bif Nat.ble H.low i then H.low else i) ≤ _
  cases hb : Nat.ble H.low i with
  | true => rw [cond_true]; exact ⟨Nat.le_refl _,Nat.le_of_ble_eq_true hb⟩
  | false =>
        rw [cond_false]; have : ¬ H.low ≤ i := fun h => by rw [Nat.ble_eq_true_of_le h] at hb; cases hb
        omega
 refine ⟨⟨fun k x hk => ?_,fun k cs t ro ex root thr tip hk => ?_,Nat.le_trans hlow.1 w.low⟩,Nat.le_refl _,hlow.1,fun k hk => ?_,fun k hk => ?_⟩
 ·rw [AH.gpt] at hk
  by_cases e : k = i
  ·subst e; exact w.lt _ _ hg
  ·rw [if_neg e] at hk; exact w.lt _ _ hk
 ·rw [AH.gpt] at hk
  by_cases e : k = i
  ·rw [if_pos e] at hk; injection hk with hk; exact absurd hk (hn' _ _ _ _ _ _ _)
  ·rw [if_neg e] at hk
   obtain ⟨a,b,rcs,rt,rro,rex,rthr,rtip,c,d,f,g⟩ := w.fam _ _ _ _ _ _ _ _ hk
   refine ⟨a,b,rcs,rt,rro,rex,rthr,rtip, ?_,d,f,g⟩
   rw [AH.gpt,if_neg,c]
   rintro rfl; rw [hg] at c; injection c with c; exact absurd c (hn _ _ _ _ _ _ _)
 ·have : k ≠ i := by omega
  rw [AH.gpt,if_neg this]; exact .refl _
 ·unfold AH.roOf at *
  rw [AH.gpt] at hk
  by_cases e : k = i
  ·rw [if_pos e] at hk
   cases o' <;> simp only at hk
   exact absurd rfl (hn' _ _ _ _ _ _ _)
  ·rwa [if_neg e] at hk
theorem KWs.root {H H' : AH} {r : Nat} {rcs rcs' : List Value} {rt : TypeId} {rro rex : Bool} {rthr rtip thr' tip' : Nat} (hg : H.get r = some (.cells rcs rt rro rex r rthr rtip))
  (ht : rtip ≤ tip') (ht' : tip' ≤ H'.next) (hn : H'.next = H.next) (hl : H'.low ≤ H.low) (hl' : H'.low ≤ r ∨ (rcs = rcs' ∧ thr' = rthr))
  (hget : H'.get r = some (.cells rcs' rt rro rex r thr' tip')) (hoth : ∀ k,k ≠ r → H'.get k = H.get k ∨ (∃ cs cs' t ro ex thr tip,H.get k = some (.cells cs t ro ex r thr tip) ∧ H'.get k = some (.cells cs' t ro ex r thr tip) ∧ H'.low ≤ k)) : KWs H H' := fun w => by
 have hr := w.fam _ _ _ _ _ _ _ _ hg
 refine ⟨⟨fun k x hk => ?_,fun k cs t ro ex root thr tip hk => ?_,by rw [hn]; exact Nat.le_trans hl w.low⟩,by rw [hn]; exact Nat.le_refl _,hl,fun k hk => ?_,fun k hk => ?_⟩
 ·rw [hn]
  by_cases e : k = r
  ·subst e; exact w.lt _ _ hg
  ·rcases hoth k e with h | ⟨_,_,_,_,_,_,_,h,_⟩
   ·rw [h] at hk; exact w.lt _ _ hk
   ·exact w.lt _ _ h
 ·by_cases e : k = r
  ·subst e; rw [hget] at hk; injection hk with hk; injection hk with e1 e2 e3 e4 e5 e6 e7
   subst e1; subst e2; subst e3; subst e4; subst e5; subst e6; subst e7
   obtain ⟨a,b,_,_,_,_,_,_,c,d,f,g⟩ := hr
   rw [hg] at c; injection c with c; injection c with c1 c2 c3 c4 c5 c6 c7
   exact ⟨a,fun _ => rfl,rcs',rt,rro,rex,thr',tip',hget,by omega,fun _ => rfl,ht'⟩
  ·obtain ⟨cs0,hk0⟩ : ∃ cs0,H.get k = some (.cells cs0 t ro ex root thr tip) := by
    rcases hoth k e with h | ⟨cs0,_,_,_,_,_,_,h,h',_⟩
    ·rw [h] at hk; exact ⟨cs,hk⟩
    ·rw [h'] at hk; injection hk with hk; injection hk with e1 e2 e3 e4 e5 e6 e7
     subst e2; subst e3; subst e4; subst e5; subst e6; subst e7; exact ⟨_,h⟩
   obtain ⟨a,b,ucs,ut,uro,uex,uthr,utip,c,d,f,g⟩ := w.fam _ _ _ _ _ _ _ _ hk0
   refine ⟨a,b, ?_⟩
   by_cases e2 : root = r
   ·subst e2
    rw [hg] at c; injection c with c; injection c with c1 c2 c3 c4 c5 c6 c7
    exact ⟨rcs',rt,rro,rex,thr',tip',hget,by omega,by rw [c4]; exact f,ht'⟩
   ·rcases hoth root e2 with h | ⟨_,_,_,_,_,_,_,h,_⟩
    ·exact ⟨ucs,ut,uro,uex,uthr,utip,h.trans c,d,f,by rw [hn]; exact g⟩
    ·rw [h] at c; injection c with c; injection c with c1 c2 c3 c4 c5 c6 c7; exact absurd c5.symm e2
 ·by_cases e : k = r
  ·subst e
   rcases hl' with h | ⟨rfl,rfl⟩
   ·omega
   ·rw [hg,hget]; exact .tip ..
  ·rcases hoth k e with h | ⟨_,_,_,_,_,_,_,h,h',h2⟩
   ·rw [h]; exact .refl _
   ·omega
 ·unfold AH.roOf at *
  by_cases e : k = r
  ·subst e; rw [hget] at hk; rw [hg]; exact hk
  ·rcases hoth k e with h | ⟨_,_,_,_,_,_,_,h,h',_⟩
   ·rwa [h] at hk
   ·rw [h'] at hk; rw [h]; exact hk
theorem low_put (H : AH) (i : Nat) (o : AObj) : (H.put i o).low ≤ H.low ∧ (H.put i o).low ≤ i := by
 show (bif Nat.ble H.low i then H.low else i) ≤ _ ∧ (bif Nat.ble H.low i then H.low else i) ≤ _
 cases hb : Nat.ble H.low i with
 | true => rw [cond_true]; exact ⟨Nat.le_refl _,Nat.le_of_ble_eq_true hb⟩
 | false =>
  rw [cond_false]
  have : ¬ H.low ≤ i := fun h => by rw [Nat.ble_eq_true_of_le h] at hb; cases hb
  omega
theorem KWs.write {H H' : AH} {k : Nat} {cs' : List Value} (h : H.write k cs' = some H') : KWs H H' := fun w => by
 unfold AH.write at h
 cases hg : H.get k with
 | none => rw [hg] at h; cases h
 | some o =>
  rw [hg] at h
  cases o <;> simp only at h <;> try cases h
  rename_i cs t ro ex root thr tip
  cases ro <;> simp only at h <;> try cases h
  have hf := w.fam _ _ _ _ _ _ _ _ hg
  have hk := w.lt _ _ hg
  cases hb : Nat.beq root k with
  | true =>
   rw [hb] at h; simp only [cond_true] at h
   have := Nat.eq_of_beq_eq_true hb; subst this
   cases hc : (Nat.ble thr root && Nat.beq tip root) with
   | false => rw [hc] at h; cases h
   | true =>
    rw [hc] at h; simp only [cond_true,Option.some.injEq] at h; subst h
    simp only [Bool.and_eq_true] at hc
    have := Nat.eq_of_beq_eq_true hc.2; subst this
    have hl := low_put H tip (.cells cs' t false ex tip tip tip)
    exact KWs.root hg (Nat.le_refl _) (Nat.le_of_lt hk) rfl hl.1 (.inl hl.2) (by rw [AH.gpt,if_pos rfl]) (fun j hj => .inl (by rw [AH.gpt,if_neg hj])) w
  | false =>
   rw [hb] at h; simp only [cond_false] at h
   have hne : root ≠ k := fun e => by subst e; rw [Nat.beq_refl] at hb; cases hb
   cases hgr : H.get root with
   | none => rw [hgr] at h; cases h
   | some ob =>
    rw [hgr] at h
    cases ob <;> simp only at h <;> try cases h
    rename_i rcs rt rro rex rroot rthr rtip
    cases hc : (Nat.ble rthr k && Nat.beq rtip k) with
    | false => rw [hc] at h; cases h
    | true =>
     rw [hc] at h; simp only [cond_true,Option.some.injEq] at h; subst h
     simp only [Bool.and_eq_true] at hc
     have := Nat.eq_of_beq_eq_true hc.2; subst this
     obtain ⟨a,b,_,_,_,_,_,_,c,d,f,g⟩ := hf
     rw [hgr] at c; injection c with c; injection c with c1 c2 c3 c4 c5 c6 c7
     subst c5
     have hl := low_put H rroot (.cells rcs rt rro rex rroot rtip rtip)
     refine KWs.root (r := rroot) hgr (Nat.le_refl _) (Nat.le_of_lt hk) rfl hl.1 (.inl hl.2) (by rw [AH.gtp,if_neg hne,AH.gpt,if_pos rfl]) (fun j hj => ?_) w
     by_cases e : j = rtip
     ·subst e
      refine .inr ⟨cs,cs',t,false,ex,thr,tip,hg,by rw [AH.gtp,if_pos rfl], ?_⟩
      have h3 : ((H.put rroot (.cells rcs rt rro rex rroot j j)).put' j (.cells cs' t false ex rroot thr tip)).low = (H.put rroot (.cells rcs rt rro rex rroot j j)).low := rfl
      omega
     ·exact .inl (by rw [AH.gtp,if_neg e,AH.gpt,if_neg hj])
theorem KWs.member {H : AH} {r : Nat} {rcs : List Value} {rt : TypeId} {rro : Bool} {rthr : Nat} {cs : List Value} {t : TypeId} (hg : H.get r = some (.cells rcs rt rro false r rthr H.next)) : KWs H (H.push (.cells cs t false false r 0 0)) := fun w => by
 have hr := w.lt _ _ hg
 refine ⟨⟨fun k x hk => ?_,fun k cs' t' ro ex root thr tip hk => ?_,Nat.le_succ_of_le w.low⟩,Nat.le_succ _,Nat.le_refl _,fun k hk => ?_,fun k hk => ?_⟩
 ·rw [AH.gpu] at hk
  by_cases e : k = H.next
  ·subst e; simp
  ·rw [if_neg e] at hk; have := w.lt _ _ hk; simp; omega
 ·rw [AH.gpu] at hk
  by_cases e : k = H.next
  ·subst e; rw [if_pos rfl] at hk; injection hk with hk; injection hk with e1 e2 e3 e4 e5 e6 e7
   subst e3; subst e4; subst e5
   exact ⟨by omega,fun h => (by cases h),rcs,rt,rro,false,rthr,H.next,by rw [AH.gpu,if_neg (by omega),hg],Nat.le_refl _,fun h => (by cases h),Nat.le_succ _⟩
  ·rw [if_neg e] at hk
   obtain ⟨a,b,rcs,rt,rro,rex,rthr,rtip,c,d,f,g⟩ := w.fam _ _ _ _ _ _ _ _ hk
   refine ⟨a,b,rcs,rt,rro,rex,rthr,rtip, ?_,d,f,Nat.le_succ_of_le g⟩
   rw [AH.gpu,if_neg,c]
   rintro rfl; rw [w.none_next] at c; cases c
 ·have : k ≠ H.next := by have := w.low; have : (H.push (.cells cs t false false r 0 0)).low = H.low := rfl; omega
  rw [AH.gpu,if_neg this]; exact .refl _
 ·unfold AH.roOf at *
  rw [AH.gpu] at hk
  by_cases e : k = H.next
  ·rw [if_pos e] at hk; cases hk
  ·rwa [if_neg e] at hk
theorem KWs.grow {H H' : AH} {i : Nat} {ae : Bool} {t : TypeId} {cs : List Value} (h : H.grow i ae t cs = some H') : KWs H H' := fun w => by
 unfold AH.grow at h
 cases hg : H.get i with
 | none => rw [hg] at h; cases h
 | some o =>
  rw [hg] at h
  cases o <;> simp only at h <;> try cases h
  rename_i ics t' ro ex root thr tip
  have hf := w.fam _ _ _ _ _ _ _ _ hg
  have hi := w.lt _ _ hg
  cases ex with
  | true =>
   simp only at h
   cases hc : (H.alive i root && Nat.beq t t') with
   | false => rw [hc] at h; cases h
   | true => rw [hc] at h; simp only [cond_true,Option.some.injEq] at h; subst h; exact KWs.push (fun _ _ _ _ _ _ _ e => by cases e; exact ⟨rfl,rfl,rfl⟩) w
  | false =>
   simp only at h
   cases hc : (Nat.beq t t' && !ro) with
   | false => rw [hc] at h; cases h
   | true =>
    rw [hc] at h; simp only [cond_true] at h
    cases hb : Nat.beq root i with
    | true =>
     rw [hb] at h; simp only [cond_true] at h
     have := Nat.eq_of_beq_eq_true hb; subst this
     obtain ⟨a,b,_,_,_,_,_,_,c,d,f,g⟩ := hf
     rw [hg] at c; injection c with c; injection c with c1 c2 c3 c4 c5 c6 c7
     cases hd : Nat.ble thr root with
     | false => rw [hd] at h; cases h
     | true =>
      rw [hd] at h; simp only [cond_true] at h
      cases he : (Nat.beq tip root && ae) with
      | true =>
       rw [he] at h; simp only [cond_true,Option.some.injEq] at h; subst h
       have k1 : KWs H (H.put' root (.cells ics t' ro false root thr H.next)) := KWs.root (tip' := H.next) hg (by omega) (Nat.le_refl _) rfl (Nat.le_refl _) (.inr ⟨rfl,rfl⟩) (by rw [AH.gtp,if_pos rfl]) (fun j hj => .inl (by rw [AH.gtp,if_neg hj]))
       exact (k1.trans (KWs.member (r := root) (by rw [AH.gtp,if_pos rfl]; rfl))) w
      | false =>
       rw [he] at h; simp only [cond_false,Option.some.injEq] at h; subst h
       have hl := low_put H root (.cells ics t' ro false root H.next H.next)
       have k1 : KWs H (H.put root (.cells ics t' ro false root H.next H.next)) := KWs.root (tip' := H.next) hg (by omega) (Nat.le_refl _) rfl hl.1 (.inl hl.2) (by rw [AH.gpt,if_pos rfl]) (fun j hj => .inl (by rw [AH.gpt,if_neg hj]))
       exact (k1.trans (KWs.member (r := root) (by rw [AH.gpt,if_pos rfl]; rfl))) w
    | false =>
     rw [hb] at h; simp only [cond_false] at h
     have hne : root ≠ i := fun e => by subst e; rw [Nat.beq_refl] at hb; cases hb
     obtain ⟨a,b,rcs,rt,rro,rex,rthr,rtip,c,d,f,g⟩ := hf
     rw [c] at h
     simp only at h
     have hrex : rex = false := by cases rex <;> first | rfl | exact absurd (f rfl) hne
     subst hrex
     cases hd : Nat.ble rthr i with
     | false => rw [hd] at h; cases h
     | true =>
      rw [hd] at h; simp only [cond_true] at h
      cases he : (Nat.beq rtip i && ae) with
      | true =>
       rw [he] at h; simp only [cond_true,Option.some.injEq] at h; subst h
       have k1 : KWs H (H.put' root (.cells rcs rt rro false root rthr H.next)) := KWs.root (tip' := H.next) c (by omega) (Nat.le_refl _) rfl (Nat.le_refl _) (.inr ⟨rfl,rfl⟩) (by rw [AH.gtp,if_pos rfl]) (fun j hj => .inl (by rw [AH.gtp,if_neg hj]))
       exact (k1.trans (KWs.member (r := root) (by rw [AH.gtp,if_pos rfl]; rfl))) w
      | false =>
       rw [he] at h; simp only [cond_false,Option.some.injEq] at h; subst h
       have hl := low_put H root (.cells rcs rt rro false root H.next H.next)
       have k1 : KWs H (H.put root (.cells rcs rt rro false root H.next H.next)) := KWs.root (tip' := H.next) c (by omega) (Nat.le_refl _) rfl hl.1 (.inl hl.2) (by rw [AH.gpt,if_pos rfl]) (fun j hj => .inl (by rw [AH.gpt,if_neg hj]))
       exact (k1.trans (KWs.member (r := root) (by rw [AH.gpt,if_pos rfl]; rfl))) w
def InvK (inv : Inv) : Prop := ∀ fv args H out H',inv fv args H = some (out,H') → KWs H H'
theorem KWs.newRow {H : AH} {t : TypeId} {cs : List Value} : KWs H (H.newRow t cs) := KWs.push (fun _ _ _ _ _ _ _ e => by cases e; exact ⟨rfl,rfl,rfl⟩)
theorem ok1_K {v : Value} {H H1 : AH} {out : Out} {H' : AH} (h : ok1 v H1 = some (out,H')) (hk : KWs H H1) : KWs H H' := by unfold ok1 at h; cases h; exact hk
theorem okO_K {v : Option Value} {H H1 : AH} {out : Out} {H' : AH} (h : okO v H1 = some (out,H')) (hk : KWs H H1) : KWs H H' := by
 unfold okO at h; cases v <;> simp at h; obtain ⟨_,rfl⟩ := h; exact hk
theorem appendV_K {H H' : AH} {t : TypeId} {n b : Nat} {s x : Value} {out : Out} (h : appendV H t n b s x = some (out,H')) : KWs H H' := by
 unfold appendV at h
 cases h1 : srC H n x with
 | none => rw [h1] at h; cases h
 | some nm =>
  obtain ⟨new,m⟩ := nm
  rw [h1] at h
  cases s <;> simp only at h <;> try cases h
  rename_i base len cap
  cases h2 : Nat.ble (len + m) cap with
  | true =>
   rw [h2] at h; simp only [cond_true] at h
   cases base with
   | none =>
    simp only at h
    cases h3 : m == 0 <;> rw [h3] at h
    ·cases h
    ·exact ok1_K h (.refl _)
   | some a =>
    simp only at h
    cases h3 : m == 0 <;> rw [h3] at h
    ·simp only [cond_false] at h
     cases h4 : H.row a.block with
     | none => rw [h4] at h; cases h
     | some cs =>
      rw [h4] at h; simp only at h
      cases h5 : (a.spot.isNone && Nat.ble (a.off + len * n + new.length) cs.length && new.all one) <;> rw [h5] at h
      ·cases h
      ·simp only [cond_true] at h
       cases h6 : H.write a.block (splice cs (a.off + len * n) new) with
       | none => rw [h6] at h; cases h
       | some H1 => rw [h6] at h; exact ok1_K h (KWs.write h6)
    ·exact ok1_K h (.refl _)
  | false =>
   rw [h2] at h; simp only [cond_false] at h
   cases h3 : Nat.ble ((2 * (len + m) + 1000) * (b + 1)) 281474976710656 <;> rw [h3] at h
   ·cases h
   ·simp only [cond_true] at h
    cases base with
    | none =>
     simp only at h
     cases h4 : (len == 0 && Nat.ble 1 n) <;> rw [h4] at h
     ·cases h
     ·cases h; exact KWs.push (fun _ _ _ _ _ _ _ e => by cases e; exact ⟨rfl,rfl,rfl⟩)
    | some a =>
     simp only at h
     cases h4 : H.row a.block with
     | none => rw [h4] at h; cases h
     | some cs =>
      rw [h4] at h; simp only at h
      cases h5 : (a.spot.isNone && Nat.ble (a.off + len * n) cs.length && Nat.ble 1 n && new.all one) <;> rw [h5] at h
      ·cases h
      ·simp only [cond_true] at h
       cases h6 : H.grow a.block (Nat.beq (a.off + len * n) cs.length && Nat.beq len cap) t ((cs.drop a.off).take (len * n) ++ new) with
       | none => rw [h6] at h; cases h
       | some H1 => rw [h6] at h; exact ok1_K h (KWs.grow h6)
end Go.Den
/- Den, part U: what the executor leaves as it was: operations, code, functions. -/
namespace Go.Den
variable {inv : Inv} {e : Env} {H H' : AH} {out : Out}
theorem storeV_K {n : Nat} {p v : Value} (h : storeV H n p v = some H') : KWs H H' := by
 unfold storeV at h
 split at h <;> try cases h
 split at h <;> try cases h
 rw [cond_eq_ite] at h
 split at h <;> try cases h
 exact KWs.write h
theorem ev_K (hi : InvK inv) {io : IOp} (h : ev inv e H io = some (out,H')) : KWs H H' := by
 cases io with
 | makeSlice t b z l c =>
  simp only [ev] at h
  split at h
  ·split at h
   ·cases h; exact KWs.newRow
   ·cases h
  ·cases h
 | append t n b s x =>
  simp only [ev] at h
  split at h
  ·exact appendV_K h
  ·cases h
 | call f as =>
  simp only [ev] at h
  split at h
  ·exact hi _ _ _ _ _ h
  ·cases h
 | store n x y =>
  simp only [ev] at h
  split at h
  ·cases hs : storeV H n _ _ with
   | none => rw [hs] at h; cases h
   | some H1 => rw [hs] at h; exact ok1_K h (storeV_K hs)
  ·cases h
 | copy n d s =>
  simp only [ev,cond_eq_ite] at h
  repeat' (split at h)
  all_goals first
   | (cases h; done)
   | exact ok1_K h (.refl _)
   | exact ok1_K h (KWs.write (by assumption))
 | clear z x =>
  simp only [ev,cond_eq_ite] at h
  repeat' (split at h)
  all_goals first
   | (cases h; done)
   | exact ok1_K h (.refl _)
   | exact ok1_K h (KWs.write (by assumption))
 | clearMap x =>
  simp only [ev] at h
  repeat' (split at h)
  all_goals first
   | (cases h; done)
   | exact ok1_K h (KWs.put (by assumption) (fun _ _ _ _ _ _ _ h => by cases h) (fun _ _ _ _ _ _ _ h => by cases h))
 | delete kk m k =>
  simp only [ev,cond_eq_ite] at h
  repeat' (split at h)
  all_goals first
   | (cases h; done)
   | exact ok1_K h (.refl _)
   | exact ok1_K h (KWs.put (by assumption) (fun _ _ _ _ _ _ _ h => by cases h) (fun _ _ _ _ _ _ _ h => by cases h))
 | mapUpdate kk m k v =>
  simp only [ev,cond_eq_ite] at h
  repeat' (split at h)
  all_goals first
   | (cases h; done)
   | exact ok1_K h (KWs.put (by assumption) (fun _ _ _ _ _ _ _ h => by cases h) (fun _ _ _ _ _ _ _ h => by cases h))
 | nextStr x =>
  simp only [ev,cond_eq_ite] at h
  repeat' (split at h)
  all_goals first
   | (cases h; done)
   | exact ok1_K h (.refl _)
   | exact ok1_K h (KWs.put (by assumption) (fun _ _ _ _ _ _ _ h => by cases h) (fun _ _ _ _ _ _ _ h => by cases h))
 | _ =>
  simp only [ev,cond_eq_ite] at h
  repeat' (split at h)
  all_goals first
   | (cases h; done)
   | exact ok1_K h (.refl _)
   | exact okO_K h (.refl _)
   | (cases h; exact KWs.newRow)
   | (cases h; exact .refl _)
   | (cases h; exact KWs.push (fun _ _ _ _ _ _ _ h => by first | (cases h; done) | (cases h; exact ⟨rfl,rfl,rfl⟩)))
theorem evs_K (hi : InvK inv) : ∀ (l : List Ins) {e : Env} {H : AH} {x : Ex} {e' : Env} {H' : AH},evs inv l e H = some (x,e',H') → KWs H H' := by
 intro l
 induction l with
 | nil => intro e H x e' H' h; simp only [evs,Option.some.injEq,Prod.mk.injEq] at h; obtain ⟨_,_,rfl⟩ := h; exact .refl _
 | cons i l ih =>
  intro e H x e' H' h
  simp only [evs] at h
  split at h
  ·cases h
  ·exact ih h
  ·cases hev : ev inv e H i.op with
   | none => rw [hev] at h; cases h
   | some oh =>
    obtain ⟨o,H1⟩ := oh
    rw [hev] at h
    cases o with
    | ret v => exact (ev_K hi hev).trans (ih h)
    | pan v => simp only [Option.some.injEq,Prod.mk.injEq] at h; obtain ⟨_,_,rfl⟩ := h; exact ev_K hi hev
theorem quiet_K (hi : InvK inv) {io : IOp} {H' : AH} (h : ev inv e ⟨H.objs,H.next,H.next⟩ io = some (out,H')) (hl : H.next ≤ H'.low) (w : WF H) :
  WF ⟨H'.objs,H'.next,H.low⟩ ∧ H.next ≤ H'.next ∧ (∀ k,k < H.next → Same (H.get k) (H'.get k)) ∧ ∀ k,H'.roOf k → H.roOf k := by
 have k := ev_K hi h ⟨w.lt,w.fam,Nat.le_refl _⟩
 have := k.next
 exact ⟨⟨k.wf.lt,k.wf.fam,Nat.le_trans w.low this⟩,this,fun j hj => k.same j (by omega),k.ro⟩
theorem evq_K (hi : InvK inv) : ∀ (l : List Ins) {e : Env} {H : AH} {e' : Env} {H' : AH},evq inv l e H = some (e',H') → KWs H H' ∧ (WF H → ∀ k,k < H.next → Same (H.get k) (H'.get k)) ∧ H'.low = H.low := by
 intro l
 induction l with
 | nil => intro e H e' H' h; simp only [evq,Option.some.injEq,Prod.mk.injEq] at h; obtain ⟨_,rfl⟩ := h; exact ⟨.refl _,fun _ _ _ => .refl _,rfl⟩
 | cons i l ih =>
  intro e H e' H' h
  simp only [evq] at h
  split at h
  ·cases h
  ·exact ih h
  ·cases hev : ev inv e ⟨H.objs,H.next,H.next⟩ i.op with
   | none => rw [hev] at h; cases h
   | some oh =>
    obtain ⟨o,H1⟩ := oh
    rw [hev] at h
    cases o with
    | pan v => cases h
    | ret v =>
     simp only [cond_eq_ite] at h
     split at h
     ·rename_i hle
      have hle := Nat.le_of_ble_eq_true hle
      obtain ⟨g1,g2,g3⟩ := ih h
      refine ⟨fun w => ?_,fun w k hk => ?_,g3⟩
      ·obtain ⟨q1,q2,q3,q4⟩ := quiet_K hi hev hle w
       have r := g1 q1
       exact ⟨r.wf,Nat.le_trans q2 r.next,r.low,fun k hk => (q3 k (by have := r.low; have := w.low; simp only at *; omega)).trans (r.same k hk),fun k hk => by have := r.ro k hk; exact q4 k this⟩
      ·obtain ⟨q1,q2,q3,q4⟩ := quiet_K hi hev hle w
       exact (q3 k hk).trans (g2 q1 k (Nat.lt_of_lt_of_le hk q2))
     ·cases h
theorem iter_K {body : Env → AH → Option (Ex × Env × AH)} (hb : ∀ {e H x e' H'},body e H = some (x,e',H') → KWs H H') : ∀ (n : Nat) {e : Env} {H : AH} {x : Ex} {e' : Env} {H' : AH},iter body n e H = some (x,e',H') → KWs H H' := by
 intro n
 induction n with
 | zero => intro e H x e' H' h; cases h
 | succ n ih =>
  intro e H x e' H' h
  simp only [iter] at h
  cases hbd : body e H with
  | none => rw [hbd] at h; cases h
  | some r =>
   obtain ⟨x1,e1,H1⟩ := r
   rw [hbd] at h
   have k := hb hbd
   cases x1 with
   | norm => exact k.trans (ih h)
   | _ => cases h; exact k
theorem run_K (hi : InvK inv) (n : Nat) : ∀ (c : ICode) {e : Env} {H : AH} {x : Ex} {e' : Env} {H' : AH},run inv n c e H = some (x,e',H') → KWs H H' := by
 intro c
 induction c with
 | skip => intro e H x e' H' h; cases h; exact .refl _
 | exit => intro e H x e' H' h; cases h; exact .refl _
 | ret => intro e H x e' H' h; cases h; exact .refl _
 | bad => intro e H x e' H' h; cases h
 | ops l => intro e H x e' H' h; exact evs_K hi l h
 | draw q t =>
  intro e H x e' H' h
  simp only [run] at h
  split at h
  ·rename_i hq
   split at h
   ·rename_i ht; cases h; exact (evq_K hi q hq).1.trans (evs_K hi t ht)
   ·cases h
  ·cases h
 | seq a b iha ihb =>
  intro e H x e' H' h
  simp only [run] at h
  cases hr : run inv n a e H with
  | none => rw [hr] at h; cases h
  | some r =>
   obtain ⟨x1,e1,H1⟩ := r
   rw [hr] at h
   have k := iha hr
   cases x1 with
   | norm => exact k.trans (ihb h)
   | _ => cases h; exact k
 | cond c a b iha ihb =>
  intro e H x e' H' h
  simp only [run,cond_eq_ite] at h
  split at h
  ·split at h
   ·exact iha h
   ·exact ihb h
  ·cases h
 | block id c ih =>
  intro e H x e' H' h
  simp only [run,cond_eq_ite] at h
  cases hr : run inv n c e H with
  | none => rw [hr] at h; cases h
  | some r =>
   obtain ⟨x1,e1,H1⟩ := r
   rw [hr] at h
   have k := ih hr
   cases x1 with
   | exit j => simp only at h; split at h <;> cases h <;> exact k
   | _ => cases h; exact k
 | loop c ih => intro e H x e' H' h; exact iter_K (fun h => ih h) n h
 | rangeFunc f ps a b iha ihb =>
  intro e H x e' H' h
  simp only [run,cond_eq_ite] at h
  split at h
  ·split at h
   ·rename_i hc
    have k1 : KWs H (H.push (.loop e ps a b 0 none)) := KWs.push (fun _ _ _ _ _ _ _ h => by cases h)
    have k := k1.trans (hi _ _ _ _ _ hc)
    split at h
    ·split at h
     ·cases h
     ·rename_i hg _
      simp only [Option.some.injEq,Prod.mk.injEq] at h
      obtain ⟨_,_,rfl⟩ := h
      exact k.trans (KWs.put hg (fun _ _ _ _ _ _ _ h => by cases h) (fun _ _ _ _ _ _ _ h => by cases h))
    ·cases h
   ·cases h
  ·cases h
def ExtK (E : Ext) : Prop := ∀ f g,E f = some g → ∀ args H out H',g args H = some (out,H') → KWs H H'
theorem den_K {F : FuncId → Option IFunc} {E X : Ext} (hE : ExtK E) (hX : ExtK X) : ∀ n,InvK (den F E X n) := by
 intro n
 induction n with
 | zero => intro fv args H out H' h; cases h
 | succ n ih =>
  intro fv args H out H' h
  have P := fun {l : Nat} {a b c d e f} (H : AH) (hg : H.get l = some (.loop a b c d e f)) (a' b' c' d' e' f') => KWs.put (o' := .loop a' b' c' d' e' f') hg (fun _ _ _ _ _ _ _ h => by cases h) (fun _ _ _ _ _ _ _ h => by cases h)
  cases fv <;> try (cases h; done)
  rename_i fn b c
  cases fn <;> try (cases h; done)
  ·simp only [den,cond_eq_ite] at h
   split at h
   ·exact hE _ _ (by assumption) _ _ _ _ h
   ·split at h
    ·split at h
     ·cases h
     ·exact hX _ _ (by assumption) _ _ _ _ h
    ·split at h
     ·cases h
     ·split at h
      ·rename_i hr; split at h <;> cases h; exact run_K ih n _ hr
      ·rename_i hr; split at h <;> cases h; exact run_K ih n _ hr
      ·rename_i hr; cases h; exact run_K ih n _ hr
      ·cases h
  ·simp only [den,cond_eq_ite] at h
   split at h
   ·split at h
    ·split at h
     ·cases h
     ·split at h
      ·rename_i h1
       have k1 := run_K ih n _ h1
       split at h
       ·rename_i hg
        split at h
        ·rename_i h3
         have k3 := k1.trans ((P _ hg _ _ _ _ _ _).trans (run_K ih n _ h3))
         split at h
         ·rename_i hg3; cases h; exact k3.trans (P _ hg3 _ _ _ _ _ _)
         ·cases h
        ·cases h
        ·rename_i h3
         have k3 := k1.trans ((P _ hg _ _ _ _ _ _).trans (run_K ih n _ h3))
         split at h
         ·rename_i hg3; cases h; exact k3.trans (P _ hg3 _ _ _ _ _ _)
         ·cases h
        ·cases h
       ·cases h
      ·cases h
    ·cases h
   ·cases h
end Go.Den
/- Den, part V: what is needed for operations that come in any order. -/
namespace Go.Den
variable {gl : Nat → Bool} {P : Program}
theorem foldl_bit {l : List Edge} {c : Edge → Bool} {h : Edge → Nat} {j : Nat} : ∀ {s : Nat},(l.foldl (fun s e => if c e then s ||| 2 ^ e.on ||| h e else s) s).testBit j = true → s.testBit j = true ∨ ∃ e ∈ l,c e = true ∧ (j = e.on ∨ (h e).testBit j = true) := by
 induction l with
 | nil => intro s hs; exact .inl hs
 | cons e l ih =>
  intro s hs
  simp only [List.foldl_cons] at hs
  rcases ih hs with h1 | ⟨e',h1,h2,h3⟩
  ·by_cases hc : c e = true
   ·rw [if_pos hc] at h1
    simp only [Nat.testBit_or,Bool.or_eq_true,Nat.testBit_two_pow,decide_eq_true_eq] at h1
    rcases h1 with (h1 | h1) | h1
    ·exact .inl h1
    ·exact .inr ⟨e,by simp,hc,.inl h1.symm⟩
    ·exact .inr ⟨e,by simp,hc,.inr h1⟩
   ·rw [if_neg hc] at h1; exact .inl h1
  ·exact .inr ⟨e',by simp [h1],h2,h3⟩
def befStep (acc : Array Nat) (o : Oper) : Nat := o.after.foldl (fun s e => if Region.binds .any e then s ||| 2 ^ e.on ||| acc.getD e.on 0 else s) 0
def befGo (l : List Oper) (acc : Array Nat) : Array Nat := l.foldl (fun acc o => acc.push (befStep acc o)) acc
theorem before_eq (ops : Array Oper) : Region.before ops = befGo ops.toList #[] := by
 unfold Region.before befGo befStep; rw [← Array.foldl_toList]
theorem befGo_old : ∀ (l : List Oper) (acc : Array Nat) (i : Nat),i < acc.size → (befGo l acc).getD i 0 = acc.getD i 0 := by
 intro l
 induction l with
 | nil => intro acc i _; rfl
 | cons o l ih =>
  intro acc i hi
  show (befGo l (acc.push _)).getD i 0 = _
  rw [ih _ i (by simp; omega)]
  simp [Array.getD_eq_getD_getElem?,Array.getElem?_push,show i ≠ acc.size by omega]
theorem befGo_new : ∀ (l : List Oper) (acc : Array Nat) (i : Nat) (o : Oper),l[i]? = some o → ∀ j,((befGo l acc).getD (acc.size + i) 0).testBit j = true →
  ∃ e ∈ o.after.toList,Region.binds .any e = true ∧ (j = e.on ∨ ((befGo l acc).getD e.on 0).testBit j = true) := by
 intro l
 induction l with
 | nil => intro acc i o h; simp at h
 | cons p l ih =>
  intro acc i o h j hj
  cases i with
  | zero =>
   simp at h; subst h
   have h1 : (befGo (p :: l) acc).getD (acc.size + 0) 0 = befStep acc p := by
    show (befGo l (acc.push (befStep acc p))).getD _ 0 = _
    rw [befGo_old _ _ _ (by simp)]
    simp [Array.getD_eq_getD_getElem?]
   rw [h1] at hj
   unfold befStep at hj
   rw [← Array.foldl_toList] at hj
   rcases foldl_bit (c := fun e => Region.binds .any e) (h := fun e => acc.getD e.on 0) hj with h2 | ⟨e,h2,h3,h4⟩
   ·simp at h2
   ·refine ⟨e,h2,h3,h4.imp id fun h5 => ?_⟩
    by_cases hlt : e.on < acc.size
    ·rw [befGo_old _ _ _ hlt]; exact h5
    ·rw [Array.getD_eq_getD_getElem?,Array.getElem?_eq_none (by omega)] at h5; simp at h5
  | succ i =>
   simp at h
   have := ih (acc.push (befStep acc p)) i o h j (by
    have e : (acc.push (befStep acc p)).size + i = acc.size + (i + 1) := by simp; omega
    rw [e]; exact hj)
   exact this
theorem before_spec {ops : Array Oper} {i : Nat} {o : Oper} (ho : ops[i]? = some o) {j : Nat} (hj : ((Region.before ops).getD i 0).testBit j = true) :
  ∃ e ∈ o.after.toList,Region.binds .any e = true ∧ (j = e.on ∨ ((Region.before ops).getD e.on 0).testBit j = true) := by
 rw [before_eq] at *
 exact befGo_new ops.toList #[] i o (by rwa [Array.getElem?_toList]) j (by simpa using hj)
def Down (ops : Array Oper) (ls : Array Bool) : Prop := ∀ i j,ls.getD i false = true → ((Region.before ops).getD i 0).testBit j = true → ls.getD j false = true
theorem ready_iff {ops : Array Oper} {ls : Array Bool} {i : Nat} : i ∈ Region.ready .any ops ls ↔ i < ops.size ∧ ls.getD i true = false ∧ ∀ o,ops[i]? = some o → ∀ e ∈ o.after.toList,Region.binds .any e = true → ls.getD e.on false = true := by
 unfold Region.ready
 simp only [List.mem_filter,List.mem_range,Bool.and_eq_true,Bool.not_eq_true',Option.getD_eq_iff]
 constructor
 ·rintro ⟨h1,h2,h3⟩
  refine ⟨h1,h2,fun o ho e he hb => ?_⟩
  rw [ho] at h3
  simp [Array.all_eq_true] at h3
  obtain ⟨k,hk,hke⟩ := List.getElem_of_mem he
  have := h3 k (by simpa using hk)
  rw [show o.after[k]'(by simpa using hk) = e from by simpa using hke] at this
  rcases this with h | h
  ·rw [hb] at h; cases h
  ·rw [Array.getD_eq_getD_getElem?]; exact h
 ·rintro ⟨h1,h2,h3⟩
  refine ⟨h1,h2, ?_⟩
  have ho : ops[i]? = some ops[i] := by simp [h1]
  rw [ho]
  simp [Array.all_eq_true]
  intro k hk
  cases hb : Region.binds .any (ops[i].after[k]) with
  | false => exact .inl rfl
  | true => exact .inr (by rw [← Array.getD_eq_getD_getElem?]; exact h3 _ ho _ (by simp) hb)
theorem Down.ready {ops : Array Oper} {ls : Array Bool} (h : Down ops ls) {i j : Nat} (hi : i ∈ Region.ready .any ops ls) (hj : ((Region.before ops).getD i 0).testBit j = true) : ls.getD j false = true := by
 obtain ⟨h1,h2,h3⟩ := ready_iff.1 hi
 have ho : ops[i]? = some ops[i] := by simp [h1]
 obtain ⟨e,he,hb,hor⟩ := before_spec ho hj
 have := h3 _ ho e he hb
 rcases hor with rfl | h4
 ·exact this
 ·exact h _ _ this h4
theorem set_getD {ls : Array Bool} {i j : Nat} (hi : i < ls.size) : (ls.setIfInBounds i true).getD j false = true ↔ (j = i ∨ ls.getD j false = true) := by
 by_cases e : j = i
 ·subst e; simp [Array.getD_eq_getD_getElem?,hi]
 ·simp [Array.getD_eq_getD_getElem?,Array.getElem?_setIfInBounds_ne (Ne.symm e),e]
theorem Down.set {ops : Array Oper} {ls : Array Bool} (h : Down ops ls) {i : Nat} (hs : i < ls.size) (hi : i ∈ Region.ready .any ops ls) : Down ops (ls.setIfInBounds i true) := by
 intro k j hk hj
 rw [set_getD hs] at *
 rcases hk with rfl | hk
 ·exact .inr (h.ready hi hj)
 ·exact .inr (h k j hk hj)
theorem tail_le (b : Array Nat) : ∀ n,tailOf b n ≤ n := by
 intro n
 induction n with
 | zero => exact Nat.le_refl _
 | succ n ih => unfold tailOf; split <;> omega
variable {inv : Inv} {e e' : Env} {H H' : AH}
theorem eas_congr : ∀ {l : List Arg},(∀ x ∈ l,ea e x = ea e' x) → eas e l = eas e' l := by
 intro l
 induction l with
 | nil => intro _; rfl
 | cons x l ih => intro h; simp only [eas]; rw [h x (by simp),ih fun y hy => h y (by simp [hy])]
theorem eap_congr : ∀ {l : List (Nat × Nat × Arg)},(∀ x ∈ l.map (·.2.2),ea e x = ea e' x) → eap e l = eap e' l := by
 intro l
 induction l with
 | nil => intro _; rfl
 | cons x l ih => intro h; obtain ⟨a,b,c⟩ := x; simp only [eap]; rw [h c (by simp),ih fun y hy => h y (by simp only [List.map_cons,List.mem_cons]; exact .inr hy)]
theorem eao_congr {x : Option Arg} (h : ∀ y ∈ x.toList,ea e y = ea e' y) : eao e x = eao e' x := by
 cases x with
 | none => rfl
 | some y => simp only [eao]; rw [h y (by simp)]
theorem ev_congr {io : IOp} (h : ∀ x ∈ io.args,ea e x = ea e' x) : ev inv e H io = ev inv e' H io := by
 cases io with
 | build z ps => simp only [ev]; rw [eap_congr h]
 | buildSlice t l z ps => simp only [ev]; rw [eap_congr h]
 | func f a b =>
  simp only [ev]
  rw [eas_congr (fun x hx => h x (by simp [IOp.args,hx])),eas_congr (l := b) (fun x hx => h x (by simp [IOp.args,hx]))]
 | call f as =>
  simp only [ev]
  rw [h f (by simp [IOp.args]),eas_congr (fun x hx => h x (by simp [IOp.args,hx]))]
 | slice t n x a b c =>
  simp only [ev]
  rw [h x (by simp [IOp.args]),eao_congr (x := a) (fun y hy => h y (by simp only [IOp.args,List.mem_cons,List.mem_append]; exact .inr (.inl (.inl hy)))),eao_congr (x := b) (fun y hy => h y (by simp only [IOp.args,List.mem_cons,List.mem_append]; exact .inr (.inl (.inr hy)))),eao_congr (x := c) (fun y hy => h y (by simp only [IOp.args,List.mem_cons,List.mem_append]; exact .inr (.inr hy)))]
 | sliceArr t n x a b c =>
  simp only [ev]
  rw [h x (by simp [IOp.args]),eao_congr (x := a) (fun y hy => h y (by simp only [IOp.args,List.mem_cons,List.mem_append]; exact .inr (.inl (.inl hy)))),eao_congr (x := b) (fun y hy => h y (by simp only [IOp.args,List.mem_cons,List.mem_append]; exact .inr (.inl (.inr hy)))),eao_congr (x := c) (fun y hy => h y (by simp only [IOp.args,List.mem_cons,List.mem_append]; exact .inr (.inr hy)))]
 | sliceStr x a b =>
  simp only [ev]
  rw [h x (by simp [IOp.args]),eao_congr (x := a) (fun y hy => h y (by simp only [IOp.args,List.mem_cons,List.mem_append]; exact .inr (.inl hy))),eao_congr (x := b) (fun y hy => h y (by simp only [IOp.args,List.mem_cons,List.mem_append]; exact .inr (.inr hy)))]
 | _ => simp [IOp.args] at h; simp [ev,h]
def pickE (e : Env) : List Nat → Env
 | [] => .leaf
 | t :: ts => match e.get t with
  | some v => (pickE e ts).set t v
  | none => pickE e ts
theorem pickE_get (e : Env) (t : Nat) : ∀ l : List Nat,(pickE e l).get t = if t ∈ l then e.get t else none := by
 intro l
 induction l with
 | nil => simp [pickE,T.get]
 | cons x l ih =>
  simp only [pickE]
  cases hx : e.get x with
  | none =>
   simp only [ih,List.mem_cons]
   by_cases h1 : t = x
   ·subst h1; simp [hx]
   ·simp [h1]
  | some v =>
   simp only [T.get_set,ih,List.mem_cons]
   by_cases h1 : t = x
   ·subst h1; simp [hx]
   ·simp [h1]
def SameTo (A B : AH) : Prop := A.next ≤ B.next ∧ ∀ k,k < A.next → Same (A.get k) (B.get k)
theorem SameTo.trans {A B C : AH} (h : SameTo A B) (h' : SameTo B C) : SameTo A C := ⟨Nat.le_trans h.1 h'.1,fun k hk => (h.2 k hk).trans (h'.2 k (Nat.lt_of_lt_of_le hk h.1))⟩
theorem SameTo.refl (A : AH) : SameTo A A := ⟨Nat.le_refl _,fun _ _ => .refl _⟩
section same
variable {A B : AH} (w : FamOk A) (s : SameTo A B)
include s
theorem SameTo.alive {k r : Nat} (hr : r < A.next) : B.alive k r = A.alive k r := by
 have := s.2 r hr
 rw [Bool.eq_iff_iff,AH.alive_iff,AH.alive_iff]
 generalize A.get r = x at this
 generalize B.get r = y at this
 cases this with
 | refl => rfl
 | tip cs t ro ex root thr tip tip' =>
  constructor
  ·rintro ⟨_,_,_,_,_,_,_,h,h2⟩; cases h; exact ⟨_,_,_,_,_,_,_,rfl,h2⟩
  ·rintro ⟨_,_,_,_,_,_,_,h,h2⟩; cases h; exact ⟨_,_,_,_,_,_,_,rfl,h2⟩
include w
theorem SameTo.live {k : Nat} (hk : k < A.next) : B.live k ↔ A.live k := by
 have := s.2 k hk
 unfold AH.live
 generalize hx : A.get k = x at this
 generalize B.get k = y at this
 cases this with
 | refl =>
  cases x with
  | none => rfl
  | some o =>
   cases o with
   | cells cs t ro ex root thr tip => simp only; rw [s.alive (k := k) (r := root) (by have := (w _ _ _ _ _ _ _ _ hx).1; omega)]
   | _ => rfl
 | tip cs t ro ex root thr tip tip' => simp only; rw [s.alive (k := k) (r := root) (by have := (w _ _ _ _ _ _ _ _ hx).1; omega)]
omit w
theorem SameTo.famOf {k : Nat} (hk : k < A.next) : B.famOf k = A.famOf k ∧ B.lenOf k = A.lenOf k ∧ (B.roOf k ↔ A.roOf k) := by
 have := s.2 k hk
 unfold AH.famOf AH.lenOf AH.roOf
 generalize A.get k = x at this
 generalize B.get k = y at this
 cases this <;> exact ⟨rfl,rfl,Iff.rfl⟩
include w
theorem SameTo.objOk {σ : Ren} {hp : Array Obj} {k : Nat} {p : Place} (hk : k < A.next) : ObjOk gl P σ B hp k p ↔ ObjOk gl P σ A hp k p := by
 have := s.2 k hk
 unfold ObjOk
 generalize hx : A.get k = x at this
 generalize B.get k = y at this
 cases this with
 | refl =>
  cases x with
  | none => rfl
  | some o =>
   cases o with
   | cells cs t ro ex root thr tip => simp only; rw [s.alive (k := k) (r := root) (by have := (w _ _ _ _ _ _ _ _ hx).1; omega)]
   | _ => rfl
 | tip cs t ro ex root thr tip tip' => simp only; rw [s.alive (k := k) (r := root) (by have := (w _ _ _ _ _ _ _ _ hx).1; omega)]
omit w
theorem SameTo.cells {k : Nat} (hk : k < A.next) {cs : List Value} {t : TypeId} {ro ex : Bool} {root thr tip : Nat} (h : B.get k = some (.cells cs t ro ex root thr tip)) : ∃ tip',A.get k = some (.cells cs t ro ex root thr tip') := by
 have := s.2 k hk
 rw [h] at this
 generalize A.get k = x at this
 cases this <;> exact ⟨_,rfl⟩
end same
def restr (σ : Ren) (n : Nat) : Ren := fun k => if k < n then σ k else none
theorem restr_some {σ : Ren} {n k : Nat} {p : Place} : restr σ n k = some p ↔ k < n ∧ σ k = some p := by
 unfold restr; by_cases h : k < n <;> simp [h]
theorem VR.back {σa σb : Ren} (hs : σa.Le σb) {v c : Value} (h : VR σa v c) : ∀ {c' : Value},VR σb v c' → VR σa v c' := by
 induction h with
 | bool => intro c' h; cases h; exact .bool _
 | int => intro c' h; cases h; exact .int _ _
 | float => intro c' h; cases h; exact .float _ _
 | string => intro c' h; cases h; exact .string _
 | ptrNil => intro c' h; cases h; exact .ptrNil
 | ptr hk => intro c' h; cases h; rename_i h; rw [hs _ _ hk] at h; cases h; exact .ptr hk
 | sliceNil => intro c' h; cases h; exact .sliceNil
 | slice hk =>
  intro c' h
  cases h with
  | slice h h1 h2 h3 => rw [hs _ _ hk] at h; cases h; exact .slice hk h1 h2 h3
  | sliceE h => cases h
 | sliceE hk =>
  intro c' h
  cases h with
  | slice h h1 h2 h3 => cases hk
  | sliceE h => exact .sliceE h
 | mapNil => intro c' h; cases h; exact .mapNil
 | map hk => intro c' h; cases h; rename_i h; rw [hs _ _ hk] at h; cases h; exact .map hk
 | chanNil => intro c' h; cases h; exact .chanNil
 | func hf h1 h2 h3 h4 ih1 ih2 =>
  intro c' h
  cases h with
  | func gf g1 g2 g3 g4 =>
   refine .func ?_ g1 (fun i h h' => ih1 i h (by omega) (g2 i h h')) g3 (fun i h h' => ih2 i h (by omega) (g4 i h h'))
   cases hf with
   | func f => cases gf; exact .func _
   | yield hk => cases gf with | yield h => rw [hs _ _ hk] at h; cases h; exact .yield hk
 | nilFunc => intro c' h; cases h; exact .nilFunc
 | iface _ ih => intro c' h; cases h; rename_i h; exact .iface (ih h)
 | nilIface => intro c' h; cases h; exact .nilIface
 | agg h1 h2 ih => intro c' h; cases h with | agg g1 g2 => exact .agg g1 (fun i h h' => ih i h (by omega) (g2 i h h'))
 | tuple h1 h2 ih => intro c' h; cases h with | tuple g1 g2 => exact .tuple g1 (fun i h h' => ih i h (by omega) (g2 i h h'))
theorem VL.back {σa σb : Ren} (hs : σa.Le σb) {vs cs cs' : List Value} (h : VL σa vs cs) : VL σb vs cs' → VL σa vs cs' := by
 induction h generalizing cs' with
 | nil => intro h; cases h; exact .nil
 | cons h1 _ ih => intro h; cases h with | cons g1 g2 => exact .cons (h1.back hs g1) (ih g2)
theorem ERs.back {σa σb : Ren} (hs : σa.Le σb) {vs cs cs' : List MapEntry} (h : F2 (ER σa) vs cs) : F2 (ER σb) vs cs' → F2 (ER σa) vs cs' := by
 induction h generalizing cs' with
 | nil => intro h; cases h; exact .nil
 | cons h1 _ ih => intro h; cases h with | cons g1 g2 => exact .cons ⟨h1.key.back hs g1.key,h1.val.back hs g1.val,g1.born⟩ (ih g2)
theorem ObjOk.back {σa σb : Ren} (hs : σa.Le σb) {hp hp' : Array Obj} {k : Nat} {p : Place} (h : ObjOk gl P σa H hp k p) (h' : ObjOk gl P σb H hp' k p) : ObjOk gl P σa H hp' k p := by
 unfold ObjOk at *
 cases hg : H.get k with
 | none => trivial
 | some o =>
  rw [hg] at h h'
  cases o with
  | cells cs t ro ex root thr tip =>
   intro ha
   obtain ⟨⟨c1,t1,l1,u1,a1,b1⟩,_⟩ := h ha
   obtain ⟨⟨c2,t2,l2,u2,a2,b2⟩,g⟩ := h' ha
   exact ⟨⟨c2,t2,l2,u2,a2,b2.room,b2.fits,b1.vals.back hs b2.vals,b2.free⟩,g⟩
  | map es clock =>
   obtain ⟨c1,a1,b1⟩ := h
   obtain ⟨c2,a2,b2⟩ := h'
   exact ⟨c2,a2,ERs.back hs b1 b2⟩
  | iter s pos => exact h'
  | loop e ps as bd st pend =>
   obtain ⟨r1,a1,b1⟩ := h
   obtain ⟨r2,a2,b2⟩ := h'
   exact ⟨r2,a2,fun t v hv => (b1.env t v hv).back hs (b2.env t v hv),b2.params,b2.assign,b2.body,b2.boundA,b2.boundB,b2.boundP,b2.st,b2.pend⟩
  | gone => trivial
theorem HR.earlier {σa σb : Ren} {A B : AH} {hp hp' : Array Obj} (h : HR gl P σa A hp) (hb : HR gl P σb B hp') (hs : σa.Le σb) (w : FamOk A) (s : SameTo A B) (hsz : hp.size ≤ hp'.size) : HR gl P σa A hp' := by
 refine ⟨h.lt,h.fam,fun k p hk => ⟨(h.sig k p hk).1,Nat.lt_of_lt_of_le (h.sig k p hk).2 hsz⟩,fun k p hk => ?_,h.typ,h.dis⟩
 exact (h.obj k p hk).back hs ((s.objOk w (h.sig k p hk).1).1 (hb.obj k p (hs k p hk)))
def mrg (σ1 σ : Ren) (n : Nat) : Ren := fun k => if k < n then σ1 k else σ k
theorem HR.later {σ σ1 : Ren} {A B C : AH} {hp hp' : Array Obj} (h : HR gl P σ C hp) (h1 : HR gl P σ1 B hp') (wB : FamOk B) (s : SameTo B C) (hsz : hp.size ≤ hp'.size)
  (hold : ∀ k,k < A.next → σ1 k = σ k) (hnone : ∀ k,A.next ≤ k → k < B.next → σ k = none)
  (hlf : ∀ k p,B.next ≤ k → σ k = some p → C.live k → hp'[p.b]? = hp[p.b]? ∧ ∀ k1 p1,A.next ≤ k1 → σ1 k1 = some p1 → p1.b = p.b → ¬ B.live k1) : HR gl P (mrg σ1 σ B.next) C hp' := by
 have hle : σ.Le (mrg σ1 σ B.next) := fun k p hk => by
  unfold mrg
  by_cases e : k < B.next
  ·rw [if_pos e]
   by_cases e2 : k < A.next
   ·rw [hold k e2,hk]
   ·rw [hnone k (by omega) e] at hk; cases hk
  ·rw [if_neg e,hk]
 have hle1 : σ1.Le (mrg σ1 σ B.next) := fun k p hk => by unfold mrg; rw [if_pos (h1.sig k p hk).1,hk]
 refine ⟨h.lt,h.fam,fun k p hk => ?_,fun k p hk => ?_,fun k p cs t ro ex root thr tip hk hg => ?_,fun k l pk pl hk hl hlt hlk hll hb => ?_⟩
 ·unfold mrg at hk
  split at hk
  ·have := h1.sig k p hk; exact ⟨Nat.lt_of_lt_of_le this.1 s.1,this.2⟩
  ·have := h.sig k p hk; exact ⟨this.1,Nat.lt_of_lt_of_le this.2 hsz⟩
 ·unfold mrg at hk
  split at hk
  ·rename_i hlt
   exact (s.objOk wB hlt).2 ((h1.obj k p hk).mono hle1 rfl)
  ·rename_i hlt
   by_cases hlv : C.live k
   ·exact (h.obj k p hk).mono hle (hlf k p (by omega) hk hlv).1
   ·unfold ObjOk
    unfold AH.live at hlv
    cases hg : C.get k with
    | none => trivial
    | some o =>
     rw [hg] at hlv
     cases o with
     | cells => exact fun x => absurd x hlv
     | gone => trivial
     | _ => exact absurd trivial hlv
 ·unfold mrg at hk
  split at hk
  ·rename_i hlt
   obtain ⟨tip',hg'⟩ := s.cells hlt hg
   exact h1.typ k p cs t ro ex root thr tip' hk hg'
  ·exact h.typ k p cs t ro ex root thr tip hk hg
 ·unfold mrg at hk hl
  by_cases ek : k < B.next
  ·rw [if_pos ek] at hk
   by_cases el : l < B.next
   ·rw [if_pos el] at hl
    have e1 := s.famOf ek
    have e2 := s.famOf el
    rw [e1.1,e1.2.1,e2.1,e2.2.1]
    exact h1.dis k l pk pl hk hl hlt ((s.live wB ek).1 hlk) ((s.live wB el).1 hll) hb
   ·rw [if_neg el] at hl
    by_cases ea : k < A.next
    ·rw [hold k ea] at hk
     exact h.dis k l pk pl hk hl hlt hlk hll hb
    ·exact absurd ((s.live wB ek).1 hlk) ((hlf l pl (by omega) hl hll).2 k pk (by omega) hk hb)
  ·rw [if_neg ek] at hk
   rw [if_neg (by omega)] at hl
   exact h.dis k l pk pl hk hl hlt hlk hll hb
theorem Fr.later {σ0 σ σ1 : Ren} {H0 A B C : AH} {hp0 hp hp' : Array Obj} (h : Fr σ0 H0 hp0 σ C hp) (h1 : Fr (restr σ A.next) A hp σ1 B hp') (hr1 : HR gl P σ1 B hp') (wA : FamOk A) (wB : FamOk B) (sAC : SameTo A C) (s : SameTo B C) (hHA : H0.next ≤ A.next)
  (hle : σ.Le (mrg σ1 σ B.next)) : Fr σ0 H0 hp0 (mrg σ1 σ B.next) C hp' := by
 have hAB := h1.next
 refine ⟨h.le.trans hle,h.next,fun k hk => ?_,Nat.le_trans h.size h1.size,fun b hb hpr => ?_,fun b l hl => ?_⟩
 ·unfold mrg; rw [if_pos (by omega),h1.old k (by omega)]; unfold restr; rw [if_pos (by omega)]; exact h.old k hk
 ·obtain ⟨e1,p1⟩ := h.prot b hb hpr
  have p2 : Prot (restr σ A.next) A b := fun k p hk hpb => by
   obtain ⟨hlt,hk⟩ := restr_some.1 hk
   rcases p1 k p hk hpb with x | x
   ·exact .inl fun y => x ((sAC.live wA hlt).2 y)
   ·exact .inr ((sAC.famOf hlt).2.2.1 x)
  obtain ⟨e2,p3⟩ := h1.prot b (Nat.lt_of_lt_of_le hb h.size) p2
  refine ⟨e2.trans e1,fun k p hk hpb => ?_⟩
  unfold mrg at hk
  by_cases e : k < B.next
  ·rw [if_pos e] at hk
   rcases p3 k p hk hpb with x | x
   ·exact .inl fun y => x ((s.live wB e).1 y)
   ·exact .inr ((s.famOf e).2.2.2 x)
  ·rw [if_neg e] at hk; exact p1 k p hk hpb
 ·obtain ⟨l1,h2⟩ := h.loops b l hl; exact h1.loops b l1 h2
theorem HR.ahead {σ : Ren} {A B : AH} {hp : Array Obj} (h : HR gl P σ A hp) (hlt : ∀ k o,B.get k = some o → k < B.next) (hfam : FamOk B) (s : SameTo A B) : HR gl P σ B hp := by
 refine ⟨hlt,hfam,fun k p hk => ⟨Nat.lt_of_lt_of_le (h.sig k p hk).1 s.1,(h.sig k p hk).2⟩,fun k p hk => (s.objOk h.fam (h.sig k p hk).1).2 (h.obj k p hk),fun k p cs t ro ex root thr tip hk hg => ?_,fun k l pk pl hk hl hlt hlk hll hb => ?_⟩
 ·obtain ⟨tip',hg'⟩ := s.cells (h.sig k p hk).1 hg
  exact h.typ k p cs t ro ex root thr tip' hk hg'
 ·have ek := (h.sig k pk hk).1
  have el := (h.sig l pl hl).1
  have e1 := s.famOf ek
  have e2 := s.famOf el
  rw [e1.1,e1.2.1,e2.1,e2.2.1]
  exact h.dis k l pk pl hk hl hlt ((s.live h.fam ek).1 hlk) ((s.live h.fam el).1 hll) hb
theorem Fr.ahead {σ : Ren} {A B : AH} {hp : Array Obj} (h : HR gl P σ A hp) (s : SameTo A B) : Fr σ A hp σ B hp := by
 refine ⟨.refl _,s.1,fun _ _ => rfl,Nat.le_refl _,fun b _ hpr => ⟨rfl,fun k p hk hpb => ?_⟩,fun b l hl => ⟨l,hl⟩⟩
 have ek := (h.sig k p hk).1
 rcases hpr k p hk hpb with x | x
 ·exact .inl fun y => x ((s.live h.fam ek).1 y)
 ·exact .inr ((s.famOf ek).2.2.2 x)
end Go.Den
/- Den, part W: operations that come in any order: the states of the text. -/
namespace Go.Den
variable {gl : Nat → Bool} {P : Program} {inv : Inv}
def QStep (inv : Inv) (x : Ins) (e : Env) (H : AH) (e' : Env) (H' : AH) : Prop := ∃ v,e' = setD e x.dst v ∧ ((wtI e x.guard = some false ∧ v = undefV ∧ H' = H) ∨
 (wtI e x.guard = some true ∧ ∃ H1,ev inv e ⟨H.objs,H.next,H.next⟩ x.op = some (.ret v,H1) ∧ H.next ≤ H1.low ∧ H' = ⟨H1.objs,H1.next,H.low⟩))
theorem evq_states : ∀ (l : List Ins) {e : Env} {H : AH} {e' : Env} {H' : AH},evq inv l e H = some (e',H') → ∃ (E : Nat → Env) (G : Nat → AH),E 0 = e ∧ G 0 = H ∧ E l.length = e' ∧ G l.length = H' ∧ ∀ i x,l[i]? = some x → QStep inv x (E i) (G i) (E (i + 1)) (G (i + 1)) := by
 intro l
 induction l with
 | nil => intro e H e' H' h; simp only [evq,Option.some.injEq,Prod.mk.injEq] at h; obtain ⟨rfl,rfl⟩ := h; exact ⟨fun _ => e,fun _ => H,rfl,rfl,rfl,rfl,fun i x h => by simp at h⟩
 | cons x l ih =>
  intro e H e' H' h
  have fin : ∀ {e1 H1},evq inv l e1 H1 = some (e',H') → QStep inv x e H e1 H1 → ∃ (E : Nat → Env) (G : Nat → AH),E 0 = e ∧ G 0 = H ∧ E (x :: l).length = e' ∧ G (x :: l).length = H' ∧ ∀ i y,(x :: l)[i]? = some y → QStep inv y (E i) (G i) (E (i + 1)) (G (i + 1)) := by
   intro e1 H1 h1 hq
   obtain ⟨E,G,a,b,c,d,f⟩ := ih h1
   refine ⟨fun i => match i with | 0 => e | i + 1 => E i,fun i => match i with | 0 => H | i + 1 => G i,rfl,rfl,c,d,fun i y hy => ?_⟩
   cases i with
   | zero => simp at hy; subst hy; simp only [a,b]; exact hq
   | succ i => simp at hy; exact f i y hy
  simp only [evq] at h
  split at h
  ·cases h
  ·rename_i hw; exact fin h ⟨undefV,rfl,.inl ⟨hw,rfl,rfl⟩⟩
  ·rename_i hw
   cases hev : ev inv e ⟨H.objs,H.next,H.next⟩ x.op with
   | none => rw [hev] at h; cases h
   | some oh =>
    obtain ⟨o,H1⟩ := oh
    rw [hev] at h
    cases o with
    | pan v => cases h
    | ret v =>
     simp only [cond_eq_ite] at h
     split at h
     ·rename_i hl; exact fin h ⟨v,rfl,.inr ⟨hw,H1,hev,Nat.le_of_ble_eq_true hl,rfl⟩⟩
     ·cases h
def WFn (H : AH) : Prop := WF ⟨H.objs,H.next,H.next⟩
theorem QStep.wf (hi : InvK inv) {x : Ins} {e e' : Env} {H H' : AH} (h : QStep inv x e H e' H') (w : WFn H) : WFn H' ∧ SameTo H H' ∧ ∀ k,H'.roOf k → H.roOf k := by
 obtain ⟨v,_,⟨_,_,rfl⟩ | ⟨_,H1,hev,hl,rfl⟩⟩ := h
 ·exact ⟨w,.refl _,fun _ h => h⟩
 ·have k := ev_K hi hev w
  exact ⟨⟨k.wf.lt,k.wf.fam,Nat.le_refl _⟩,⟨k.next,fun j hj => k.same j (by have : (H.next) ≤ H1.low := hl; omega)⟩,k.ro⟩
theorem WFn.fam {H : AH} (h : WFn H) : FamOk H := fun k cs t ro ex root thr tip hk => (show WF ⟨H.objs,H.next,H.next⟩ from h).fam k cs t ro ex root thr tip hk
theorem WFn.lt {H : AH} (h : WFn H) : ∀ k o,H.get k = some o → k < H.next := fun k o hk => (show WF ⟨H.objs,H.next,H.next⟩ from h).lt k o hk
section states
variable {l : List Ins} {E : Nat → Env} {G : Nat → AH} (hs : ∀ i x,l[i]? = some x → QStep inv x (E i) (G i) (E (i + 1)) (G (i + 1)))
include hs
theorem states_wf (hi : InvK inv) (w : WFn (G 0)) : ∀ i,i ≤ l.length → WFn (G i) := by
 intro i
 induction i with
 | zero => intro _; exact w
 | succ i ih =>
  intro h
  obtain ⟨x,hx⟩ : ∃ x,l[i]? = some x := ⟨_,List.getElem?_eq_getElem (by omega)⟩
  exact ((hs i _ hx).wf hi (ih (by omega))).1
theorem states_same (hi : InvK inv) (w : WFn (G 0)) {i : Nat} : ∀ {j},i ≤ j → j ≤ l.length → SameTo (G i) (G j) := by
 intro j
 induction j with
 | zero =>
      intro h _; have : i = 0 := by omega
      subst this; exact .refl _
 | succ j ih =>
  intro h hj
  by_cases e : i = j + 1
  ·subst e; exact .refl _
  ·obtain ⟨x,hx⟩ : ∃ x,l[j]? = some x := ⟨_,List.getElem?_eq_getElem (by omega)⟩
   exact (ih (by omega) (by omega)).trans ((hs j _ hx).wf hi (states_wf hs hi w j (by omega))).2.1
theorem states_env {t : Nat} {i : Nat} : ∀ {j},i ≤ j → j ≤ l.length → (∀ k x,i ≤ k → k < j → l[k]? = some x → x.dst ≠ some t) → (E j).get t = (E i).get t := by
 intro j
 induction j with
 | zero =>
      intro h _ _; have : i = 0 := by omega
      subst this; rfl
 | succ j ih =>
  intro h hj hd
  by_cases e : i = j + 1
  ·subst e; rfl
  ·obtain ⟨x,hx⟩ : ∃ x,l[j]? = some x := ⟨_,List.getElem?_eq_getElem (by omega)⟩
   obtain ⟨v,he,_⟩ := hs j _ hx
   rw [he,← ih (by omega) (by omega) (fun k x h1 h2 => hd k x h1 (by omega))]
   have := hd j _ (by omega) (by omega) hx
   cases hdst : x.dst with
   | none => rfl
   | some d => simp only [setD]; rw [T.get_set,if_neg]; rintro rfl; exact this hdst
end states
structure QOk (P : Program) (ops : Array Oper) (q : Nat) : Prop where
 le : q ≤ ops.size
 one : ∀ i j o o',i < q → j < q → ops[i]? = some o → ops[j]? = some o' → i ≠ j → ∀ d,o.dst = some d → o'.dst ≠ some d ∧ (d ∉ readsI (cIns P ops o') ∨ (i < j ∧ ((Region.before ops).getD j 0).testBit i = true))
 own : ∀ i o,i < q → ops[i]? = some o → ∀ d,o.dst = some d → d ∉ readsI (cIns P ops o)
 order : ∀ i j o o',i < q → j < q → ops[i]? = some o → ops[j]? = some o' → i < j → abO o.op = false → abO o'.op = false → ((Region.before ops).getD j 0).testBit i = true
theorem quietOk_spec {ops : Array Oper} {q : Nat} (hq : q ≤ ops.size) (h : quietOk ops (ops.toList.map (cIns P ops)) (Region.before ops) q = true) : QOk P ops q := by
 unfold quietOk at h
 rw [List.all_eq_true] at h
 have hget : ∀ i o, ops[i]? = some o → ops.getD i default = o ∧ (ops.toList.map (cIns P ops)).getD i ⟨none, none, .bad ""⟩ = cIns P ops o := by
  intro i o ho
  refine ⟨by rw [Array.getD_eq_getD_getElem?,ho]; rfl, ?_⟩
  rw [List.getD_eq_getElem?_getD,List.getElem?_map,Array.getElem?_toList,ho]; rfl
 have key : ∀ i j o o',i < q → j < q → ops[i]? = some o → ops[j]? = some o' →
   ((i == j || (match o.dst with
    | none => true
    | some d => o'.dst != some d && (!((readsI (cIns P ops o')).contains d) || (i < j && ((Region.before ops).getD j 0).testBit i)))) &&
   (match o.dst with | some d => !(readsI (cIns P ops o)).contains d | none => true) &&
   (!(i < j) || abO o.op || abO o'.op || ((Region.before ops).getD j 0).testBit i)) = true := by
  intro i j o o' hi hj ho ho'
  have := h i (by simpa using hi)
  simp only [Bool.and_eq_true] at this
  have h2 := this.2
  rw [List.all_eq_true] at h2
  have h3 := h2 j (by simpa using hj)
  rw [(hget i o ho).1,(hget i o ho).2,(hget j o' ho').1,(hget j o' ho').2] at h3
  exact h3
 refine ⟨hq,fun i j o o' hi hj ho ho' hne d hd => ?_,fun i o hi ho d hd => ?_,fun i j o o' hi hj ho ho' hlt h1 h2 => ?_⟩
 ·have := key i j o o' hi hj ho ho'
  rw [hd] at this
  simp only [Bool.and_eq_true,Bool.or_eq_true,beq_iff_eq,bne_iff_ne,Bool.not_eq_true',decide_eq_true_eq] at this
  rcases this.1.1 with h4 | h4
  ·exact absurd h4 hne
  ·refine ⟨h4.1,h4.2.imp (fun h5 h6 => ?_) id⟩
   rw [List.contains_iff_mem.2 h6] at h5; cases h5
 ·have := key i i o o hi hi ho ho
  rw [hd] at this
  simp only [Bool.and_eq_true,Bool.not_eq_true'] at this
  intro h6; have h5 := this.1.2; rw [List.contains_iff_mem.2 h6] at h5; cases h5
 ·have := key i j o o' hi hj ho ho'
  simp only [Bool.and_eq_true,Bool.or_eq_true,Bool.not_eq_true',decide_eq_false_iff_not] at this
  rcases this.2 with ((h4 | h4) | h4) | h4
  ·exact absurd hlt h4
  ·rw [h1] at h4; cases h4
  ·rw [h2] at h4; cases h4
  ·exact h4
theorem cIns_dst (ops : Array Oper) (o : Oper) : (cIns P ops o).dst = o.dst := by
 unfold cIns; split
 ·rfl
 ·split <;> rfl
theorem cIns_op (ops : Array Oper) (o : Oper) : (cIns P ops o).op = cOp P o.op ∨ (cIns P ops o).op = .bad "guard" := by
 unfold cIns; split
 ·exact .inl rfl
 ·split
  ·exact .inl rfl
  ·exact .inr rfl
theorem cIns_guard (ops : Array Oper) (o : Oper) (h : (cIns P ops o).op ≠ .bad "guard") : o.guard.isSome → (cIns P ops o).guard.isSome := by
 intro hg
 unfold cIns at h ⊢
 cases hgo : o.guard with
 | none => rw [hgo] at hg; cases hg
 | some jb =>
  obtain ⟨j,b⟩ := jb
  rw [hgo] at h
  simp only at h ⊢
  cases hd : (ops[j]?).bind (·.dst) with
  | none => rw [hd] at h; exact absurd rfl h
  | some t => rfl
theorem wantedI_congr {e e' : Env} {g : Option (Nat × Bool)} (h : ∀ t b,g = some (t,b) → e.get t = e'.get t) : wtI e g = wtI e' g := by
 cases g with
 | none => rfl
 | some tb => obtain ⟨t,b⟩ := tb; simp only [wtI]; rw [h t b rfl]
theorem ea_pick {e : Env} {x : Arg} {l : List Nat} (h : ∀ t ∈ argT x,t ∈ l) : ea (pickE e l) x = ea e x := by
 cases x with
 | tmp t => simp only [ea]; rw [pickE_get,if_pos (h t (by simp [argT]))]
 | val v => rfl
def FreeOk (P : Program) (ops : Array Oper) (q : Nat) : Prop := ∀ k o',q ≤ k → ops[k]? = some o' → ∀ j,j < k → ((Region.before ops).getD k 0).testBit j = true ∨
 (j < q ∧ ∃ o d,ops[j]? = some o ∧ o.guard = none ∧ o.dst = some d ∧ freeOp (cIns P ops o).op = true ∧ o'.dst ≠ some d ∧ d ∉ readsI (cIns P ops o') ∧ ∀ t ∈ readsI (cIns P ops o),o'.dst ≠ some t)
theorem freeOk_spec {ops : Array Oper} {q : Nat} (h : freeOk ops (ops.toList.map (cIns P ops)) (Region.before ops) q = true) : FreeOk P ops q := by
 intro k o' hq ho' j hj
 have hks : k < ops.size := by
  rcases Nat.lt_or_ge k ops.size with x | x
  ·exact x
  ·rw [Array.getElem?_eq_none x] at ho'; cases ho'
 have hget : ∀ i o, ops[i]? = some o → ops.getD i default = o ∧ (ops.toList.map (cIns P ops)).getD i ⟨none, none, .bad ""⟩ = cIns P ops o := by
  intro i o ho
  refine ⟨by rw [Array.getD_eq_getD_getElem?,ho]; rfl, ?_⟩
  rw [List.getD_eq_getElem?_getD,List.getElem?_map,Array.getElem?_toList,ho]; rfl
 have ho : ops[j]? = some ops[j] := by simp [show j < ops.size by omega]
 unfold freeOk at h
 rw [List.all_eq_true] at h
 have h1 := h k (by simpa using hks)
 rw [Bool.or_eq_true] at h1
 rcases h1 with h1 | h1
 ·simp only [Nat.blt_eq] at h1; omega
 rw [List.all_eq_true] at h1
 have h2 := h1 j (by simpa using hj)
 rw [Bool.or_eq_true] at h2
 rcases h2 with h2 | h2
 ·exact .inl h2
 rw [Bool.and_eq_true,Nat.blt_eq] at h2
 obtain ⟨hjq,h3⟩ := h2
 simp only [(hget j _ ho).1,(hget j _ ho).2,(hget k _ ho').1,(hget k _ ho').2,Bool.and_eq_true] at h3
 obtain ⟨⟨⟨h4,h5⟩,h6⟩,h7⟩ := h3
 refine .inr ⟨hjq,ops[j], ?_⟩
 cases hd : ops[j].dst with
 | none => rw [hd] at h6; cases h6
 | some d =>
  rw [hd] at h6
  simp only [Bool.and_eq_true,bne_iff_ne,Bool.not_eq_true'] at h6
  rw [List.all_eq_true] at h7
  refine ⟨d,ho,by simpa using h4,rfl,h5,h6.1,fun hm => ?_,fun t ht => by simpa using h7 t ht⟩
  have := h6.2; rw [List.contains_iff_mem.2 hm] at this; cases this
theorem ev_free {io : IOp} (hf : freeOp io = true) {v : Value} {H H' : AH} {e : Env} (h : ev inv e H io = some (.ret v,H')) : ∀ K,ev inv e K io = some (.ret v,K) := by
 intro K
 have ho : ∀ {x : Option Value},okO x H = some (.ret v,H') → okO x K = some (.ret v,K) := by
  intro x hx
  cases x with
  | none => simp [okO] at hx
  | some y => simp only [okO,Option.some.injEq,Prod.mk.injEq,Out.ret.injEq] at hx ⊢; exact ⟨hx.1,trivial⟩
 cases io with
 | mov x => simp only [ev] at h ⊢; exact ho h
 | extract x i => simp only [ev] at h ⊢; split at h <;> first | exact ho h | cases h
 | pick c a b =>
  simp only [ev] at h ⊢; split at h
  ·rename_i t _
   cases t with
   | true => exact ho h
   | false => exact ho h
  ·cases h
 | arith o x y => simp only [ev] at h ⊢; split at h <;> first | exact ho h | cases h
 | un o x => simp only [ev] at h ⊢; split at h <;> first | exact ho h | cases h
 | toInt k x => simp only [ev] at h ⊢; split at h <;> first | exact ho (x := some _) h | cases h
 | _ => cases hf
end Go.Den
/- Den, part X: operations that come in any order. -/
namespace Go.Den
variable {gl : Nat → Bool} {P : Program} {inv : Inv}
structure DI (gl : Nat → Bool) (P : Program) (ops : Array Oper) (q N n0 : Nat) (E : Nat → Env) (G : Nat → AH) (σ0 : Ren) (w0 : World) (ls : Array Bool) (σ : Ren) (a : Act) (w : World) : Prop where
 sz : ls.size = ops.size
 down : Down ops ls
 hr : ∀ m,m ≤ q → HR gl P (restr σ (G m).next) (G m) w.heap
 dom : ∀ k p,σ k = some p → k < (G 0).next ∨ ∃ i,i < q ∧ ls.getD i false = true ∧ (G i).next ≤ k ∧ k < (G (i + 1)).next
 uni : ∀ j o,j < q → ls.getD j false = true → ops[j]? = some o → abO o.op = true → ∀ k p,(G j).next ≤ k → k < (G (j + 1)).next → σ k = some p → ∀ k' p',σ k' = some p' → p'.b = p.b → (G j).next ≤ k' ∨ ¬ (G q).live k'
 env : ∀ m,m ≤ q → ∀ t v,(E m).get t = some v → (∀ j o,j < q → ops[j]? = some o → (ls.getD j false = false ∨ m ≤ j) → o.dst ≠ some t) → VR (restr σ (G m).next) v (a.tmps.getD t Go.undef)
 size : a.tmps.size = N
 defs : DefOk n0 a.defers w
 base : n0 ≤ w.heap.size
 fr : FrW σ0 (G 0) w0 σ (G q) w
theorem put_same {a : Act} {t : Nat} (h : t < a.tmps.size) (c : Value) : (a.put (some t) c).tmps.getD t Go.undef = c := by
 simp [Act.put,Array.getD_eq_getD_getElem?,h]
theorem put_other {a : Act} {d : Option Nat} {t : Nat} (h : d ≠ some t) (c : Value) : (a.put d c).tmps.getD t Go.undef = a.tmps.getD t Go.undef := by
 cases d with
 | none => rfl
 | some d => simp [Act.put,Array.getD_eq_getD_getElem?,Array.getElem?_setIfInBounds_ne (show d ≠ t from fun e => h (by rw [e]))]
structure Text (gl : Nat → Bool) (P : Program) (inv : Inv) (ops : Array Oper) (q N : Nat) (E : Nat → Env) (G : Nat → AH) (σ0 : Ren) (w0 : World) : Prop where
 qok : QOk P ops q
 step : ∀ i o,i < q → ops[i]? = some o → QStep inv (cIns P ops o) (E i) (G i) (E (i + 1)) (G (i + 1))
 wf : ∀ i,i ≤ q → WFn (G i)
 same : ∀ i j,i ≤ j → j ≤ q → SameTo (G i) (G j)
 env : ∀ i j t,i ≤ j → j ≤ q → (∀ k o,i ≤ k → k < j → ops[k]? = some o → o.dst ≠ some t) → (E j).get t = (E i).get t
 ro : ∀ i,i < q → ∀ k,(G (i + 1)).roOf k → (G i).roOf k
 ok : ∀ i o,i < q → ops[i]? = some o → (cIns P ops o).ok gl N = true
 glr : GlR gl σ0
 hr0 : HR gl P σ0 (G 0) w0.heap
section
variable {ops : Array Oper} {q N n0 : Nat} {E : Nat → Env} {G : Nat → AH} {σ0 : Ren} {w0 : World} (tx : Text gl P inv ops q N E G σ0 w0) {ls : Array Bool} {σ : Ren} {a : Act} {w : World} (d : DI gl P ops q N n0 E G σ0 w0 ls σ a w)
include tx d
theorem DI.domlt {k : Nat} {p : Place} (h : σ k = some p) : k < (G q).next := by
 rcases d.dom k p h with h1 | ⟨i,h1,_,_,h2⟩
 ·exact Nat.lt_of_lt_of_le h1 (tx.same 0 q (Nat.zero_le _) (Nat.le_refl _)).1
 ·exact Nat.lt_of_lt_of_le h2 (tx.same (i + 1) q (by omega) (Nat.le_refl _)).1
theorem DI.after {i : Nat} {o : Oper} (hi : i < q) (hrd : i ∈ Region.ready .any ops ls) (ho : ops[i]? = some o) {v c : Value} {σ1 : Ren} {w' : World} (he : E (i + 1) = setD (E i) o.dst v) (hv : VR σ1 v c)
  (hr1 : HR gl P σ1 (G (i + 1)) w'.heap) (hf1 : FrW (restr σ (G i).next) (G i) w σ1 (G (i + 1)) w') (hst : abO o.op = true → Stb (restr σ (G i).next) w σ1 w') :
  DI gl P ops q N n0 E G σ0 w0 (ls.setIfInBounds i true) (mrg σ1 σ (G (i + 1)).next) (a.put o.dst c) w' := by
 obtain ⟨hr1',hr2',_⟩ := ready_iff.1 hrd
 have hisz : i < ls.size := by rw [d.sz]; exact hr1'
 have hli : ls.getD i false = false := by
  have : ls[i]? = some ls[i] := by simp [hisz]
  simp [Array.getD_eq_getD_getElem?,this] at hr2' ⊢; exact hr2'
 have sAC := tx.same i q (by omega) (Nat.le_refl _)
 have sBC := tx.same (i + 1) q (by omega) (Nat.le_refl _)
 have sAB := tx.same i (i + 1) (by omega) (by omega)
 have hAB := sAB.1
 have nx : ∀ x y,x ≤ y → y ≤ q → (G x).next ≤ (G y).next := fun x y h1 h2 => (tx.same x y h1 h2).1
 have hA := d.hr i (by omega)
 have hnone : ∀ k,(G i).next ≤ k → k < (G (i + 1)).next → σ k = none := by
  intro k h1 h2
  cases hk : σ k with
  | none => rfl
  | some p =>
   exfalso
   rcases d.dom k p hk with h3 | ⟨j,h3,h4,h5,h6⟩
   ·have := nx 0 i (by omega) (by omega); omega
   ·rcases Nat.lt_trichotomy j i with h7 | h7 | h7
    ·have := nx (j + 1) i (by omega) (by omega); omega
    ·subst h7; rw [hli] at h4; cases h4
    ·have := nx (i + 1) j (by omega) (by omega); omega
 have hold : ∀ k,k < (G i).next → σ1 k = σ k := fun k hk => by rw [hf1.old k hk]; unfold restr; rw [if_pos hk]
 have hle : σ.Le (mrg σ1 σ (G (i + 1)).next) := fun k p hk => by
  unfold mrg
  by_cases e : k < (G (i + 1)).next
  ·rw [if_pos e]
   by_cases e2 : k < (G i).next
   ·rw [hold k e2,hk]
   ·rw [hnone k (by omega) e] at hk; cases hk
  ·rw [if_neg e,hk]
 have hle1 : σ1.Le (mrg σ1 σ (G (i + 1)).next) := fun k p hk => by unfold mrg; rw [if_pos (hr1.sig k p hk).1,hk]
 have hpb : ∀ k p,σ k = some p → p.b < w.heap.size := fun k p hk => ((d.hr q (Nat.le_refl _)).sig k p (restr_some.2 ⟨d.domlt tx hk,hk⟩)).2
 have hlf : ∀ k p,(G (i + 1)).next ≤ k → σ k = some p → w'.heap[p.b]? = w.heap[p.b]? ∧ ∀ k1 p1,(G i).next ≤ k1 → σ1 k1 = some p1 → p1.b = p.b → ¬ (G (i + 1)).live k1 := by
  intro k p hk hp
  have hb := hpb k p hp
  obtain ⟨j,h3,h4,h5,h6⟩ : ∃ j,j < q ∧ ls.getD j false = true ∧ (G j).next ≤ k ∧ k < (G (j + 1)).next := by
   rcases d.dom k p hp with h3 | h3
   ·have := nx 0 (i + 1) (by omega) (by omega); omega
   ·exact h3
  have hij : i < j := by
   rcases Nat.lt_trichotomy j i with h7 | h7 | h7
   ·have := nx (j + 1) (i + 1) (by omega) (by omega); omega
   ·subst h7; rw [hli] at h4; cases h4
   ·exact h7
  by_cases hab : abO o.op = true
  ·obtain ⟨g1,g2⟩ := hst hab
   refine ⟨g1 _ hb,fun k1 p1 h7 h8 h9 => ?_⟩
   have := g2 k1 p1 (by unfold restr; rw [if_neg (by omega)]) h8
   omega
  ·have hjs : j < ops.size := Nat.lt_of_lt_of_le h3 tx.qok.le
   have hoj : ops[j]? = some ops[j] := by simp [hjs]
   have hab2 : abO ops[j].op = true := by
    by_cases h7 : abO ops[j].op = true
    ·exact h7
    ·have := tx.qok.order i j o ops[j] hi h3 ho hoj hij (by simpa using hab) (by simpa using h7)
     have := d.down j i h4 this
     rw [hli] at this; cases this
   have hun := d.uni j _ h3 h4 hoj hab2 k p h5 h6 hp
   have hpr : Prot (restr σ (G i).next) (G i) p.b := fun k' p' hk' hb' => by
    obtain ⟨h7,h8⟩ := restr_some.1 hk'
    rcases hun k' p' h8 hb' with h9 | h9
    ·have := nx i j (by omega) (by omega); omega
    ·exact .inl fun y => h9 ((sAC.live (tx.wf i (by omega)).fam h7).2 y)
   obtain ⟨g1,g2⟩ := hf1.prot p.b hb hpr
   refine ⟨g1,fun k1 p1 h7 h8 h9 => ?_⟩
   rcases g2 k1 p1 h8 h9 with h10 | h10
   ·exact h10
   ·exfalso
    have := tx.ro i hi k1 h10
    unfold AH.roOf at this
    cases hg : (G i).get k1 with
    | none => rw [hg] at this; exact this
    | some ob => have := (tx.wf i (by omega)).lt k1 ob hg; omega
 refine ⟨by simp [d.sz],d.down.set hisz hrd,fun m hm => ?_,fun k p hk => ?_,fun j o' hj hl hoj hab k p h1 h2 hk k' p' hk' hb => ?_,fun m hm t u hu hc => ?_,by rw [put_size]; exact d.size,by rw [put_defers]; exact d.defs.step hA hf1,Nat.le_trans d.base hf1.size, ?_⟩
 ·by_cases hmi : m ≤ i
  ·have e : restr (mrg σ1 σ (G (i + 1)).next) (G m).next = restr σ (G m).next := by
    funext k
    unfold restr mrg
    by_cases e : k < (G m).next
    ·have := nx m i hmi (by omega)
     rw [if_pos e,if_pos e,if_pos (by omega),hold k (by omega)]
    ·rw [if_neg e,if_neg e]
   rw [e]
   refine (d.hr m hm).earlier hr1 (fun k p hk => ?_) (tx.wf m hm).fam (tx.same m (i + 1) (by omega) (by omega)) hf1.size
   obtain ⟨h1,h2⟩ := restr_some.1 hk
   have := nx m i hmi (by omega)
   rw [hold k (by omega)]; exact h2
  ·have e : restr (mrg σ1 σ (G (i + 1)).next) (G m).next = mrg σ1 (restr σ (G m).next) (G (i + 1)).next := by
    funext k
    unfold restr mrg
    have := nx (i + 1) m (by omega) hm
    by_cases e : k < (G (i + 1)).next
    ·rw [if_pos (by omega : k < (G m).next),if_pos e,if_pos e]
    ·rw [if_neg e,if_neg e]
   rw [e]
   have hm1 := nx (i + 1) m (by omega) hm
   refine (d.hr m hm).later hr1 (tx.wf (i + 1) (by omega)).fam (A := G i) (tx.same (i + 1) m (by omega) hm) hf1.size (fun k hk => ?_) (fun k h1 h2 => ?_) (fun k p h1 h2 _ => hlf k p h1 (restr_some.1 h2).2)
   ·rw [hold k hk]; unfold restr; rw [if_pos (by omega)]
   ·unfold restr; rw [if_pos (by omega)]; exact hnone k h1 h2
 ·unfold mrg at hk
  have old : σ k = some p → k < (G 0).next ∨ ∃ i',i' < q ∧ (ls.setIfInBounds i true).getD i' false = true ∧ (G i').next ≤ k ∧ k < (G (i' + 1)).next := fun h => by
   rcases d.dom k p h with h3 | ⟨j,h3,h4,h5⟩
   ·exact .inl h3
   ·exact .inr ⟨j,h3,(set_getD hisz).2 (.inr h4),h5⟩
  by_cases e : k < (G (i + 1)).next
  ·rw [if_pos e] at hk
   by_cases e2 : k < (G i).next
   ·rw [hold k e2] at hk; exact old hk
   ·exact .inr ⟨i,hi,(set_getD hisz).2 (.inl rfl),by omega,e⟩
  ·rw [if_neg e] at hk; exact old hk
 ·by_cases hji : j = i
  ·subst hji
   rw [ho] at hoj; cases hoj
   unfold mrg at hk
   rw [if_pos h2] at hk
   have hge := (hst hab).2 k p (by unfold restr; rw [if_neg (by omega)]) hk
   by_cases e : (G j).next ≤ k'
   ·exact .inl e
   ·exfalso
    unfold mrg at hk'
    rw [if_pos (by omega),hold k' (by omega)] at hk'
    have := hpb k' p' hk'
    omega
  ·have hlj : ls.getD j false = true := by
    rcases (set_getD hisz).1 hl with h | h
    ·exact absurd h hji
    ·exact h
   have hk0 : σ k = some p := by
    unfold mrg at hk
    rcases Nat.lt_or_gt_of_ne hji with h7 | h7
    ·have := nx (j + 1) i (by omega) (by omega)
     rw [if_pos (by omega),hold k (by omega)] at hk; exact hk
    ·have := nx (i + 1) j (by omega) (by omega)
     rw [if_neg (by omega)] at hk; exact hk
   have old := d.uni j o' hj hlj hoj hab k p h1 h2 hk0
   unfold mrg at hk'
   by_cases e : k' < (G (i + 1)).next
   ·rw [if_pos e] at hk'
    by_cases e2 : k' < (G i).next
    ·rw [hold k' e2] at hk'; exact old k' p' hk' hb
    ·rcases Nat.lt_or_gt_of_ne hji with h7 | h7
     ·have := nx j i (by omega) (by omega); exact .inl (by omega)
     ·have := nx (i + 1) j (by omega) (by omega)
      refine .inr fun y => (hlf k p (by omega) hk0).2 k' p' (by omega) hk' hb ?_
      exact (sBC.live (tx.wf (i + 1) (by omega)).fam e).1 y
   ·rw [if_neg e] at hk'; exact old k' p' hk' hb
 ·by_cases hdt : o.dst = some t
  ·have hmi : i + 1 ≤ m := by
    rcases Nat.lt_or_ge i m with h | h
    ·exact h
    ·exact absurd hdt (hc i o hi ho (.inr h))
   have h1 : (E m).get t = (E (i + 1)).get t := tx.env (i + 1) m t hmi hm (fun k o' h1 h2 hok => (tx.qok.one i k o o' hi (by omega) ho hok (by omega) t hdt).1)
   rw [h1,he,hdt] at hu
   simp only [setD] at hu
   rw [T.get_set,if_pos rfl] at hu
   cases hu
   have htN : t < a.tmps.size := by
    have := tx.ok i o hi ho
    simp only [Ins.ok,Bool.and_eq_true] at this
    rw [cIns_dst,hdt] at this
    rw [d.size]; simpa [guardOk] using this.1
   rw [hdt,put_same htN]
   refine hv.mono (fun k p hk => restr_some.2 ⟨?_,hle1 k p hk⟩)
   exact Nat.lt_of_lt_of_le (hr1.sig k p hk).1 (nx (i + 1) m hmi hm)
  ·rw [put_other hdt]
   refine (d.env m hm t u hu (fun j o' hj hoj hor => ?_)).mono (fun k p hk => ?_)
   ·by_cases hji : j = i
    ·subst hji; rw [ho] at hoj; cases hoj; exact hdt
    ·refine hc j o' hj hoj (hor.imp (fun h => ?_) id)
     cases hx : (ls.setIfInBounds i true).getD j false with
     | false => rfl
     | true =>
          rcases (set_getD hisz).1 hx with h2 | h2
          ·exact absurd h2 hji
          ·rw [h] at h2; cases h2
   ·obtain ⟨h1,h2⟩ := restr_some.1 hk
    exact restr_some.2 ⟨h1,hle k p h2⟩
 ·exact ⟨d.fr.fr.later hf1.fr hr1 (tx.wf i (by omega)).fam (tx.wf (i + 1) (by omega)).fam sAC sBC (nx 0 i (by omega) (by omega)) hle,hf1.os.trans d.fr.os,hf1.out.trans d.fr.out⟩
theorem DI.st {i : Nat} {o : Oper} (hi : i < q) (hrd : i ∈ Region.ready .any ops ls) (ho : ops[i]? = some o) : St gl P (restr σ (G i).next) ⟨(G i).objs,(G i).next,(G i).next⟩ w (pickE (E i) (readsI (cIns P ops o))) a N n0 := by
 have hA := d.hr i (by omega)
 refine ⟨⟨hA.congr (fun _ => rfl) rfl,tx.glr.mono (fun k p hk => restr_some.2 ⟨?_,d.fr.le k p hk⟩),fun t v ht => ?_⟩,d.size,d.defs,d.base⟩
 ·exact Nat.lt_of_lt_of_le (tx.hr0.sig k p hk).1 (tx.same 0 i (by omega) (by omega)).1
 ·rw [pickE_get] at ht
  by_cases hin : t ∈ readsI (cIns P ops o)
  ·rw [if_pos hin] at ht
   refine d.env i (by omega) t v ht (fun j o' hj hoj hor hdst => ?_)
   by_cases hji : j = i
   ·subst hji; rw [ho] at hoj; cases hoj; exact tx.qok.own j o hj ho t hdst hin
   ·rcases (tx.qok.one j i o' o hj hi hoj ho hji t hdst).2 with h1 | ⟨h1,h2⟩
    ·exact h1 hin
    ·rcases hor with h3 | h3
     ·have := d.down.ready hrd h2; rw [h3] at this; cases this
     ·omega
  ·rw [if_neg hin] at ht; cases ht
theorem DI.step (hinv : InvOk gl P inv) {ro : Option Nat} {Q : Exit → Act → World → Prop} {i : Nat} (hi : i < q) (hrd : i ∈ Region.ready .any ops ls) {K : Act → World → Prop}
  (hK : ∀ σ' a' w',DI gl P ops q N n0 E G σ0 w0 (ls.setIfInBounds i true) σ' a' w' → K a' w') : wpOpIn (Fw ro) 0 P ops Q i K a w := by
 have hsz : i < ops.size := Nat.lt_of_lt_of_le hi tx.qok.le
 have ho : ops[i]? = some ops[i] := by simp [hsz]
 generalize ops[i] = o at ho
 have st := d.st tx hi hrd ho
 have hok := tx.ok i o hi ho
 simp only [Ins.ok,Bool.and_eq_true] at hok
 obtain ⟨v,he,hcase⟩ := tx.step i o hi ho
 rw [cIns_dst] at he
 have hwc : wtI (pickE (E i) (readsI (cIns P ops o))) (cIns P ops o).guard = wtI (E i) (cIns P ops o).guard := wantedI_congr fun t b hg => by
  rw [pickE_get,if_pos]
  unfold readsI; rw [hg]; simp
 unfold wpOpIn
 rw [ho]
 simp only
 rcases hcase with ⟨hw,rfl,hG⟩ | ⟨hw,H1,hev,hlow,hG⟩
 ·have hgu : o.guard.isSome → (cIns P ops o).guard.isSome := fun _ => by
   cases hg : (cIns P ops o).guard with
   | none => rw [hg] at hw; simp [wtI] at hw
   | some _ => rfl
  have hwant := wanted_ok st (hwc.trans hw) hgu
  rw [hwant,if_neg (by simp)]
  refine ⟨about_wide,hK _ _ _ (d.after tx hi hrd ho he (VR.undef (restr σ (G i).next)) ?_ ?_ (fun _ => .refl rfl))⟩
  ·rw [hG]; exact d.hr i (by omega)
  ·rw [hG]; exact .refl _ _ _
 ·have hnb : (cIns P ops o).op ≠ .bad "guard" := fun h => by rw [h] at hev; simp [ev] at hev
  have hop : (cIns P ops o).op = cOp P o.op := (cIns_op ops o).resolve_right hnb
  have hwant := wanted_ok st (hwc.trans hw) (cIns_guard ops o hnb)
  rw [hwant,if_pos rfl]
  have hev' : ev inv (pickE (E i) (readsI (cIns P ops o))) ⟨(G i).objs,(G i).next,(G i).next⟩ (cOp P o.op) = some (.ret v,H1) := by
   rw [← hop,← hev]
   refine ev_congr fun x hx => ea_pick fun t ht => ?_
   unfold readsI
   exact List.mem_append_left _ (List.mem_flatMap.2 ⟨x,hx,ht⟩)
  refine oper_ok (N := N) (n0 := n0) hinv st.cx (hop ▸ hok.2) hev' (fun v' c σ1 w' hout hv hr hf hst => ?_) (fun v' c σ1 w' hout _ _ _ => by cases hout)
  cases hout
  refine hK _ _ _ (d.after tx hi hrd ho he hv ?_ ?_ hst)
  ·rw [hG]; exact hr.congr (fun _ => rfl) rfl
  ·rw [hG]; exact ⟨⟨hf.le,hf.next,hf.old,hf.size,hf.prot,hf.loops⟩,hf.os,hf.out⟩
end
end Go.Den
/- Den, part Y: regions whose operations come in any order. -/
namespace Go.Den
variable {gl : Nat → Bool} {P : Program} {inv : Inv}
theorem backOk_spec {ops : Array Oper} (h : backOk ops = true) {i : Nat} {o : Oper} (ho : ops[i]? = some o) : ∀ e ∈ o.after.toList,Region.binds .any e = true → e.on < i := by
 unfold backOk at h
 rw [List.all_eq_true] at h
 have hi : i < ops.size := by
  rcases Nat.lt_or_ge i ops.size with x | x
  ·exact x
  ·rw [Array.getElem?_eq_none x] at ho; cases ho
 have := h i (by simpa using hi)
 rw [Array.getD_eq_getD_getElem?,ho] at this
 simp only [Option.getD_some,Array.all_eq_true] at this
 intro e he hbd
 obtain ⟨k,hk,hke⟩ := List.getElem_of_mem he
 have h2 := this k (by simpa using hk)
 rw [show o.after[k]'(by simpa using hk) = e from by simpa using hke,hbd] at h2
 simpa using h2
theorem first_ready {ops : Array Oper} (hb : backOk ops = true) {ls : Array Bool} (hsz : ls.size = ops.size) {i : Nat} (hi : i < ops.size) (hn : ls.getD i false = false) (hall : ∀ j,j < i → ls.getD j false = true) : i ∈ Region.ready .any ops ls := by
 refine ready_iff.2 ⟨hi, ?_,fun o ho e he hbd => hall _ (backOk_spec hb ho e he hbd)⟩
 have : ls[i]? = some ls[i] := by simp [hsz,hi]
 simp [Array.getD_eq_getD_getElem?,this] at hn ⊢; exact hn
theorem ready_not {ops : Array Oper} {ls : Array Bool} {i : Nat} (hsz : ls.size = ops.size) (h : i ∈ Region.ready .any ops ls) : ls.getD i false = false := by
 obtain ⟨h1,h2,_⟩ := ready_iff.1 h
 have : ls[i]? = some ls[i] := by simp [hsz,h1]
 simp [Array.getD_eq_getD_getElem?,this] at h2 ⊢; exact h2
theorem count_set : ∀ (l : List Bool) (i : Nat),l[i]? = some false → (l.set i true).count false + 1 = l.count false := by
 intro l
 induction l with
 | nil => intro i h; simp at h
 | cons b l ih =>
  intro i h
  cases i with
  | zero => simp at h; subst h; simp
  | succ i =>
   simp at h
   have := ih i h
   simp only [List.set_cons_succ,List.count_cons]
   omega
structure TI (gl : Nat → Bool) (P : Program) (inv : Inv) (ops : Array Oper) (q N n0 : Nat) (σ : Ren) (H : AH) (w : World) (e : Env) (a : Act) (ls : Array Bool) : Prop where
 hr : HR gl P σ H w.heap
 glr : GlR gl σ
 env : ∀ t v,e.get t = some v → (∀ j o,j < q → ops[j]? = some o → ls.getD j false = false → o.dst ≠ some t) → VR σ v (a.tmps.getD t Go.undef)
 pend : ∀ j o,j < q → ops[j]? = some o → ls.getD j false = false → ∃ d v,o.guard = none ∧ o.dst = some d ∧ e.get d = some v ∧ d ∉ readsI (cIns P ops o) ∧ ∀ K,ev inv e K (cIns P ops o).op = some (.ret v,K)
 one : ∀ i j o o',i < q → j < q → ops[i]? = some o → ops[j]? = some o' → i ≠ j → ∀ d,o.dst = some d → o'.dst ≠ some d ∧ (d ∉ readsI (cIns P ops o') ∨ (i < j ∧ ((Region.before ops).getD j 0).testBit i = true))
 size : a.tmps.size = N
 defs : DefOk n0 a.defers w
 base : n0 ≤ w.heap.size
theorem TI.op (hinv : InvOk gl P inv) {ro : Option Nat} {N n0 q : Nat} {ops : Array Oper} {Q : Exit → Act → World → Prop} {K : Act → World → Prop} {σ : Ren} {H : AH} {w : World} {e : Env} {a : Act} {ls : Array Bool} {i : Nat} {o : Oper} {l : List Ins} {e' : Env} {H' : AH}
  (ti : TI gl P inv ops q N n0 σ H w e a ls) (ho : ops[i]? = some o) (hok : (cIns P ops o).ok gl N = true) (hrd : ∀ t ∈ readsI (cIns P ops o),∀ j o',j < q → ops[j]? = some o' → ls.getD j false = false → o'.dst ≠ some t)
  (h : evs inv (cIns P ops o :: l) e H = some (.norm,e',H'))
  (hK : ∀ σ1 c w1 v H1,evs inv l (setD e o.dst v) H1 = some (.norm,e',H') → VR σ1 v c → HR gl P σ1 H1 w1.heap → FrW σ H w σ1 H1 w1 →
   (wtI e (cIns P ops o).guard = some true → ev inv e H (cIns P ops o).op = some (.ret v,H1)) → K (a.put o.dst c) w1) : wpOpIn (Fw ro) 0 P ops Q i K a w := by
 have st : St gl P σ H w (pickE e (readsI (cIns P ops o))) a N n0 := by
  refine ⟨⟨ti.hr,ti.glr,fun t v ht => ?_⟩,ti.size,ti.defs,ti.base⟩
  rw [pickE_get] at ht
  by_cases hin : t ∈ readsI (cIns P ops o)
  ·rw [if_pos hin] at ht
   exact ti.env t v ht (hrd t hin)
  ·rw [if_neg hin] at ht; cases ht
 have hwc : wtI (pickE e (readsI (cIns P ops o))) (cIns P ops o).guard = wtI e (cIns P ops o).guard := wantedI_congr fun t b hg => by
  rw [pickE_get,if_pos]
  unfold readsI; rw [hg]; simp
 unfold wpOpIn
 rw [ho]
 simp only
 simp only [evs] at h
 have hdst := cIns_dst (P := P) ops o
 simp only [Ins.ok,Bool.and_eq_true] at hok
 cases hw : wtI e (cIns P ops o).guard with
 | none => rw [hw] at h; cases h
 | some b =>
  rw [hw] at h
  cases b with
  | false =>
   have hgu : o.guard.isSome → (cIns P ops o).guard.isSome := fun _ => by
    cases hg : (cIns P ops o).guard with
    | none => rw [hg] at hw; simp [wtI] at hw
    | some _ => rfl
   simp only at h
   rw [wanted_ok st (hwc.trans hw) hgu,if_neg (by simp)]
   rw [hdst] at h
   exact ⟨about_wide,hK σ _ _ _ _ h (VR.undef σ) ti.hr (.refl _ _ _) (fun x => by rw [hw] at x; cases x)⟩
  | true =>
   simp only at h
   cases hev : ev inv e H (cIns P ops o).op with
   | none => rw [hev] at h; cases h
   | some oh =>
    obtain ⟨out,H1⟩ := oh
    rw [hev] at h
    have hnb : (cIns P ops o).op ≠ .bad "guard" := fun h => by rw [h] at hev; simp [ev] at hev
    have hop : (cIns P ops o).op = cOp P o.op := (cIns_op ops o).resolve_right hnb
    rw [wanted_ok st (hwc.trans hw) (cIns_guard ops o hnb),if_pos rfl]
    have hev' : ev inv (pickE e (readsI (cIns P ops o))) H (cOp P o.op) = some (out,H1) := by
     rw [← hop,← hev]
     refine ev_congr fun x hx => ea_pick fun t ht => ?_
     unfold readsI
     exact List.mem_append_left _ (List.mem_flatMap.2 ⟨x,hx,ht⟩)
    refine oper_ok (N := N) (n0 := n0) hinv st.cx (hop ▸ hok.2) hev' (fun v c σ' w' hout hv hr hf _ => ?_) (fun v c σ' w' hout hv hr hf => ?_)
    ·subst hout
     simp only at h
     rw [hdst] at h
     exact hK _ _ _ _ _ h hv hr hf (fun _ => hev)
    ·subst hout
     simp only [Option.some.injEq,Prod.mk.injEq] at h
     cases h.1
theorem readsI_op {x : Ins} {y : Arg} (h : y ∈ x.op.args) {t : Nat} (ht : t ∈ argT y) : t ∈ readsI x := by
 unfold readsI
 exact List.mem_append_left _ (List.mem_flatMap.2 ⟨y,h,ht⟩)
theorem ea_set {e : Env} {y : Arg} {d : Option Nat} {v : Value} (h : ∀ t ∈ argT y,d ≠ some t) : ea (setD e d v) y = ea e y := by
 cases y with
 | val x => rfl
 | tmp t =>
  have := h t (by simp [argT])
  cases d with
  | none => rfl
  | some d => simp only [ea,setD]; rw [T.get_set,if_neg]; rintro rfl; exact this rfl
theorem setD_get {e : Env} {d : Option Nat} {v : Value} {t : Nat} (h : d ≠ some t) : (setD e d v).get t = e.get t := by
 cases d with
 | none => rfl
 | some d => simp only [setD]; rw [T.get_set,if_neg]; rintro rfl; exact h rfl
theorem setD_same {e : Env} {t : Nat} {v : Value} : (setD e (some t) v).get t = some v := by simp only [setD]; rw [T.get_set,if_pos rfl]
theorem tail_ok {ro : Option Nat} {N n0 q : Nat} {ops : Array Oper} (hinv : InvOk gl P inv) (hb : backOk ops = true) (hok : ∀ (i : Nat) (o : Oper),ops[i]? = some o → (cIns P ops o).ok gl N = true) (hfree : FreeOk P ops q) (hqs : q ≤ ops.size) {Q : Exit → Act → World → Prop} {e' : Env} {H' : AH} :
  ∀ (fuel i : Nat) {ls : Array Bool} {σ : Ren} {H : AH} {w : World} {e : Env} {a : Act},ls.size = ops.size → q ≤ i → i ≤ ops.size → ls.toList.count false ≤ fuel → Down ops ls → (∀ j,q ≤ j → (ls.getD j false = true ↔ j < i)) →
   TI gl P inv ops q N n0 σ H w e a ls → evs inv ((ops.toList.map (cIns P ops)).drop i) e H = some (.norm,e',H') → (∀ a1 w1 σ1,St gl P σ1 H' w1 e' a1 N n0 → FrW σ H w σ1 H' w1 → Q .normal a1 w1) → wpAnyIn (Fw ro) 0 P .any ops Q fuel ls a w := by
 intro fuel
 have fin : ∀ {fuel : Nat} {i : Nat} {ls : Array Bool} {σ : Ren} {H : AH} {w : World} {e : Env} {a : Act},ls.size = ops.size → q ≤ i → i ≤ ops.size → (∀ j,q ≤ j → (ls.getD j false = true ↔ j < i)) → (∀ j,j < ops.size → ls.getD j false = true) →
   TI gl P inv ops q N n0 σ H w e a ls → evs inv ((ops.toList.map (cIns P ops)).drop i) e H = some (.norm,e',H') → (∀ a1 w1 σ1,St gl P σ1 H' w1 e' a1 N n0 → FrW σ H w σ1 H' w1 → Q .normal a1 w1) → wpAnyIn (Fw ro) 0 P .any ops Q fuel ls a w := by
  intro fuel i ls σ H w e a hsz hqi hi hls hall ti h hQ
  have : i = ops.size := by
   rcases Nat.lt_or_ge i ops.size with x | x
   ·have := (hls i hqi).1 (hall i x); omega
   ·omega
  subst this
  rw [List.drop_eq_nil_of_le (by simp)] at h
  simp only [evs,Option.some.injEq,Prod.mk.injEq,true_and] at h
  obtain ⟨rfl,rfl⟩ := h
  refine wpAnyIn_done ?_ (hQ _ _ _ ⟨⟨ti.hr,ti.glr,fun t v ht => ti.env t v ht fun j o hj _ hl => ?_⟩,ti.size,ti.defs,ti.base⟩ (.refl _ _ _)) _
  ·cases hr : Region.ready .any ops ls with
   | nil => rfl
   | cons y ys =>
    have hy : y ∈ Region.ready .any ops ls := by rw [hr]; simp
    have := ready_not hsz hy
    rw [hall y (ready_iff.1 hy).1] at this; cases this
  ·rw [hall j (by omega)] at hl; cases hl
 induction fuel with
 | zero =>
  intro i ls σ H w e a hsz hqi hi hf hd hls ti h hQ
  refine fin hsz hqi hi hls (fun j hj => ?_) ti h hQ
  cases hx : ls.getD j false with
  | true => rfl
  | false =>
   exfalso
   have hil : j < ls.size := by omega
   have : ls[j]? = some ls[j] := by simp [hil]
   simp [Array.getD_eq_getD_getElem?,this] at hx
   have hm : false ∈ ls.toList := by rw [← hx]; simp
   have := List.count_pos_iff.2 hm
   omega
 | succ fuel ih =>
  intro i ls σ H w e a hsz hqi hi hf hd hls ti h hQ
  by_cases hall : ∀ j,j < ops.size → ls.getD j false = true
  ·exact fin hsz hqi hi hls hall ti h hQ
  ·obtain ⟨m,hm,hml,hmin⟩ : ∃ m,m < ops.size ∧ ls.getD m false = false ∧ ∀ j,j < m → ls.getD j false = true := by
    have key : ∀ n,n ≤ ops.size → (∀ i,i < n → ls.getD i false = true) ∨ ∃ m,m < ops.size ∧ ls.getD m false = false ∧ ∀ j,j < m → ls.getD j false = true := by
     intro n
     induction n with
     | zero => intro _; exact .inl fun i hi => absurd hi (Nat.not_lt_zero _)
     | succ n ih2 =>
      intro hn
      rcases ih2 (by omega) with h1 | h1
      ·cases hx : ls.getD n false with
       | true =>
        refine .inl fun i hi => ?_
        by_cases e : i = n
        ·subst e; exact hx
        ·exact h1 i (by omega)
       | false => exact .inr ⟨n,by omega,hx,h1⟩
      ·exact .inr h1
    rcases key ops.size (Nat.le_refl _) with h1 | h1
    ·exact absurd h1 hall
    ·exact h1
   have hrm := first_ready hb hsz hm hml hmin
   refine ⟨fun h0 => (by rw [h0] at hrm; cases hrm),fun y hy => ?_⟩
   have hyl : y < ls.size := by rw [hsz]; exact (ready_iff.1 hy).1
   have hys : y < ops.size := by omega
   have hny := ready_not hsz hy
   have ho : ops[y]? = some ops[y] := by simp [hys]
   generalize ops[y] = o at ho
   have hcnt : (ls.setIfInBounds y true).toList.count false ≤ fuel := by
    have h2 : ls.toList[y]? = some false := by
     rw [Array.getElem?_toList]
     have h1 := hny
     have : ls[y]? = some ls[y] := by simp [hyl]
     simp [Array.getD_eq_getD_getElem?,this] at h1
     rw [this,h1]
    have := count_set _ _ h2
    rw [Array.toList_setIfInBounds]
    omega
   have hstill : ∀ j,(ls.setIfInBounds y true).getD j false = false → ls.getD j false = false ∧ j ≠ y := fun j hj => by
    refine ⟨?_, ?_⟩
    ·cases hx : ls.getD j false with
     | false => rfl
     | true => rw [(set_getD hyl).2 (.inr hx)] at hj; cases hj
    ·rintro rfl; rw [(set_getD hyl).2 (.inl rfl)] at hj; cases hj
   by_cases hyq : y < q
   ·obtain ⟨d,v,hg,hdst,hed,hown,hev⟩ := ti.pend y o hyq ho hny
    have hgi : (cIns P ops o).guard = none := by simp [cIns,hg]
    have h1 : evs inv [cIns P ops o] e H = some (.norm,setD e o.dst v,H) := by
     simp only [evs,hgi,wtI,hev H,cIns_dst]
    refine TI.op hinv ti ho (hok _ _ ho) (fun t ht j o' hj hoj hl hdt => ?_) h1 (fun σ1 c w1 v1 H1 h2 hv hr hf2 hev2 => ?_)
    ·by_cases hjy : j = y
     ·subst hjy; rw [ho] at hoj; cases hoj; rw [hdst] at hdt; cases hdt; exact hown ht
     ·rcases (ti.one j y o' o hj hyq hoj ho hjy t hdt).2 with h2 | ⟨_,h2⟩
      ·exact h2 ht
      ·have := hd.ready hy h2; rw [hl] at this; cases this
    ·have h3 := hev2 (by rw [hgi]; rfl)
     rw [hev H] at h3
     simp only [Option.some.injEq,Prod.mk.injEq,Out.ret.injEq] at h3
     obtain ⟨rfl,rfl⟩ := h3
     refine ih i (by simpa using hsz) hqi hi hcnt (hd.set hyl hy) (fun j hj => ?_) ?_ h (fun a2 w2 σ2 hp hf3 => hQ _ _ _ hp (hf2.trans hf3))
     ·rw [set_getD hyl,← hls j hj]
      exact ⟨fun x => x.resolve_left (by omega),.inr⟩
     ·refine ⟨hr,ti.glr.mono hf2.le,fun t u hu hc => ?_,fun j o' hj hoj hl => ti.pend j o' hj hoj (hstill j hl).1,ti.one,by rw [put_size]; exact ti.size,by rw [put_defers]; exact ti.defs.step ti.hr hf2,Nat.le_trans ti.base hf2.size⟩
      by_cases hdt : o.dst = some t
      ·rw [hdst] at hdt; cases hdt
       rw [hed] at hu; cases hu
       have hdN : d < a.tmps.size := by
        have := hok _ _ ho
        simp only [Ins.ok,Bool.and_eq_true] at this
        rw [cIns_dst,hdst] at this
        rw [ti.size]; simpa [guardOk] using this.1
       rw [hdst,put_same hdN]; exact hv
      ·rw [put_other hdt]
       refine (ti.env t u hu (fun j o' hj hoj hl => ?_)).mono hf2.le
       by_cases hjy : j = y
       ·subst hjy; rw [ho] at hoj; cases hoj; exact hdt
       ·refine hc j o' hj hoj ?_
        cases hx : (ls.setIfInBounds y true).getD j false with
        | false => rfl
        | true =>
             rcases (set_getD hyl).1 hx with h2 | h2
             ·exact absurd h2 hjy
             ·rw [hl] at h2; cases h2
   ·have hyi : y = i := by
     have h2 : i ≤ y := by
      rcases Nat.lt_or_ge y i with h3 | h3
      ·rw [(hls y (by omega)).2 h3] at hny; cases hny
      ·exact h3
     by_cases h3 : y = i
     ·exact h3
     ·rcases hfree y o (by omega) ho i (by omega) with h4 | ⟨h4,_⟩
      ·have := hd.ready hy h4
       have := (hls i hqi).1 this; omega
      ·omega
    subst hyi
    have hdrop : (ops.toList.map (cIns P ops)).drop y = cIns P ops o :: (ops.toList.map (cIns P ops)).drop (y + 1) := by
     rw [List.drop_eq_getElem_cons (by simpa using hys)]
     congr 1
     simp only [List.getElem_map,Array.getElem_toList]
     have : ops[y]? = some ops[y] := by simp [hys]
     rw [ho] at this; cases this; rfl
    rw [hdrop] at h
    have hpd : ∀ j o',j < q → ops[j]? = some o' → ls.getD j false = false → ∃ d,o'.dst = some d ∧ o.dst ≠ some d ∧ d ∉ readsI (cIns P ops o) ∧ ∀ t ∈ readsI (cIns P ops o'),o.dst ≠ some t := by
     intro j o' hj hoj hl
     rcases hfree y o hqi ho j (by omega) with h4 | ⟨_,o2,d,h5,_,h6,_,h7,h8,h9⟩
     ·have := hd.ready hy h4; rw [hl] at this; cases this
     ·rw [hoj] at h5; cases h5; exact ⟨d,h6,h7,h8,h9⟩
    refine TI.op hinv ti ho (hok _ _ ho) (fun t ht j o' hj hoj hl hdt => ?_) h (fun σ1 c w1 v1 H1 h2 hv hr hf2 _ => ?_)
    ·obtain ⟨d,h5,_,h7,_⟩ := hpd j o' hj hoj hl
     rw [h5] at hdt; cases hdt; exact h7 ht
    ·refine ih (y + 1) (by simpa using hsz) (by omega) (by omega) hcnt (hd.set hyl hy) (fun j hj => ?_) ?_ h2 (fun a2 w2 σ2 hp hf3 => hQ _ _ _ hp (hf2.trans hf3))
     ·rw [set_getD hyl,hls j hj]; omega
     ·refine ⟨hr,ti.glr.mono hf2.le,fun t u hu hc => ?_,fun j o' hj hoj hl => ?_,ti.one,by rw [put_size]; exact ti.size,by rw [put_defers]; exact ti.defs.step ti.hr hf2,Nat.le_trans ti.base hf2.size⟩
      ·by_cases hdt : o.dst = some t
       ·rw [hdt,setD_same] at hu; cases hu
        have htN : t < a.tmps.size := by
         have := hok _ _ ho
         simp only [Ins.ok,Bool.and_eq_true] at this
         rw [cIns_dst,hdt] at this
         rw [ti.size]; simpa [guardOk] using this.1
        rw [hdt,put_same htN]; exact hv
       ·rw [setD_get hdt] at hu
        rw [put_other hdt]
        refine (ti.env t u hu (fun j o' hj hoj hl => hc j o' hj hoj ?_)).mono hf2.le
        cases hx : (ls.setIfInBounds y true).getD j false with
        | false => rfl
        | true =>
             rcases (set_getD hyl).1 hx with h3 | h3
             ·omega
             ·rw [hl] at h3; cases h3
      ·obtain ⟨d,v,hg,hdst,hed,hown,hev⟩ := ti.pend j o' hj hoj (hstill j hl).1
       obtain ⟨d',h5,h6,_,h8⟩ := hpd j o' hj hoj (hstill j hl).1
       rw [hdst] at h5; cases h5
       refine ⟨d,v,hg,hdst, ?_,hown,fun K => ?_⟩
       ·rw [setD_get h6]; exact hed
       ·rw [← hev K]
        exact ev_congr fun z hz => ea_set fun t ht => h8 t (readsI_op hz ht)
theorem quiet_ok {ro : Option Nat} {N n0 q : Nat} {ops : Array Oper} {E : Nat → Env} {G : Nat → AH} {σ0 : Ren} {w0 : World} (hinv : InvOk gl P inv) (hb : backOk ops = true) (hok : ∀ (i : Nat) (o : Oper),ops[i]? = some o → (cIns P ops o).ok gl N = true) (tx : Text gl P inv ops q N E G σ0 w0)
  (hfree : FreeOk P ops q) {Q : Exit → Act → World → Prop} {e' : Env} {H' : AH}
  (h : evs inv ((ops.toList.map (cIns P ops)).drop q) (E q) (G q) = some (.norm,e',H')) (hQ : ∀ a1 w1 σ1,St gl P σ1 H' w1 e' a1 N n0 → FrW σ0 (G 0) w0 σ1 H' w1 → Q .normal a1 w1) :
  ∀ (fuel : Nat) {ls : Array Bool} {σ : Ren} {a : Act} {w : World},DI gl P ops q N n0 E G σ0 w0 ls σ a w → (∀ i,q ≤ i → ls.getD i false = false) → ls.toList.count false ≤ fuel → wpAnyIn (Fw ro) 0 P .any ops Q fuel ls a w := by
 intro fuel
 have done : ∀ {fuel : Nat} {ls : Array Bool} {σ : Ren} {a : Act} {w : World},DI gl P ops q N n0 E G σ0 w0 ls σ a w → (∀ i,q ≤ i → ls.getD i false = false) → ls.toList.count false ≤ fuel →
   (∀ j o,j < q → ops[j]? = some o → ls.getD j false = false → ∃ d,o.guard = none ∧ o.dst = some d ∧ freeOp (cIns P ops o).op = true) → wpAnyIn (Fw ro) 0 P .any ops Q fuel ls a w := by
  intro fuel ls σ a w d hun hcnt hall
  have hσ : restr σ (G q).next = σ := by
   funext k
   unfold restr
   by_cases e : k < (G q).next
   ·rw [if_pos e]
   ·rw [if_neg e]
    cases hk : σ k with
    | none => rfl
    | some p => exact absurd (d.domlt tx hk) e
  have hr := d.hr q (Nat.le_refl _)
  rw [hσ] at hr
  have ti : TI gl P inv ops q N n0 σ (G q) w (E q) a ls := by
   refine ⟨hr,tx.glr.mono d.fr.le,fun t v hv hc => ?_,fun j o hj hoj hl => ?_,tx.qok.one,d.size,d.defs,d.base⟩
   ·have := d.env q (Nat.le_refl _) t v hv (fun j o hj hoj hor => by
     rcases hor with h1 | h1
     ·exact hc j o hj hoj h1
     ·omega)
    rwa [hσ] at this
   ·obtain ⟨d',hg,hdst,hfo⟩ := hall j o hj hoj hl
    have hgi : (cIns P ops o).guard = none := by simp [cIns,hg]
    obtain ⟨v,he,hcase⟩ := tx.step j o hj hoj
    rw [cIns_dst,hdst] at he
    refine ⟨d',v,hg,hdst, ?_,tx.qok.own j o hj hoj d' hdst, ?_⟩
    ·rw [tx.env (j + 1) q d' (by omega) (Nat.le_refl _) (fun k o' h1 h2 hok' => (tx.qok.one j k o o' hj h2 hoj hok' (by omega) d' hdst).1),he,setD_same]
    ·rcases hcase with ⟨hw,_,_⟩ | ⟨_,H1,hev,_,_⟩
     ·rw [hgi] at hw; cases hw
     ·intro K
      rw [← ev_free hfo hev K]
      refine ev_congr fun z hz => ?_
      have hr2 : ∀ t ∈ argT z,(E q).get t = (E j).get t := fun t ht => by
       have hin := readsI_op hz ht
       refine tx.env j q t (by omega) (Nat.le_refl _) (fun k o' h1 h2 hok' hdt => ?_)
       by_cases hkj : k = j
       ·subst hkj; rw [hoj] at hok'; cases hok'; exact tx.qok.own k o hj hoj t hdt hin
       ·rcases (tx.qok.one k j o' o h2 hj hok' hoj hkj t hdt).2 with h3 | ⟨h3,_⟩
        ·exact h3 hin
        ·omega
      cases z with
      | val x => rfl
      | tmp t => simp only [ea]; exact hr2 t (by simp [argT])
  exact tail_ok hinv hb hok hfree tx.qok.le fuel q d.sz (Nat.le_refl _) tx.qok.le hcnt d.down (fun j hj => ⟨fun x => (by rw [hun j hj] at x; cases x),fun x => by omega⟩) ti h (fun a1 w1 σ1 hp hf => hQ _ _ _ hp (d.fr.trans hf))
 induction fuel with
 | zero =>
  intro ls σ a w d hun hcnt
  refine done d hun hcnt (fun i o hi ho hl => ?_)
  exfalso
  have hil : i < ls.size := by rw [d.sz]; exact Nat.lt_of_lt_of_le hi tx.qok.le
  have : ls[i]? = some ls[i] := by simp [hil]
  simp [Array.getD_eq_getD_getElem?,this] at hl
  have hm : false ∈ ls.toList := by rw [← hl]; simp
  have := List.count_pos_iff.2 hm
  omega
 | succ fuel ih =>
  intro ls σ a w d hun hcnt
  by_cases hall : ∀ j o,j < q → ops[j]? = some o → ls.getD j false = false → ∃ d,o.guard = none ∧ o.dst = some d ∧ freeOp (cIns P ops o).op = true
  ·exact done d hun hcnt hall
  ·obtain ⟨m',o',hm',hom',hml',hnf⟩ : ∃ m o,m < q ∧ ops[m]? = some o ∧ ls.getD m false = false ∧ ¬ ∃ d,o.guard = none ∧ o.dst = some d ∧ freeOp (cIns P ops o).op = true := by
    refine Classical.byContradiction fun hc => hall fun j o hj ho hl => ?_
    refine Classical.byContradiction fun hn => hc ⟨j,o,hj,ho,hl,hn⟩
   obtain ⟨m,hm,hml,hmin⟩ : ∃ m,m < q ∧ ls.getD m false = false ∧ ∀ j,j < m → ls.getD j false = true := by
    have key : ∀ n,n ≤ q → (∀ i,i < n → ls.getD i false = true) ∨ ∃ m,m < q ∧ ls.getD m false = false ∧ ∀ j,j < m → ls.getD j false = true := by
     intro n
     induction n with
     | zero => intro _; exact .inl fun i hi => absurd hi (Nat.not_lt_zero _)
     | succ n ih2 =>
      intro hn
      rcases ih2 (by omega) with h1 | h1
      ·cases hx : ls.getD n false with
       | true =>
        refine .inl fun i hi => ?_
        by_cases e : i = n
        ·subst e; exact hx
        ·exact h1 i (by omega)
       | false => exact .inr ⟨n,by omega,hx,h1⟩
      ·exact .inr h1
    rcases key q (Nat.le_refl _) with h1 | h1
    ·rw [h1 m' hm'] at hml'; cases hml'
    ·exact h1
   have hrm := first_ready hb d.sz (Nat.lt_of_lt_of_le hm tx.qok.le) hml hmin
   refine ⟨fun h0 => (by rw [h0] at hrm; cases hrm),fun i hi => ?_⟩
   have hiq : i < q := by
    rcases Nat.lt_or_ge i q with h1 | h1
    ·exact h1
    ·have his := (ready_iff.1 hi).1
     rcases hfree i ops[i] h1 (by simp [his]) m' (by omega) with h2 | ⟨_,o2,d2,h3,h4,h5,h6,_⟩
     ·have := d.down.ready hi h2
      rw [hml'] at this; cases this
     ·rw [hom'] at h3; cases h3; exact absurd ⟨d2,h4,h5,h6⟩ hnf
   have hil : i < ls.size := by rw [d.sz]; exact (ready_iff.1 hi).1
   refine d.step tx hinv hiq hi (fun σ' a' w' d' => ih d' (fun k hk => ?_) ?_)
   ·cases hx : (ls.setIfInBounds i true).getD k false with
    | false => rfl
    | true =>
     rcases (set_getD hil).1 hx with h1 | h1
     ·omega
     ·rw [hun k hk] at h1; cases h1
   ·have h1 := ready_not d.sz hi
    have h2 : ls.toList[i]? = some false := by
     rw [Array.getElem?_toList]
     have : ls[i]? = some ls[i] := by simp [hil]
     simp [Array.getD_eq_getD_getElem?,this] at h1
     rw [this,h1]
    have := count_set _ _ h2
    rw [Array.toList_setIfInBounds]
    omega
theorem HR.wfn {σ : Ren} {H : AH} {hp : Array Obj} (h : HR gl P σ H hp) : WFn H := ⟨h.lt,h.fam,Nat.le_refl _⟩
theorem draws_ok (hm : P.follows .mixedOrders = true) (hinv : InvOk gl P inv) (hk : InvK inv) : DrawsOk gl P inv := by
 intro σ H w e a N n0 ro id ops x e' H' n hok st h
 simp only [cCode,if_true] at hok h
 split at h
 case isFalse => cases h
 rename_i hc
 rw [if_pos hc] at hok
 simp only [Bool.and_eq_true] at hc
 obtain ⟨⟨hqo,hb⟩,hfr⟩ := hc
 have hq : cutQ ops (ops.toList.map (cIns P ops)) (Region.before ops) ≤ ops.size := by
  simp only [cutQ]
  split
  ·exact tail_le (Region.before ops) ops.size
  ·refine Nat.le_trans (List.takeWhile_sublist _).length_le ?_
   simp
 generalize cutQ ops (ops.toList.map (cIns P ops)) (Region.before ops) = q at *
 have hfree := freeOk_spec (P := P) hfr
 have qok := quietOk_spec (P := P) hq hqo
 simp only [run] at h
 cases hev : evq inv ((ops.toList.map (cIns P ops)).take q) e H with
 | none => rw [hev] at h; cases h
 | some r =>
  obtain ⟨e1,H1⟩ := r
  rw [hev] at h
  simp only at h
  split at h
  case h_2 => cases h
  rename_i et Ht htail
  obtain ⟨rfl,rfl,rfl⟩ : Ex.norm = x ∧ et = e' ∧ Ht = H' := by simpa using h
  replace h := htail
  obtain ⟨E,G,rfl,rfl,hEq,hGq,hsteps⟩ := evq_states _ hev
  have hlen : ((ops.toList.map (cIns P ops)).take q).length = q := by simp; omega
  rw [hlen] at hEq hGq
  subst hEq; subst hGq
  have hget : ∀ (i : Nat) (o : Oper),i < q → ops[i]? = some o → ((ops.toList.map (cIns P ops)).take q)[i]? = some (cIns P ops o) := by
   intro i o hi ho
   rw [List.getElem?_take,if_pos hi,List.getElem?_map,Array.getElem?_toList,ho]; rfl
  have hget' : ∀ (i : Nat) (y : Ins),((ops.toList.map (cIns P ops)).take q)[i]? = some y → ∃ o : Oper,ops[i]? = some o ∧ y = cIns P ops o := by
   intro i y hy
   rw [List.getElem?_take] at hy
   split at hy
   ·rw [List.getElem?_map,Array.getElem?_toList] at hy
    cases ho : ops[i]? with
    | none => rw [ho] at hy; cases hy
    | some o => rw [ho] at hy; simp at hy; exact ⟨o,rfl,hy.symm⟩
   ·cases hy
  have hall : ∀ (i : Nat) (o : Oper),ops[i]? = some o → (cIns P ops o).ok gl N = true := by
   simp only [ICode.ok,Bool.and_eq_true] at hok
   intro i o ho
   have hmem : cIns P ops o ∈ (ops.toList.map (cIns P ops)).take q ++ (ops.toList.map (cIns P ops)).drop q := by
    rw [List.take_append_drop]
    exact List.mem_map.2 ⟨o,by rw [List.mem_iff_getElem?]; exact ⟨i,by rw [Array.getElem?_toList]; exact ho⟩,rfl⟩
   rcases List.mem_append.1 hmem with h1 | h1
   ·exact List.all_eq_true.1 hok.1 _ h1
   ·exact List.all_eq_true.1 hok.2 _ h1
  have w0 : WFn (G 0) := st.cx.hr.wfn
  have tx : Text gl P inv ops q N E G σ w := by
   refine ⟨qok,fun i o hi ho => hsteps i _ (hget i o hi ho),fun i hi => states_wf hsteps hk w0 i (by omega),fun i j hij hj => states_same hsteps hk w0 hij (by omega),fun i j t hij hj hd => ?_,fun i hi => ?_,fun i o _ ho => hall i o ho,st.cx.hgl,st.cx.hr⟩
   ·refine states_env hsteps hij (by omega) (fun k y h1 h2 hy => ?_)
    obtain ⟨o,ho,rfl⟩ := hget' k y hy
    rw [cIns_dst]; exact hd k o h1 h2 ho
   ·obtain ⟨y,hy⟩ : ∃ y,((ops.toList.map (cIns P ops)).take q)[i]? = some y := ⟨_,List.getElem?_eq_getElem (by omega)⟩
    exact ((hsteps i y hy).wf hk (states_wf hsteps hk w0 i (by omega))).2.2
  have hσ : ∀ m,m ≤ q → restr σ (G m).next = σ := fun m hm => by
   funext k
   unfold restr
   by_cases e : k < (G m).next
   ·rw [if_pos e]
   ·rw [if_neg e]
    cases hk : σ k with
    | none => rfl
    | some p =>
     have := (st.cx.hr.sig k p hk).1
     have := (tx.same 0 m (Nat.zero_le _) hm).1
     omega
  have hrep : ∀ i,(Array.replicate ops.size false).getD i false = false := fun i => by
   simp only [Array.getD_eq_getD_getElem?,Array.getElem?_replicate]; split <;> rfl
  refine wpIn_region_any hm ?_
  refine quiet_ok (w0 := w) hinv hb hall tx hfree h (fun a1 w1 σ1 hp hf => ⟨σ1,trivial,hp,hf⟩) ops.size (σ := σ) ?_ (fun i _ => hrep i) (by simp)
  refine ⟨by simp,fun i j hi => (by rw [hrep] at hi; cases hi),fun m hm => ?_,fun k p hk => .inl (st.cx.hr.sig k p hk).1,fun j o hj hl => (by rw [hrep] at hl; cases hl),fun m hm t v hv hc => ?_,st.size,st.defs,st.base, ?_⟩
  ·rw [hσ m hm]; exact st.cx.hr.ahead (tx.wf m hm).lt (tx.wf m hm).fam (tx.same 0 m (Nat.zero_le _) hm)
  ·rw [hσ m hm]
   rw [tx.env 0 m t (Nat.zero_le _) hm (fun k o h1 h2 ho => hc k o (by omega) ho (.inl (hrep k)))] at hv
   exact st.cx.he t v hv
  ·exact .of (Fr.ahead st.cx.hr (tx.same 0 q (Nat.zero_le _) (Nat.le_refl _)))
theorem den_sound {F : FuncId → Option IFunc} {E X : Ext} (hm : P.follows .mixedOrders = true) (hF : FOk gl P F) (hE : EOk gl P E) (hX : XOk gl P X) (hEK : ExtK E) (hXK : ExtK X) (n : Nat) : InvOk gl P (den F E X n) :=
 den_ok hF hE hX (fun n h => draws_ok hm h (den_K hEK hXK n)) n
#print axioms den_sound
end Go.Den
/- Den, part Z: what a run of the executor makes true. -/
namespace Go.Den
def Ev (p : Nat → Prop) : Prop := ∃ n,∀ m,n ≤ m → p m
theorem Ev.all {p : Nat → Prop} (h : ∀ m,p m) : Ev p := ⟨0,fun m _ => h m⟩
theorem Ev.mono {p q : Nat → Prop} (h : Ev p) (hh : ∀ m,p m → q m) : Ev q := let ⟨n,x⟩ := h; ⟨n,fun m hm => hh m (x m hm)⟩
theorem Ev.and {p q : Nat → Prop} (h : Ev p) (h' : Ev q) : Ev fun m => p m ∧ q m := let ⟨n,x⟩ := h; let ⟨k,y⟩ := h'; ⟨max n k,fun m hm => ⟨x m (by omega),y m (by omega)⟩⟩
theorem Ev.and2 {p q r : Nat → Prop} (h : Ev p) (h' : Ev q) (hh : ∀ m,p m → q m → r m) : Ev r := (h.and h').mono fun m x => hh m x.1 x.2
variable {F : FuncId → Option IFunc} {E X : Ext}
section
variable (F E X)
def wpC (c : ICode) (Q : Ex → Env → AH → Prop) (e : Env) (H : AH) : Prop := ∃ x e' H',Ev (fun m => run (den F E X m) m c e H = some (x,e',H')) ∧ Q x e' H'
def wpI (op : IOp) (K : Value → AH → Prop) (e : Env) (H : AH) : Prop := ∃ v H',Ev (fun m => ev (den F E X m) e H op = some (.ret v,H')) ∧ K v H'
def wpO : List Ins → (Env → AH → Prop) → Env → AH → Prop
 | [],Q,e,H => Q e H
 | i :: l,Q,e,H => ∃ b,wtI e i.guard = some b ∧ (if b = true then wpI F E X i.op (fun v H' => wpO l Q (setD e i.dst v) H') e H else wpO l Q (setD e i.dst undefV) H)
def wpQ : List Ins → (Env → AH → Prop) → Env → AH → Prop
 | [],Q,e,H => Q e H
 | i :: l,Q,e,H => ∃ b,wtI e i.guard = some b ∧ (if b = true then wpI F E X i.op (fun v H' => H.next ≤ H'.low ∧ wpQ l Q (setD e i.dst v) ⟨H'.objs,H'.next,H.low⟩) e ⟨H.objs,H.next,H.next⟩ else wpQ l Q (setD e i.dst undefV) H)
def wpF (fv : Value) (args : List Value) (K : Value → AH → Prop) (H : AH) : Prop := ∃ v H',Ev (fun m => den F E X m fv args H = some (.ret v,H')) ∧ K v H'
end
theorem wpC.mono {c : ICode} {Q Q' : Ex → Env → AH → Prop} {e : Env} {H : AH} (h : wpC F E X c Q e H) (hq : ∀ x e H,Q x e H → Q' x e H) : wpC F E X c Q' e H := let ⟨x,e',H',a,b⟩ := h; ⟨x,e',H',a,hq _ _ _ b⟩
theorem wpI.mono {op : IOp} {K K' : Value → AH → Prop} {e : Env} {H : AH} (h : wpI F E X op K e H) (hk : ∀ v H,K v H → K' v H) : wpI F E X op K' e H := let ⟨v,H',a,b⟩ := h; ⟨v,H',a,hk _ _ b⟩
theorem wpF.mono {fv : Value} {args : List Value} {K K' : Value → AH → Prop} {H : AH} (h : wpF F E X fv args K H) (hk : ∀ v H,K v H → K' v H) : wpF F E X fv args K' H := let ⟨v,H',a,b⟩ := h; ⟨v,H',a,hk _ _ b⟩
theorem wpI_call {f : Arg} {as : List Arg} {K : Value → AH → Prop} {e : Env} {H : AH} {fv : Value} {args : List Value} (h1 : ea e f = some fv) (h2 : eas e as = some args) (h : wpF F E X fv args K H) : wpI F E X (.call f as) K e H := by
 obtain ⟨v,H',a,b⟩ := h
 exact ⟨v,H',a.mono fun m hm => by simp only [ev,h1,h2]; exact hm,b⟩
theorem wpO_evs : ∀ (l : List Ins) {Q : Env → AH → Prop} {e : Env} {H : AH},wpO F E X l Q e H → ∃ e' H',Ev (fun m => evs (den F E X m) l e H = some (.norm,e',H')) ∧ Q e' H' := by
 intro l
 induction l with
 | nil => intro Q e H h; exact ⟨e,H,.all fun _ => rfl,h⟩
 | cons i l ih =>
  intro Q e H h
  obtain ⟨b,hb,h⟩ := h
  cases b with
  | true =>
   rw [if_pos rfl] at h
   obtain ⟨v,H1,h1,h2⟩ := h
   obtain ⟨e',H',h3,h4⟩ := ih h2
   exact ⟨e',H',h1.and2 h3 fun m x y => by simp only [evs,hb,x]; exact y,h4⟩
  | false =>
   rw [if_neg (by simp)] at h
   obtain ⟨e',H',h3,h4⟩ := ih h
   exact ⟨e',H',h3.mono fun m y => by simp only [evs,hb]; exact y,h4⟩
theorem wpQ_evq : ∀ (l : List Ins) {Q : Env → AH → Prop} {e : Env} {H : AH},wpQ F E X l Q e H → ∃ e' H',Ev (fun m => evq (den F E X m) l e H = some (e',H')) ∧ Q e' H' := by
 intro l
 induction l with
 | nil => intro Q e H h; exact ⟨e,H,.all fun _ => rfl,h⟩
 | cons i l ih =>
  intro Q e H h
  obtain ⟨b,hb,h⟩ := h
  cases b with
  | true =>
   rw [if_pos rfl] at h
   obtain ⟨v,H1,h1,hl,h2⟩ := h
   obtain ⟨e',H',h3,h4⟩ := ih h2
   exact ⟨e',H',h1.and2 h3 fun m x y => by simp only [evq,hb,x,Nat.ble_eq_true_of_le hl,cond_true]; exact y,h4⟩
  | false =>
   rw [if_neg (by simp)] at h
   obtain ⟨e',H',h3,h4⟩ := ih h
   exact ⟨e',H',h3.mono fun m y => by simp only [evq,hb]; exact y,h4⟩
theorem wpC_skip {Q : Ex → Env → AH → Prop} {e : Env} {H : AH} (h : Q .norm e H) : wpC F E X .skip Q e H := ⟨_,_,_,.all fun _ => rfl,h⟩
theorem wpC_exit {id : Nat} {Q : Ex → Env → AH → Prop} {e : Env} {H : AH} (h : Q (.exit id) e H) : wpC F E X (.exit id) Q e H := ⟨_,_,_,.all fun _ => rfl,h⟩
theorem wpC_ret {Q : Ex → Env → AH → Prop} {e : Env} {H : AH} (h : Q .ret e H) : wpC F E X .ret Q e H := ⟨_,_,_,.all fun _ => rfl,h⟩
theorem wpC_ops {l : List Ins} {Q : Ex → Env → AH → Prop} {e : Env} {H : AH} (h : wpO F E X l (fun e' H' => Q .norm e' H') e H) : wpC F E X (.ops l) Q e H := by
 obtain ⟨e',H',h1,h2⟩ := wpO_evs l h
 exact ⟨_,e',H',h1,h2⟩
theorem wpC_draw {q t : List Ins} {Q : Ex → Env → AH → Prop} {e : Env} {H : AH} (h : wpQ F E X q (fun e' H' => wpO F E X t (fun e' H' => Q .norm e' H') e' H') e H) : wpC F E X (.draw q t) Q e H := by
 obtain ⟨e1,H1,h1,h2⟩ := wpQ_evq q h
 obtain ⟨e',H',h3,h4⟩ := wpO_evs t h2
 exact ⟨_,e',H',h1.and2 h3 fun m x y => by simp only [run,x,y],h4⟩
def nextC (k : Env → AH → Prop) (Q : Ex → Env → AH → Prop) : Ex → Env → AH → Prop
 | .norm,e,H => k e H
 | x,e,H => Q x e H
theorem wpC_seq {a b : ICode} {Q : Ex → Env → AH → Prop} {e : Env} {H : AH} (h : wpC F E X a (nextC (wpC F E X b Q) Q) e H) : wpC F E X (.seq a b) Q e H := by
 obtain ⟨x,e1,H1,h1,h2⟩ := h
 cases x with
 | norm =>
  obtain ⟨y,e',H',h3,h4⟩ := h2
  exact ⟨y,e',H',h1.and2 h3 fun m x y => by simp only [run,x]; exact y,h4⟩
 | _ => exact ⟨_,e1,H1,h1.mono fun m x => by simp only [run,x],h2⟩
theorem wpC_cond {c : Arg} {a b : ICode} {Q : Ex → Env → AH → Prop} {e : Env} {H : AH} {t : Bool} (hc : ea e c = some (.bool t)) (h : if t = true then wpC F E X a Q e H else wpC F E X b Q e H) : wpC F E X (.cond c a b) Q e H := by
 cases t with
 | true => rw [if_pos rfl] at h; obtain ⟨x,e',H',h1,h2⟩ := h; exact ⟨x,e',H',h1.mono fun m y => by simp only [run,hc,cond_true]; exact y,h2⟩
 | false => rw [if_neg (by simp)] at h; obtain ⟨x,e',H',h1,h2⟩ := h; exact ⟨x,e',H',h1.mono fun m y => by simp only [run,hc,cond_false]; exact y,h2⟩
def outC (id : Nat) (Q : Ex → Env → AH → Prop) : Ex → Env → AH → Prop
 | .exit j,e,H => if j = id then Q .norm e H else Q (.exit j) e H
 | x,e,H => Q x e H
theorem wpC_block {id : Nat} {c : ICode} {Q : Ex → Env → AH → Prop} {e : Env} {H : AH} (h : wpC F E X c (outC id Q) e H) : wpC F E X (.block id c) Q e H := by
 obtain ⟨x,e',H',h1,h2⟩ := h
 cases x with
 | exit j =>
  simp only [outC] at h2
  by_cases hj : j = id
  ·rw [if_pos hj] at h2
   exact ⟨_,e',H',h1.mono fun m y => by simp only [run,y,hj,Nat.beq_refl,cond_true],h2⟩
  ·rw [if_neg hj] at h2
   exact ⟨_,e',H',h1.mono fun m y => by
    have : Nat.beq j id = false := by cases hb : Nat.beq j id <;> first | rfl | exact absurd (Nat.eq_of_beq_eq_true hb) hj
    simp only [run,y,this,cond_false],h2⟩
 | _ => exact ⟨_,e',H',h1.mono fun m y => by simp only [run,y],h2⟩
theorem wpC_loop {c : ICode} {Q : Ex → Env → AH → Prop} (J : Nat → Env → AH → Prop) (round : ∀ k e H,J k e H → wpC F E X c (nextC (fun e' H' => ∃ k',k' < k ∧ J k' e' H') Q) e H) {k : Nat} {e : Env} {H : AH} (h : J k e H) : wpC F E X (.loop c) Q e H := by
 have key : ∀ k e H,J k e H → ∃ x e' H',(∃ n,Ev fun m => ∀ j,n ≤ j → iter (run (den F E X m) m c) j e H = some (x,e',H')) ∧ Q x e' H' := by
  intro k
  induction k using Nat.strongRecOn with
  | _ k ih =>
   intro e H h
   obtain ⟨x,e1,H1,h1,h2⟩ := round k e H h
   cases x with
   | norm =>
    obtain ⟨k',hk,hj⟩ := h2
    obtain ⟨x,e',H',⟨n,h3⟩,h4⟩ := ih k' hk e1 H1 hj
    refine ⟨x,e',H',⟨n + 1,h1.and2 h3 fun m a b j hj => ?_⟩,h4⟩
    cases j with
    | zero => omega
    | succ j => simp only [iter,a]; exact b j (by omega)
   | _ =>
    refine ⟨_,e1,H1,⟨1,h1.mono fun m a j hj => ?_⟩,h2⟩
    cases j with
    | zero => omega
    | succ j => simp only [iter,a]
 obtain ⟨x,e',H',⟨n,k0,h1⟩,h2⟩ := key k e H h
 exact ⟨x,e',H',⟨max n k0,fun m hm => h1 m (by omega) m (by omega)⟩,h2⟩
theorem wpF_code {f : FuncId} {fn : IFunc} {first captured : Array Value} {args : List Value} {K : Value → AH → Prop} {H : AH} (hE : E f = none) (hX : X f = none) (hF : F f = some fn)
  (h : wpC F E X fn.body (fun x e H' => (x = .norm ∨ x = .ret) ∧ ∃ v,resOut e H' fn.results = some v ∧ K v H') (T.ofFrom 0 (first.toList ++ args ++ captured.toList)) H) : wpF F E X (.func (.func f) first captured) args K H := by
 obtain ⟨x,e,H',⟨n,h1⟩,hx,v,h2,h3⟩ := h
 refine ⟨v,H',⟨n + 1,fun m hm => ?_⟩,h3⟩
 cases m with
 | zero => omega
 | succ m =>
  have := h1 m (by omega)
  simp only [den,hE,hX,hF,this]
  rcases hx with rfl | rfl <;> simp only [h2]
theorem wpF_ext {f : FuncId} {g : List Value → AH → Option (Out × AH)} {first captured : Array Value} {args : List Value} {K : Value → AH → Prop} {H H' : AH} {v : Value} (hE : E f = some g) (h : g (first.toList ++ args ++ captured.toList) H = some (.ret v,H')) (hk : K v H') : wpF F E X (.func (.func f) first captured) args K H :=
 ⟨v,H',⟨1,fun m hm => by cases m with
  | zero => omega
  | succ m => simp only [den,hE]; exact h⟩,hk⟩
theorem wpF_yield {l : Nat} {captured : Array Value} {args : List Value} {K : Value → AH → Prop} {H : AH} {e e1 : Env} {ps : List Nat} {as bd : ICode} {pend : Option Ex} (hg : H.get l = some (.loop e ps as bd 0 pend)) (hs : setAll e ps args = some e1)
  (h : wpC F E X as (fun x e2 H2 => x = .norm ∧ ∃ e' ps' a' b' pend',H2.get l = some (.loop e' ps' a' b' 0 pend') ∧
   wpC F E X bd (fun x e3 H3 => ∃ e' ps' a' b' st' pend',H3.get l = some (.loop e' ps' a' b' st' pend') ∧
    (match x with
    | .norm => K (.bool true) (H3.put l (.loop e' ps' a' b' 0 none))
    | .pan _ => False
    | x => K (.bool false) (H3.put l (.loop e' ps' a' b' 2 (some x))))) e2 (H2.put l (.loop e' ps' a' b' 1 pend'))) e1 H) :
  wpF F E X (.func (.yield l) #[] captured) args K H := by
 obtain ⟨x,e2,H2,⟨n,h1⟩,rfl,e',ps',a',b',pend',hg2,y,e3,H3,⟨n2,h2⟩,e'',ps'',a'',b'',st'',pend'',hg3,h3⟩ := h
 have go : ∀ m,n + n2 + 1 ≤ m → den F E X m (.func (.yield l) #[] captured) args H = (match y with
   | .norm => some (.ret (.bool true),H3.put l (.loop e'' ps'' a'' b'' 0 none))
   | .pan _ => none
   | x => some (.ret (.bool false),H3.put l (.loop e'' ps'' a'' b'' 2 (some x)))) := by
  intro m hm
  cases m with
  | zero => omega
  | succ m =>
   have q1 := h1 m (by omega)
   have q2 := h2 m (by omega)
   simp only [den,hg,hs,q1,hg2,q2]
   cases y <;> simp [hg3]
 cases y with
 | norm => exact ⟨_,_,⟨n + n2 + 1,go⟩,h3⟩
 | pan v => exact h3.elim
 | exit i => exact ⟨_,_,⟨n + n2 + 1,go⟩,h3⟩
 | ret => exact ⟨_,_,⟨n + n2 + 1,go⟩,h3⟩
theorem wpC_rangeFunc {f : Arg} {ps : List Nat} {as bd : ICode} {Q : Ex → Env → AH → Prop} {e : Env} {H : AH} {g : FuncId} {b c : Array Value} (hf : ea e f = some (.func (.func g) b c))
  (h : wpF F E X (.func (.func g) b c) [.func (.yield H.next) #[] #[]] (fun _ H' => ∃ e' ps' a' b' st pend,H'.get H.next = some (.loop e' ps' a' b' st pend) ∧ st ≠ 1 ∧ Q (pend.getD .norm) e (H'.put H.next (.loop e' ps' a' b' 3 pend)))
   (H.push (.loop e ps as bd 0 none))) : wpC F E X (.rangeFunc f ps as bd) Q e H := by
 obtain ⟨v,H1,⟨n,h1⟩,e',ps',a',b',st,pend,hg,hst,hq⟩ := h
 refine ⟨_,_,_,⟨n,fun m hm => ?_⟩,hq⟩
 have q1 := h1 m hm
 have : Nat.beq st 1 = false := by cases hb : Nat.beq st 1 <;> first | rfl | exact absurd (Nat.eq_of_beq_eq_true hb) hst
 simp only [run,hf,q1,hg,this,cond_false]
end Go.Den
/- Den, part ZA: operations in a row, for simp. -/
namespace Go.Den
variable {F : FuncId → Option IFunc} {E X : Ext}
def noInv : Inv := fun _ _ _ => none
def retK (K : Value → AH → Prop) : Option (Out × AH) → Prop
 | some (.ret v,H') => K v H'
 | _ => False
section
variable (F E X)
def wpI' (op : IOp) (K : Value → AH → Prop) (e : Env) (H : AH) : Prop :=
 match op with
 | .call f as => ∃ fv,ea e f = some fv ∧ ∃ args,eas e as = some args ∧ wpF F E X fv args K H
 | op => retK K (ev noInv e H op)
def wpO' : List Ins → (Env → AH → Prop) → Env → AH → Prop
 | [],Q,e,H => Q e H
 | i :: l,Q,e,H => if wtI e i.guard = some true then wpI' F E X i.op (fun v H' => wpO' l Q (setD e i.dst v) H') e H else if wtI e i.guard = some false then wpO' l Q (setD e i.dst undefV) H else False
def wpQ' : List Ins → (Env → AH → Prop) → Env → AH → Prop
 | [],Q,e,H => Q e H
 | i :: l,Q,e,H => if wtI e i.guard = some true then wpI' F E X i.op (fun v H' => H.next ≤ H'.low ∧ wpQ' l Q (setD e i.dst v) ⟨H'.objs,H'.next,H.low⟩) e ⟨H.objs,H.next,H.next⟩ else if wtI e i.guard = some false then wpQ' l Q (setD e i.dst undefV) H else False
end
theorem wpQ_to : ∀ (l : List Ins) {Q Q' : Env → AH → Prop} {e : Env} {H : AH},(∀ e H,Q e H → Q' e H) → wpQ F E X l Q e H → wpQ F E X l Q' e H := by
 intro l
 induction l with
 | nil => intro Q Q' e H hq h; exact hq _ _ h
 | cons i l ih =>
  intro Q Q' e H hq h
  obtain ⟨b,hb,h⟩ := h
  refine ⟨b,hb, ?_⟩
  cases b with
  | true => exact wpI.mono h (fun _ _ h => ⟨h.1,ih hq h.2⟩)
  | false => exact ih hq h
@[congr] theorem retK_congr {K : Value → AH → Prop} {x y : Option (Out × AH)} (h : x = y) : retK K x = retK K y := by rw [h]
@[congr] theorem wpF_congr {fv fv' : Value} {as as' : List Value} {K : Value → AH → Prop} {H H' : AH} (h1 : fv = fv') (h2 : as = as') (h3 : H = H') : wpF F E X fv as K H = wpF F E X fv' as' K H' := by rw [h1,h2,h3]
theorem resOut_tmp {t : Nat} {e : Env} {H : AH} : resOut e H [.tmp t] = e.get t := by
 cases h : e.get t <;> simp [resOut,resVs,resV,h]
theorem resOut_nil {e : Env} {H : AH} : resOut e H [] = some (.tuple #[]) := rfl
@[simp] theorem ble_dec (a b : Nat) : Nat.ble a b = decide (a ≤ b) := by
 by_cases h : a ≤ b
 ·rw [Nat.ble_eq_true_of_le h]; simp [h]
 ·cases hb : Nat.ble a b with
  | true => exact absurd (Nat.le_of_ble_eq_true hb) h
  | false => simp [h]
@[simp] theorem beq_dec (a b : Nat) : Nat.beq a b = decide (a = b) := by
 by_cases h : a = b
 ·subst h; simp
 ·cases hb : Nat.beq a b with
  | true => exact absurd (Nat.eq_of_beq_eq_true hb) h
  | false => simp [h]
theorem wrap64 {n : Int} (h1 : -9223372036854775808 ≤ n) (h2 : n ≤ 9223372036854775807) : IntKind.wrap .i64 n = n := by
 rw [IntKind.wrap_i64]; omega
attribute [simp] wpO' wpQ' wpI' retK ok1 okO wtI ev ea eas eao setD nextC outC T.get_set T.ofFrom resOut_tmp resOut_nil arithV arithInt mkInt unV boundsV
end Go.Den
/- Den, part ZB: rows in abstract heaps: which ones are whose. -/
namespace Go.Den
structure Only (H H' : AH) (S : Nat → Prop) : Prop where
 next : H.next ≤ H'.next
 get : ∀ j,j < H.next → ¬ S j → H'.get j = H.get j
 low : ∀ b,b ≤ H.low → b ≤ H.next → (∀ j,S j → b ≤ j) → b ≤ H'.low
theorem Only.refl (H : AH) (S : Nat → Prop) : Only H H S := ⟨Nat.le_refl _,fun _ _ _ => rfl,fun _ h _ _ => h⟩
theorem Only.trans {H H1 H2 : AH} {S S' : Nat → Prop} (h : Only H H1 S) (h' : Only H1 H2 S') (hs : ∀ j,S' j → S j ∨ H.next ≤ j) : Only H H2 S := by
 refine ⟨Nat.le_trans h.next h'.next,fun j hj hn => ?_,fun b h1 h2 h3 => h'.low b (h.low b h1 h2 h3) (Nat.le_trans h2 h.next) fun j hj => ?_⟩
 ·rw [h'.get j (Nat.lt_of_lt_of_le hj h.next) (fun x => (hs j x).elim hn (fun y => by omega)),h.get j hj hn]
 ·rcases hs j hj with x | x
  ·exact h3 j x
  ·omega
theorem Only.mono {H H' : AH} {S S' : Nat → Prop} (h : Only H H' S) (hs : ∀ j,S j → S' j) : Only H H' S' := ⟨h.next,fun j hj hn => h.get j hj (fun x => hn (hs j x)),fun b h1 h2 h3 => h.low b h1 h2 (fun j hj => h3 j (hs j hj))⟩
theorem Only.push (H : AH) (o : AObj) (S : Nat → Prop) : Only H (H.push o) S := ⟨Nat.le_succ _,fun j hj _ => by rw [AH.gpu,if_neg (by omega)],fun _ h _ _ => h⟩
theorem low_ge {H : AH} {k b : Nat} {o : AObj} (h1 : b ≤ H.low) (h2 : b ≤ k) : b ≤ (H.put k o).low := by
 show b ≤ (bif Nat.ble H.low k then H.low else k)
 cases Nat.ble H.low k <;> simp only [cond_true,cond_false] <;> assumption
theorem Only.put (H : AH) (k : Nat) (o : AObj) : Only H (H.put k o) (· = k) := ⟨Nat.le_refl _,fun j _ hn => by rw [AH.gpt,if_neg hn],fun _ h1 _ h3 => low_ge h1 (h3 k rfl)⟩
theorem Only.put' (H : AH) (k : Nat) (o : AObj) (S : Nat → Prop) (hs : S k) : Only H (H.put' k o) S := ⟨Nat.le_refl _,fun j _ hn => by rw [AH.gtp,if_neg (fun h => hn (by rw [h]; exact hs))],fun _ h _ _ => h⟩
structure RowAt (H : AH) (k r : Nat) (cs : List Value) : Prop where
 lt : k < H.next
 le : r ≤ k
 at_ : ∃ t ro ex thr tip,H.get k = some (.cells cs t ro ex r thr tip)
 root : ∃ cs' t ro ex thr tip,H.get r = some (.cells cs' t ro ex r thr tip) ∧ thr ≤ k
theorem RowAt.row {H : AH} {k r : Nat} {cs : List Value} (h : RowAt H k r cs) : H.row k = some cs := by
 obtain ⟨t,ro,ex,thr,tip,h1⟩ := h.at_
 obtain ⟨cs',t',ro',ex',thr',tip',h2,h3⟩ := h.root
 simp [AH.row,h1,AH.alive,AH.fam,h2,h3]
theorem RowAt.only {H H' : AH} {k r : Nat} {cs : List Value} {S : Nat → Prop} (h : RowAt H k r cs) (ho : Only H H' S) (hk : ¬ S k) (hr : ¬ S r) : RowAt H' k r cs := by
 have := h.lt
 have := h.le
 exact ⟨Nat.lt_of_lt_of_le h.lt ho.next,h.le,by rw [ho.get k h.lt hk]; exact h.at_,by rw [ho.get r (by omega) hr]; exact h.root⟩
def bxT (t : TypeId) : Bool := t == 141
structure Own (H : AH) (k r : Nat) (t : TypeId) (cs : List Value) : Prop where
 lt : k < H.next
 own : (r = k ∧ ∃ ex thr,thr ≤ k ∧ H.get k = some (.cells cs t false ex k thr k)) ∨
  (r < k ∧ (∃ thr tip,H.get k = some (.cells cs t false false r thr tip)) ∧ ∃ rcs rt rro rthr,rthr ≤ k ∧ H.get r = some (.cells rcs rt rro false r rthr k))
 ext : bxT t = true → ∃ thr tip,H.get k = some (.cells cs t false true k thr tip)
theorem Own.rowAt {H : AH} {k r : Nat} {t : TypeId} {cs : List Value} (h : Own H k r t cs) : RowAt H k r cs := by
 rcases h.own with ⟨rfl,ex,thr,h1,h2⟩ | ⟨h1,⟨thr,tip,h2⟩,rcs,rt,rro,rthr,h3,h4⟩
 ·exact ⟨h.lt,Nat.le_refl _,⟨_,_,_,_,_,h2⟩,⟨_,_,_,_,_,_,h2,h1⟩⟩
 ·exact ⟨h.lt,by omega,⟨_,_,_,_,_,h2⟩,⟨_,_,_,_,_,_,h4,h3⟩⟩
theorem Own.only {H H' : AH} {k r : Nat} {t : TypeId} {cs : List Value} {S : Nat → Prop} (h : Own H k r t cs) (ho : Only H H' S) (hk : ¬ S k) (hr : ¬ S r) : Own H' k r t cs := by
 have := h.lt
 have hle := h.rowAt.le
 exact ⟨Nat.lt_of_lt_of_le h.lt ho.next,by rw [ho.get k h.lt hk,ho.get r (by omega) hr]; exact h.own,fun hb => by rw [ho.get k h.lt hk]; exact h.ext hb⟩
theorem Own.new (H : AH) (t : TypeId) (cs : List Value) (ex : Bool) (hx : bxT t = true → ex = true) : Own (H.push (.cells cs t false ex H.next H.next H.next)) H.next H.next t cs :=
 ⟨Nat.lt_succ_self _,.inl ⟨rfl,ex,H.next,Nat.le_refl _,by rw [AH.gpu,if_pos rfl]⟩,fun hb => ⟨H.next,H.next,by rw [AH.gpu,if_pos rfl,hx hb]⟩⟩
theorem Own.write {H : AH} {k r : Nat} {t : TypeId} {cs : List Value} (h : Own H k r t cs) (cs' : List Value) : ∃ H',H.write k cs' = some H' ∧ Own H' k r t cs' ∧ Only H H' (fun j => j = r ∨ j = k) ∧ H'.next = H.next := by
 rcases h.own with ⟨rfl,ex,thr,h1,h2⟩ | ⟨h1,⟨thr,tip,h2⟩,rcs,rt,rro,rthr,h3,h4⟩
 ·refine ⟨H.put r (.cells cs' t false ex r r r), ?_,⟨h.lt,.inl ⟨rfl,ex,r,Nat.le_refl _,by rw [AH.gpt,if_pos rfl]⟩,fun hb => by
   obtain ⟨thr',tip',h3⟩ := h.ext hb
   rw [h2] at h3; cases h3
   exact ⟨r,r,by rw [AH.gpt,if_pos rfl]⟩⟩,(Only.put H r _).mono (fun j hj => .inl hj),rfl⟩
  simp [AH.write,h2,h1]
 ·have hne : r ≠ k := by omega
  refine ⟨(H.put r (.cells rcs rt rro false r k k)).put' k (.cells cs' t false false r thr tip), ?_,⟨h.lt,.inr ⟨h1,⟨thr,tip,by rw [AH.gtp,if_pos rfl]⟩,rcs,rt,rro,k,Nat.le_refl _,by rw [AH.gtp,if_neg hne,AH.gpt,if_pos rfl]⟩,fun hb => by
   obtain ⟨thr',tip',h5⟩ := h.ext hb
   rw [h2] at h5; cases h5⟩,
   ((Only.put H r _).mono (S' := fun j => j = r ∨ j = k) (fun j hj => .inl hj)).trans (Only.put' _ k _ (fun j => j = r ∨ j = k) (.inr rfl)) (fun j hj => .inl hj),rfl⟩
  simp [AH.write,h2,h4,h3,hne]
theorem Own.grow {H : AH} {k r : Nat} {t : TypeId} {cs : List Value} (h : Own H k r t cs) (hx : bxT t = false) (ae : Bool) (cs' : List Value) : ∃ H' r',H.grow k ae t cs' = some H' ∧ Own H' H.next r' t cs' ∧ Only H H' (· = r) ∧ (r' = r ∨ r' = H.next) ∧ H'.next = H.next + 1 ∧ (ae = true → H'.low = H.low) := by
 have hlt := h.lt
 rcases h.own with ⟨rfl,ex,thr,h1,h2⟩ | ⟨h1,⟨thr,tip,h2⟩,rcs,rt,rro,rthr,h3,h4⟩
 ·cases ex with
  | true =>
   refine ⟨H.push (.cells cs' t false false H.next H.next H.next),H.next, ?_,Own.new H t cs' false (fun hb => by rw [hx] at hb; cases hb),Only.push H _ _,.inr rfl,rfl,fun _ => rfl⟩
   simp [AH.grow,h2,AH.alive,AH.fam,h1]
  | false =>
   cases ae with
   | true =>
    refine ⟨(H.put' r (.cells cs t false false r thr H.next)).push (.cells cs' t false false r 0 0),r,by simp [AH.grow,h2,h1],⟨Nat.lt_succ_self _,.inr ⟨hlt,⟨0,0, ?_⟩,cs,t,false,thr, ?_, ?_⟩,fun hb => by rw [hx] at hb; cases hb⟩,(Only.put' H r _ (· = r) rfl).trans (Only.push _ _ (· = r)) (fun j hj => .inl hj),.inl rfl,rfl,fun _ => rfl⟩
    ·rw [AH.gpu,if_pos (by rfl)]
    ·omega
    ·rw [AH.gpu,if_neg (by simp; omega),AH.gtp,if_pos rfl]
   | false =>
    refine ⟨(H.put r (.cells cs t false false r H.next H.next)).push (.cells cs' t false false r 0 0),r,by simp [AH.grow,h2,h1],⟨Nat.lt_succ_self _,.inr ⟨hlt,⟨0,0, ?_⟩,cs,t,false,H.next, ?_, ?_⟩,fun hb => by rw [hx] at hb; cases hb⟩,(Only.put H r _).trans (Only.push _ _ (· = r)) (fun j hj => .inl hj),.inl rfl,rfl,fun hh => by cases hh⟩
    ·rw [AH.gpu,if_pos (by rfl)]
    ·exact Nat.le_refl _
    ·rw [AH.gpu,if_neg (by simp; omega),AH.gpt,if_pos rfl]
 ·have hne : r ≠ k := by omega
  cases ae with
  | true =>
   refine ⟨(H.put' r (.cells rcs rt rro false r rthr H.next)).push (.cells cs' t false false r 0 0),r,by simp [AH.grow,h2,h4,h3,hne],⟨Nat.lt_succ_self _,.inr ⟨by omega,⟨0,0, ?_⟩,rcs,rt,rro,rthr, ?_, ?_⟩,fun hb => by rw [hx] at hb; cases hb⟩,(Only.put' H r _ (· = r) rfl).trans (Only.push _ _ (· = r)) (fun j hj => .inl hj),.inl rfl,rfl,fun _ => rfl⟩
   ·rw [AH.gpu,if_pos (by rfl)]
   ·omega
   ·rw [AH.gpu,if_neg (by simp; omega),AH.gtp,if_pos rfl]
  | false =>
   refine ⟨(H.put r (.cells rcs rt rro false r H.next H.next)).push (.cells cs' t false false r 0 0),r,by simp [AH.grow,h2,h4,h3,hne],⟨Nat.lt_succ_self _,.inr ⟨by omega,⟨0,0, ?_⟩,rcs,rt,rro,H.next, ?_, ?_⟩,fun hb => by rw [hx] at hb; cases hb⟩,(Only.put H r _).trans (Only.push _ _ (· = r)) (fun j hj => .inl hj),.inl rfl,rfl,fun hh => by cases hh⟩
   ·rw [AH.gpu,if_pos (by rfl)]
   ·exact Nat.le_refl _
   ·rw [AH.gpu,if_neg (by simp; omega),AH.gpt,if_pos rfl]
theorem Own.apart {H : AH} {k r k2 r2 : Nat} {t : TypeId} {cs cs2 : List Value} (h : Own H k r t cs) (h2 : RowAt H k2 r2 cs2) (hne : r ≠ r2) : k2 ≠ r ∧ k2 ≠ k ∧ r2 ≠ r ∧ r2 ≠ k := by
 obtain ⟨t1,ro1,ex1,thr1,tip1,a1⟩ := h.rowAt.at_
 obtain ⟨c2,t2,ro2,ex2,thr2,tip2,a2,_⟩ := h.rowAt.root
 obtain ⟨t3,ro3,ex3,thr3,tip3,a3⟩ := h2.at_
 obtain ⟨c4,t4,ro4,ex4,thr4,tip4,a4,_⟩ := h2.root
 refine ⟨?_, ?_,Ne.symm hne, ?_⟩
 ·rintro rfl; rw [a2] at a3; cases a3; exact hne rfl
 ·rintro rfl; rw [a1] at a3; cases a3; exact hne rfl
 ·rintro rfl; rw [a1] at a4; cases a4; exact hne rfl
theorem Own.keptOwn {H H' : AH} {k r k2 r2 : Nat} {t t2 : TypeId} {cs cs2 : List Value} (h : Own H k r t cs) (ho : Only H H' (fun j => j = r ∨ j = k)) (h2 : Own H k2 r2 t2 cs2) (hne : r ≠ r2) : Own H' k2 r2 t2 cs2 := by
 obtain ⟨a,b,c,d⟩ := h.apart h2.rowAt hne
 exact h2.only ho (by rintro (x | x) <;> contradiction) (by rintro (x | x) <;> contradiction)
def noRow (o : AObj) : Prop := ∀ cs t ro ex root thr tip,o ≠ .cells cs t ro ex root thr tip
theorem Own.keptObj {H H' : AH} {k r j : Nat} {t : TypeId} {cs : List Value} {o : AObj} (h : Own H k r t cs) (ho : Only H H' (fun j => j = r ∨ j = k)) (hj : j < H.next) (hg : H.get j = some o) (hn : noRow o) : H'.get j = some o := by
 obtain ⟨t1,ro1,ex1,thr1,tip1,a1⟩ := h.rowAt.at_
 obtain ⟨c2,t2,ro2,ex2,thr2,tip2,a2,_⟩ := h.rowAt.root
 rw [ho.get j hj,hg]
 rintro (rfl | rfl)
 ·rw [a2] at hg; cases hg; exact hn _ _ _ _ _ _ _ rfl
 ·rw [a1] at hg; cases hg; exact hn _ _ _ _ _ _ _ rfl
theorem ble_true {a b : Nat} (h : a ≤ b) : Nat.ble a b = true := Nat.ble_eq_true_of_le h
theorem ble_false {a b : Nat} (h : ¬ a ≤ b) : Nat.ble a b = false := by
 cases hb : Nat.ble a b with
 | true => exact absurd (Nat.le_of_ble_eq_true hb) h
 | false => rfl
theorem Own.putObj {H : AH} {k r l : Nat} {t : TypeId} {cs : List Value} {o o' : AObj} (h : Own H k r t cs) (hg : H.get l = some o) (hn : noRow o) : Own (H.put l o') k r t cs := by
 obtain ⟨t1,ro1,ex1,thr1,tip1,a1⟩ := h.rowAt.at_
 obtain ⟨c2,t2,ro2,ex2,thr2,tip2,a2,_⟩ := h.rowAt.root
 refine h.only (Only.put H l o') ?_ ?_
 ·rintro rfl; rw [a1] at hg; cases hg; exact hn _ _ _ _ _ _ _ rfl
 ·rintro rfl; rw [a2] at hg; cases hg; exact hn _ _ _ _ _ _ _ rfl
theorem Own.push {H : AH} {k r : Nat} {t : TypeId} {cs : List Value} (h : Own H k r t cs) (o : AObj) : Own (H.push o) k r t cs := h.only (Only.push H o (fun _ => False)) id id
end Go.Den
/- Pen, part A: values as trees over an abstract heap: what they stand for. -/
namespace Go.Den
inductive PV where
 | v (x : Value)
 | ptr (i o : Nat)
 | slc (i o len cap : Nat)
 | mapr (i : Nat)
 | fn (f : FuncId) (a c : List PV)
 | ifc (t : TypeId) (p : PV)
 | agg (cs : List PV)
 | tup (cs : List PV)
 | fz (t : TypeId) (n : Nat) (cs : List PV)
 | fp (cs : List PV)
 | ow (t : TypeId) (n cap : Nat) (cs : List PV)
 | bx (t : TypeId) (cs : List PV)
 | yl (i : Nat)
inductive LObj where
 | row (t : TypeId) (cs : List PV)
 | map (es : List (Value × PV × Nat)) (clock : Nat)
 | rmap (es : List (Value × PV × Nat)) (clock : Nat)
 | iter (s : ByteArray) (pos : Nat)
 | loop (E : T PV) (ps : List Nat) (as bd : ICode) (st : Nat) (pend : Option Ex)
 | nil
 | dead
structure Zr where
 t : TypeId
 ex : Bool
 cs : List Value
 r : Nat
abbrev Rho := Nat → Option (Option Nat)
abbrev Zeta := Nat → Option Zr
inductive VP (ρ : Rho) (ζ : Zeta) : PV → Value → Prop
 | v {x : Value} : one x = true → VP ρ ζ (.v x) x
 | ptr {i k o : Nat} : ρ i = some (some k) → VP ρ ζ (.ptr i o) (.pointer (some ⟨k,o,none⟩))
 | slc {i k o len cap : Nat} : ρ i = some (some k) → len ≤ cap → VP ρ ζ (.slc i o len cap) (.slice (some ⟨k,o,none⟩) len cap)
 | slcN {i : Nat} : ρ i = some none → VP ρ ζ (.slc i 0 0 0) (.slice none 0 0)
 | mapr {i k : Nat} : ρ i = some (some k) → VP ρ ζ (.mapr i) (.map (some k))
 | yl {i k : Nat} : ρ i = some (some k) → VP ρ ζ (.yl i) (.func (.yield k) #[] #[])
 | fn {f : FuncId} {a c : List PV} {a' c' : Array Value} : a.length = a'.size → (∀ i (h : i < a.length) (h' : i < a'.size),VP ρ ζ a[i] a'[i]) →
   c.length = c'.size → (∀ i (h : i < c.length) (h' : i < c'.size),VP ρ ζ c[i] c'[i]) → VP ρ ζ (.fn f a c) (.func (.func f) a' c')
 | ifc {t : TypeId} {p : PV} {x : Value} : VP ρ ζ p x → VP ρ ζ (.ifc t p) (.iface t x)
 | agg {a : List PV} {a' : Array Value} : a.length = a'.size → (∀ i (h : i < a.length) (h' : i < a'.size),VP ρ ζ a[i] a'[i]) → VP ρ ζ (.agg a) (.agg a')
 | tup {a : List PV} {a' : Array Value} : a.length = a'.size → (∀ i (h : i < a.length) (h' : i < a'.size),VP ρ ζ a[i] a'[i]) → VP ρ ζ (.tup a) (.tuple a')
 | fz {t : TypeId} {n k o cap : Nat} {cs : List PV} {z : Zr} {cs' : List Value} : ζ k = some z → o ≤ z.cs.length → (z.ex = true ∨ z.t = t) → (z.cs.drop o).take cs.length = cs' → (hl : cs.length = cs'.length) →
   (∀ i (h : i < cs.length) (h' : i < cs'.length),VP ρ ζ cs[i] cs'[i]) → n ≤ cap → VP ρ ζ (.fz t n cs) (.slice (some ⟨k,o,none⟩) n cap)
 | fz0 {t : TypeId} {a : Option Addr} : (∀ x,a = some x → x.spot.isSome = true) → VP ρ ζ (.fz t 0 []) (.slice a 0 0)
 | fp {k o : Nat} {cs : List PV} {z : Zr} {cs' : List Value} : ζ k = some z → o ≤ z.cs.length → (z.cs.drop o).take cs.length = cs' → (hl : cs.length = cs'.length) →
   (∀ i (h : i < cs.length) (h' : i < cs'.length),VP ρ ζ cs[i] cs'[i]) → VP ρ ζ (.fp cs) (.pointer (some ⟨k,o,none⟩))
def Rho.Le (ρ ρ' : Rho) : Prop := ∀ i k,ρ i = some k → ρ' i = some k
def Zeta.Le (ζ ζ' : Zeta) : Prop := ∀ i k,ζ i = some k → ζ' i = some k
theorem Rho.Le.refl (ρ : Rho) : ρ.Le ρ := fun _ _ h => h
theorem Zeta.Le.refl (ζ : Zeta) : ζ.Le ζ := fun _ _ h => h
theorem Rho.Le.trans {a b c : Rho} (h : a.Le b) (h' : b.Le c) : a.Le c := fun i k x => h' i k (h i k x)
structure Zeta.X (A : Nat → Prop) (ζ ζ' : Zeta) : Prop where
 le : ζ.Le ζ'
 new : ∀ k z,ζ' k = some z → ζ k = some z ∨ A z.r
theorem Zeta.X.refl (A : Nat → Prop) (ζ : Zeta) : ζ.X A ζ := ⟨fun _ _ h => h,fun _ _ h => .inl h⟩
theorem Zeta.Le.trans {a b c : Zeta} (h : a.Le b) (h' : b.Le c) : a.Le c := fun i k x => h' i k (h i k x)
theorem Zeta.X.trans {A : Nat → Prop} {a b c : Zeta} (h : a.X A b) (h' : b.X A c) : a.X A c := ⟨h.le.trans h'.le,fun k z hz => (h'.new k z hz).elim (h.new k z) .inr⟩
variable {ρ ρ' : Rho} {ζ ζ' : Zeta}
theorem VP.mono (hr : ρ.Le ρ') (hz : ζ.Le ζ') {p : PV} {x : Value} (h : VP ρ ζ p x) : VP ρ' ζ' p x := by
 induction h with
 | v h => exact .v h
 | ptr h => exact .ptr (hr _ _ h)
 | slc h h1 => exact .slc (hr _ _ h) h1
 | slcN h => exact .slcN (hr _ _ h)
 | mapr h => exact .mapr (hr _ _ h)
 | yl h => exact .yl (hr _ _ h)
 | fn h1 _ h3 _ ih1 ih2 => exact .fn h1 ih1 h3 ih2
 | ifc _ ih => exact .ifc ih
 | agg h1 _ ih => exact .agg h1 ih
 | tup h1 _ ih => exact .tup h1 ih
 | fz h1 h0 h2 h3 h4 _ h6 ih => exact .fz (hz _ _ h1) h0 h2 h3 h4 ih h6
 | fz0 h => exact .fz0 h
 | fp h1 h0 h3 h4 _ ih => exact .fp (hz _ _ h1) h0 h3 h4 ih
def EnvP (ρ : Rho) (ζ : Zeta) (E : T PV) (e : Env) : Prop := ∀ t p,E.get t = some p → ∃ x,e.get t = some x ∧ VP ρ ζ p x
theorem EnvP.mono {E : T PV} {e : Env} (hr : ρ.Le ρ') (hz : ζ.Le ζ') (h : EnvP ρ ζ E e) : EnvP ρ' ζ' E e := fun t p hp => let ⟨x,a,b⟩ := h t p hp; ⟨x,a,b.mono hr hz⟩
abbrev VPL (ρ : Rho) (ζ : Zeta) := F2 (VP ρ ζ)
theorem F2.idx {α β : Type} {R : α → β → Prop} {as : List α} {bs : List β} (h : F2 R as bs) : ∀ i (h : i < as.length) (h' : i < bs.length),R as[i] bs[i] := by
 intro i h1 h2
 obtain ⟨b,hb,hr⟩ := h.get (i := i) (a := as[i]) (by simp [h1])
 simp [h2] at hb
 exact hb ▸ hr
theorem F2.of_idx {α β : Type} {R : α → β → Prop} {as : List α} {bs : List β} (hl : as.length = bs.length) (h : ∀ i (h : i < as.length) (h' : i < bs.length),R as[i] bs[i]) : F2 R as bs :=
 F2.of_get hl fun i x y hx hy => by
  obtain ⟨h1,rfl⟩ := List.getElem?_eq_some_iff.1 hx
  obtain ⟨h2,rfl⟩ := List.getElem?_eq_some_iff.1 hy
  exact h i h1 h2
theorem VPL.of_arr {a : List PV} {a' : Array Value} (h : a.length = a'.size) (hh : ∀ i (h : i < a.length) (h' : i < a'.size),VP ρ ζ a[i] a'[i]) : VPL ρ ζ a a'.toList :=
 F2.of_idx (by simpa using h) fun i h1 h2 => by simpa using hh i h1 (by simpa using h2)
theorem VPL.to_arr {a : List PV} {a' : Array Value} (h : VPL ρ ζ a a'.toList) : a.length = a'.size ∧ ∀ i (h : i < a.length) (h' : i < a'.size),VP ρ ζ a[i] a'[i] :=
 ⟨by simpa using h.length,fun i h1 h2 => by have := F2.idx h i h1 (by simpa using h2); rwa [Array.getElem_toList] at this⟩
theorem VPL.mono (hr : ρ.Le ρ') (hz : ζ.Le ζ') {a : List PV} {b : List Value} (h : VPL ρ ζ a b) : VPL ρ' ζ' a b := F2.mono (fun _ _ => VP.mono hr hz) h
theorem VP.agg' {a : List PV} {b : List Value} (h : VPL ρ ζ a b) : VP ρ ζ (.agg a) (.agg b.toArray) := by
 have := VPL.to_arr (a' := b.toArray) (by simpa using h)
 exact .agg this.1 this.2
theorem VP.tup' {a : List PV} {b : List Value} (h : VPL ρ ζ a b) : VP ρ ζ (.tup a) (.tuple b.toArray) := by
 have := VPL.to_arr (a' := b.toArray) (by simpa using h)
 exact .tup this.1 this.2
def sumN : Nat → (Nat → Nat) → Nat
 | 0,_ => 0
 | n + 1,g => sumN n g + g n
theorem sumN_congr {n : Nat} {g g' : Nat → Nat} (h : ∀ i,i < n → g i = g' i) : sumN n g = sumN n g' := by
 induction n with
 | zero => rfl
 | succ n ih => simp only [sumN]; rw [ih (fun i hi => h i (by omega)),h n (by omega)]
theorem sumN_mono {n : Nat} {g g' : Nat → Nat} (h : ∀ i,i < n → g i ≤ g' i) : sumN n g ≤ sumN n g' := by
 induction n with
 | zero => exact Nat.le_refl _
 | succ n ih => simp only [sumN]; have := ih (fun i hi => h i (by omega)); have := h n (by omega); omega
theorem sumN_zero {n : Nat} {g : Nat → Nat} (h : ∀ i,i < n → g i = 0) : sumN n g = 0 := by
 induction n with
 | zero => rfl
 | succ n ih => simp only [sumN]; rw [ih (fun i hi => h i (by omega)),h n (by omega)]
theorem sumN_le {n i : Nat} {g : Nat → Nat} (h : i < n) : g i ≤ sumN n g := by
 induction n with
 | zero => omega
 | succ n ih =>
  simp only [sumN]
  by_cases e : i = n
  ·subst e; omega
  ·have := ih (by omega); omega
theorem sumN_le2 {n i j : Nat} {g : Nat → Nat} (h : i < n) (h' : j < n) (hne : i ≠ j) : g i + g j ≤ sumN n g := by
 induction n with
 | zero => omega
 | succ n ih =>
  simp only [sumN]
  by_cases e : i = n
  ·subst e; have := sumN_le (g := g) (show j < i by omega); omega
  ·by_cases e' : j = n
   ·subst e'; have := sumN_le (g := g) (show i < j by omega); omega
   ·have := ih (by omega) (by omega); omega
theorem sumN_upd {n i : Nat} {g : Nat → Nat} {y : Nat} (h : i < n) : sumN n (fun j => if j = i then y else g j) + g i = sumN n g + y := by
 induction n with
 | zero => omega
 | succ n ih =>
  simp only [sumN]
  by_cases e : i = n
  ·subst e
   rw [sumN_congr (g' := g) (fun j hj => by rw [if_neg (by omega)])]
   simp; omega
  ·have := ih (by omega)
   rw [if_neg (Ne.symm e)]
   omega
theorem sumN_add {a b : Nat} {g : Nat → Nat} : sumN (a + b) g = sumN a g + sumN b (fun i => g (a + i)) := by
 induction b with
 | zero => rfl
 | succ b ih => rw [show a + (b + 1) = (a + b) + 1 by omega]; simp only [sumN]; rw [ih]; omega
inductive WP (A : Nat → Prop) (ρ : Rho) (ζ : Zeta) (H : AH) : (Nat → Nat) → PV → Value → Prop
 | val {f : Nat → Nat} {p : PV} {x : Value} : VP ρ ζ p x → WP A ρ ζ H f p x
 | ow {f : Nat → Nat} {t : TypeId} {n cap k r : Nat} {cs : List PV} {cells : List Value} (g : Nat → Nat → Nat) : Own H k r t cells → A k → A r → n ≤ cap → cs.length = cells.length →
   (∀ i (h : i < cs.length) (h' : i < cells.length),WP A ρ ζ H (g i) cs[i] cells[i]) → (∀ x,(if x = r then 1 else 0) + sumN cs.length (fun i => g i x) ≤ f x) →
   WP A ρ ζ H f (.ow t n cap cs) (.slice (some ⟨k,0,none⟩) n cap)
 | bx {f : Nat → Nat} {t : TypeId} {k r : Nat} {cs : List PV} {cells : List Value} (g : Nat → Nat → Nat) : Own H k r t cells → A k → A r → cs.length = cells.length →
   (∀ i (h : i < cs.length) (h' : i < cells.length),WP A ρ ζ H (g i) cs[i] cells[i]) → (∀ x,(if x = r then 1 else 0) + sumN cs.length (fun i => g i x) ≤ f x) →
   WP A ρ ζ H f (.bx t cs) (.pointer (some ⟨k,0,none⟩))
 | ifc {f : Nat → Nat} {t : TypeId} {p : PV} {x : Value} : WP A ρ ζ H f p x → WP A ρ ζ H f (.ifc t p) (.iface t x)
structure FrzRow (H : AH) (k r : Nat) (z : Zr) : Prop where
 lt : k < H.next
 le : r ≤ k
 at_ : ∃ ro thr tip,H.get k = some (.cells z.cs z.t ro z.ex r thr tip)
 root : ∃ cs' t ro ex thr tip,H.get r = some (.cells cs' t ro ex r thr tip) ∧ thr ≤ k
theorem FrzRow.rowAt {H : AH} {k r : Nat} {z : Zr} (h : FrzRow H k r z) : RowAt H k r z.cs := by
 obtain ⟨ro,thr,tip,h1⟩ := h.at_
 exact ⟨h.lt,h.le,⟨_,_,_,_,_,h1⟩,h.root⟩
theorem FrzRow.only {H H' : AH} {k r : Nat} {z : Zr} {S : Nat → Prop} (h : FrzRow H k r z) (ho : Only H H' S) (hk : ¬ S k) (hr : ¬ S r) : FrzRow H' k r z := by
 have := h.lt
 have := h.le
 exact ⟨Nat.lt_of_lt_of_le h.lt ho.next,h.le,by rw [ho.get k h.lt hk]; exact h.at_,by rw [ho.get r (by omega) hr]; exact h.root⟩
structure Kp (H H' : AH) (R : Nat → Prop) : Prop where
 next : H.next ≤ H'.next
 own : ∀ k r t cs,¬ R r → Own H k r t cs → Own H' k r t cs
 frz : ∀ k r z,¬ R r → FrzRow H k r z → FrzRow H' k r z
 obj : ∀ j o,j < H.next → ¬ R j → H.get j = some o → noRow o → H'.get j = some o
variable {A A' : Nat → Prop} {H H' : AH} {f f' : Nat → Nat}
theorem WP.le {p : PV} {x : Value} (h : WP A ρ ζ H f p x) : ∀ {f' : Nat → Nat},(∀ r,f r ≤ f' r) → WP A ρ ζ H f' p x := by
 induction h with
 | val h => intro f' _; exact .val h
 | ow g h1 h2 h3 h4 h5 h6 h7 _ => intro f' hf; exact .ow g h1 h2 h3 h4 h5 h6 (fun x => Nat.le_trans (h7 x) (hf x))
 | bx g h1 h2 h3 h5 h6 h7 _ => intro f' hf; exact .bx g h1 h2 h3 h5 h6 (fun x => Nat.le_trans (h7 x) (hf x))
 | ifc _ ih => intro f' hf; exact .ifc (ih hf)
theorem WP.kp {R : Nat → Prop} (hk : Kp H H' R) (hr : ρ.Le ρ') (hz : ζ.Le ζ') (hA : ∀ j,A j → A' j) {p : PV} {x : Value} (h : WP A ρ ζ H f p x) (hR : ∀ r,R r → f r = 0) : WP A' ρ' ζ' H' f p x := by
 induction h with
 | val h => exact .val (h.mono hr hz)
 | ow g h1 h2 h3 h4 h5 _ h7 ih =>
  rename_i f t n cap k r cs cells _
  refine .ow g (hk.own _ _ _ _ (fun hh => ?_) h1) (hA _ h2) (hA _ h3) h4 h5 (fun i hi hi' => ih i hi hi' (fun x hx => ?_)) h7
  ·have := hR _ hh; have := h7 r; simp at this; omega
  ·have := hR _ hx; have := h7 x; have h9 := sumN_le (g := fun i => g i x) hi; exact Nat.eq_zero_of_le_zero (by omega)
 | bx g h1 h2 h3 h5 _ h7 ih =>
  rename_i f t k r cs cells _
  refine .bx g (hk.own _ _ _ _ (fun hh => ?_) h1) (hA _ h2) (hA _ h3) h5 (fun i hi hi' => ih i hi hi' (fun x hx => ?_)) h7
  ·have := hR _ hh; have := h7 r; simp at this; omega
  ·have := hR _ hx; have := h7 x; have h9 := sumN_le (g := fun i => g i x) hi; exact Nat.eq_zero_of_le_zero (by omega)
 | ifc _ ih => exact .ifc (ih hR)
def nl : PV → Bool
 | .ow .. | .bx .. => false
 | .ifc _ p => nl p
 | _ => true
theorem WP.nl {p : PV} {x : Value} (h : WP A ρ ζ H f p x) (hn : nl p = true) : VP ρ ζ p x := by
 induction h with
 | val h => exact h
 | ow => simp [Den.nl] at hn
 | bx => simp [Den.nl] at hn
 | ifc _ ih => exact .ifc (ih (by simpa [Den.nl] using hn))
def WL (A : Nat → Prop) (ρ : Rho) (ζ : Zeta) (H : AH) (f : Nat → Nat) (cs : List PV) (cells : List Value) : Prop :=
 ∃ g : Nat → Nat → Nat,cs.length = cells.length ∧ (∀ i (h : i < cs.length) (h' : i < cells.length),WP A ρ ζ H (g i) cs[i] cells[i]) ∧ ∀ x,sumN cs.length (fun i => g i x) ≤ f x
theorem WL.length {cs : List PV} {cells : List Value} (h : WL A ρ ζ H f cs cells) : cs.length = cells.length := h.choose_spec.1
theorem WL.le {cs : List PV} {cells : List Value} (h : WL A ρ ζ H f cs cells) (hf : ∀ r,f r ≤ f' r) : WL A ρ ζ H f' cs cells := let ⟨g,a,b,c⟩ := h; ⟨g,a,b,fun x => Nat.le_trans (c x) (hf x)⟩
theorem WL.kp {R : Nat → Prop} (hk : Kp H H' R) (hr : ρ.Le ρ') (hz : ζ.Le ζ') (hA : ∀ j,A j → A' j) {cs : List PV} {cells : List Value} (h : WL A ρ ζ H f cs cells) (hR : ∀ r,R r → f r = 0) : WL A' ρ' ζ' H' f cs cells := by
 obtain ⟨g,a,b,c⟩ := h
 refine ⟨g,a,fun i h h' => (b i h h').kp hk hr hz hA (fun r hr' => ?_),c⟩
 have := hR r hr'; have := c r; have h9 := sumN_le (g := fun i => g i r) h; exact Nat.eq_zero_of_le_zero (by omega)
theorem WL.of_vpl {cs : List PV} {cells : List Value} (h : VPL ρ ζ cs cells) : WL A ρ ζ H f cs cells :=
 ⟨fun _ _ => 0,h.length,fun i h1 h2 => .val (F2.idx h i h1 h2),fun x => by rw [sumN_zero (fun _ _ => rfl)]; exact Nat.zero_le _⟩
theorem WL.append {f1 f2 : Nat → Nat} {a b : List PV} {a' b' : List Value} (h : WL A ρ ζ H f1 a a') (h' : WL A ρ ζ H f2 b b') : WL A ρ ζ H (fun r => f1 r + f2 r) (a ++ b) (a' ++ b') := by
 obtain ⟨g,h1,h2,h3⟩ := h
 obtain ⟨g',h1',h2',h3'⟩ := h'
 refine ⟨fun i r => if i < a.length then g i r else g' (i - a.length) r,by simp [h1,h1'],fun i hi hi' => ?_,fun x => ?_⟩
 ·by_cases hlt : i < a.length
  ·have e1 : (a ++ b)[i] = a[i] := List.getElem_append_left hlt
   have e2 : (a' ++ b')[i] = a'[i]'(by omega) := List.getElem_append_left (by omega)
   rw [e1,e2]; simp only [hlt,if_true]; exact h2 i hlt (by omega)
  ·have hi2 : i - a.length < b.length := by simp at hi; omega
   have e1 : (a ++ b)[i] = b[i - a.length] := List.getElem_append_right (by omega)
   have e2 : (a' ++ b')[i] = b'[i - a.length]'(by omega) := by rw [List.getElem_append_right (by omega)]; simp [h1]
   rw [e1,e2]; simp only [hlt,if_false]; exact h2' _ hi2 (by omega)
 ·rw [List.length_append,sumN_add]
  have e1 : sumN a.length (fun i => if i < a.length then g i x else g' (i - a.length) x) = sumN a.length (fun i => g i x) := sumN_congr fun i hi => by simp only [if_pos hi]
  have e2 : sumN b.length (fun i => if a.length + i < a.length then g (a.length + i) x else g' (a.length + i - a.length) x) = sumN b.length (fun i => g' i x) := sumN_congr fun i hi => by rw [if_neg (by omega),Nat.add_sub_cancel_left]
  have q1 := h3 x
  have q2 := h3' x
  refine Nat.le_trans (Nat.le_of_eq ?_) (Nat.add_le_add q1 q2)
  rw [← e1,← e2]
theorem WL.split {a b : List PV} {l : List Value} (h : WL A ρ ζ H f (a ++ b) l) : ∃ f1 f2,WL A ρ ζ H f1 a (l.take a.length) ∧ WL A ρ ζ H f2 b (l.drop a.length) ∧ ∀ r,f1 r + f2 r ≤ f r := by
 obtain ⟨g,h1,h2,h3⟩ := h
 rw [List.length_append] at h1
 refine ⟨fun r => sumN a.length (fun i => g i r),fun r => sumN b.length (fun i => g (a.length + i) r),⟨g,by simp; omega,fun i hi hi' => ?_,fun x => Nat.le_refl _⟩,⟨fun i => g (a.length + i),by simp; omega,fun i hi hi' => ?_,fun x => Nat.le_refl _⟩,fun r => ?_⟩
 ·have := h2 i (by simp; omega) (by omega)
  simpa [List.getElem_append_left hi] using this
 ·have := h2 (a.length + i) (by simp; omega) (by omega)
  simpa using this
 ·have := h3 r
  rw [List.length_append,sumN_add] at this
  exact this
theorem WL.take {cs : List PV} {l : List Value} (h : WL A ρ ζ H f cs l) (o : Nat) : ∃ f1 f2,WL A ρ ζ H f1 (cs.take o) (l.take o) ∧ WL A ρ ζ H f2 (cs.drop o) (l.drop o) ∧ ∀ r,f1 r + f2 r ≤ f r := by
 have hl := h.length
 rw [← List.take_append_drop o cs] at h
 obtain ⟨f1,f2,a,b,c⟩ := h.split
 refine ⟨f1,f2, ?_, ?_,c⟩
 ·by_cases ho : o ≤ cs.length
  ·simpa [Nat.min_eq_left ho] using a
  ·rw [List.take_of_length_le (show cs.length ≤ o by omega),List.take_of_length_le (show l.length ≤ o by omega)]
   simpa [List.length_take,Nat.min_eq_right (show cs.length ≤ o by omega),hl,List.take_of_length_le (show cs.length ≤ o by omega),List.take_of_length_le (show l.length ≤ o by omega)] using a
 ·by_cases ho : o ≤ cs.length
  ·simpa [Nat.min_eq_left ho] using b
  ·rw [List.drop_of_length_le (show cs.length ≤ o by omega),List.drop_of_length_le (show l.length ≤ o by omega)]
   exact WL.of_vpl .nil
theorem WL.get {cs : List PV} {l : List Value} (h : WL A ρ ζ H f cs l) {o : Nat} {p : PV} (hp : cs[o]? = some p) : ∃ x,l[o]? = some x ∧ WP A ρ ζ H f p x := by
 obtain ⟨g,h1,h2,h3⟩ := h
 obtain ⟨ho,rfl⟩ := List.getElem?_eq_some_iff.1 hp
 refine ⟨l[o]'(by omega),by simp,(h2 o ho (by omega)).le fun r => Nat.le_trans (sumN_le (g := fun i => g i r) ho) (h3 r)⟩
theorem WL.vpl {cs : List PV} {l : List Value} (h : WL A ρ ζ H f cs l) (hn : cs.all nl = true) : VPL ρ ζ cs l := by
 obtain ⟨g,h1,h2,h3⟩ := h
 exact F2.of_idx h1 fun i hi hi' => (h2 i hi hi').nl (List.all_eq_true.1 hn _ (List.getElem_mem hi))
theorem WL.splice {cs vs : List PV} {l xs : List Value} {o : Nat} (h : WL A ρ ζ H f cs l) (hv : VPL ρ ζ vs xs) : WL A ρ ζ H f (cs.take o ++ vs ++ cs.drop (o + vs.length)) (Den.splice l o xs) := by
 obtain ⟨f1,f2,a,b,c⟩ := h.take o
 obtain ⟨f3,f4,a',b',c'⟩ := b.take vs.length
 unfold Den.splice
 rw [← hv.length]
 have e1 : cs.drop (o + vs.length) = (cs.drop o).drop vs.length := by simp
 have e2 : l.drop (o + vs.length) = (l.drop o).drop vs.length := by simp
 rw [e1,e2]
 refine ((a.append (WL.of_vpl (f := fun _ => 0) hv)).append b').le fun r => ?_
 have := c r; have := c' r
 omega
end Go.Den
/- Pen, part B: lists of objects that stand for parts of an abstract heap; what changes them. -/
namespace Go.Den
variable {ρ ρ' : Rho} {ζ ζ' : Zeta} {A A' : Nat → Prop} {H H' : AH} {f f' : Nat → Nat}
def EL (A : Nat → Prop) (ρ : Rho) (ζ : Zeta) (H : AH) (f : Nat → Nat) (es : List (Value × PV × Nat)) (es' : List MapEntry) : Prop :=
 F2 (fun x y => x.1 = y.key ∧ x.2.2 = y.born) es es' ∧ WL A ρ ζ H f (es.map (·.2.1)) (es'.map (·.val))
def ERo (ρ : Rho) (ζ : Zeta) (es : List (Value × PV × Nat)) (es' : List MapEntry) : Prop :=
 F2 (fun x y => x.1 = y.key ∧ x.2.2 = y.born) es es' ∧ VPL ρ ζ (es.map (·.2.1)) (es'.map (·.val))
theorem ERo.mono {es : List (Value × PV × Nat)} {es' : List MapEntry} (hr : ρ.Le ρ') (hz : ζ.Le ζ') (h : ERo ρ ζ es es') : ERo ρ' ζ' es es' := ⟨h.1,h.2.mono hr hz⟩
def OP (A : Nat → Prop) (ρ : Rho) (ζ : Zeta) (H : AH) (f : Nat → Nat) (i : Nat) : LObj → Prop
 | .row t cs => (∃ k r cells f',ρ i = some (some k) ∧ Own H k r t cells ∧ A k ∧ A r ∧ WL A ρ ζ H f' cs cells ∧ ∀ x,(if x = r then 1 else 0) + f' x ≤ f x) ∨ (cs = [] ∧ ρ i = some none)
 | .map es c => ∃ k es' f',ρ i = some (some k) ∧ k < H.next ∧ H.get k = some (.map es' c) ∧ A k ∧ EL A ρ ζ H f' es es' ∧ ∀ x,(if x = k then 1 else 0) + f' x ≤ f x
 | .rmap es c => ∃ k es',ρ i = some (some k) ∧ k < H.next ∧ H.get k = some (.map es' c) ∧ ERo ρ ζ es es' ∧ 1 ≤ f k
 | .iter s pos => ∃ k,ρ i = some (some k) ∧ k < H.next ∧ H.get k = some (.iter s pos) ∧ A k ∧ 1 ≤ f k
 | .loop E ps as bd st pend => ∃ k e,ρ i = some (some k) ∧ k < H.next ∧ H.get k = some (.loop e ps as bd st pend) ∧ A k ∧ EnvP ρ ζ E e ∧ 1 ≤ f k
 | .nil => ρ i = some none
 | .dead => True
theorem noRow_map {es : List MapEntry} {c : Nat} : noRow (.map es c) := fun _ _ _ _ _ _ _ h => by cases h
theorem noRow_iter {s : ByteArray} {c : Nat} : noRow (.iter s c) := fun _ _ _ _ _ _ _ h => by cases h
theorem noRow_loop {e : Env} {ps : List Nat} {as bd : ICode} {st : Nat} {pend : Option Ex} : noRow (.loop e ps as bd st pend) := fun _ _ _ _ _ _ _ h => by cases h
theorem OP.kp {R : Nat → Prop} (hk : Kp H H' R) (hr : ρ.Le ρ') (hz : ζ.Le ζ') (hA : ∀ j,A j → A' j) {i : Nat} {o : LObj} (h : OP A ρ ζ H f i o) (hR : ∀ r,R r → f r = 0) : OP A' ρ' ζ' H' f i o := by
 cases o with
 | row t cs =>
  rcases h with ⟨k,r,cells,f',h1,h2,h3,h4,h5,h6⟩ | ⟨h1,h2⟩
  case inr => exact .inr ⟨h1,hr _ _ h2⟩
  refine .inl ⟨k,r,cells,f',hr _ _ h1,hk.own _ _ _ _ (fun hh => ?_) h2,hA _ h3,hA _ h4,h5.kp hk hr hz hA (fun x hx => ?_),h6⟩
  ·have := hR _ hh; have := h6 r; simp at this; omega
  ·have := hR _ hx; have := h6 x; omega
 | map es c =>
  obtain ⟨k,es',f',h1,h0,h2,h3,⟨h4,h5⟩,h6⟩ := h
  refine ⟨k,es',f',hr _ _ h1,Nat.lt_of_lt_of_le h0 hk.next,hk.obj _ _ h0 (fun hh => ?_) h2 noRow_map,hA _ h3,⟨h4,h5.kp hk hr hz hA (fun x hx => ?_)⟩,h6⟩
  ·have := hR _ hh; have := h6 k; simp at this; omega
  ·have := hR _ hx; have := h6 x; omega
 | rmap es c =>
  obtain ⟨k,es',h1,h0,h2,h5,h4⟩ := h
  refine ⟨k,es',hr _ _ h1,Nat.lt_of_lt_of_le h0 hk.next,hk.obj _ _ h0 (fun hh => ?_) h2 noRow_map,h5.mono hr hz,h4⟩
  have := hR _ hh; omega
 | iter s pos =>
  obtain ⟨k,h1,h0,h2,h3,h4⟩ := h
  refine ⟨k,hr _ _ h1,Nat.lt_of_lt_of_le h0 hk.next,hk.obj _ _ h0 (fun hh => ?_) h2 noRow_iter,hA _ h3,h4⟩
  have := hR _ hh; omega
 | loop E ps as bd st pend =>
  obtain ⟨k,e,h1,h0,h2,h3,h5,h4⟩ := h
  refine ⟨k,e,hr _ _ h1,Nat.lt_of_lt_of_le h0 hk.next,hk.obj _ _ h0 (fun hh => ?_) h2 noRow_loop,hA _ h3,h5.mono hr hz,h4⟩
  have := hR _ hh; omega
 | nil => exact hr _ _ h
 | dead => trivial
structure RHg (A : Nat → Prop) (ρ : Rho) (ζ : Zeta) (L : List LObj) (H : AH) (g : Nat → Nat → Nat) : Prop where
 objs : ∀ i o,L[i]? = some o → OP A ρ ζ H (g i) i o
 sum : ∀ r,sumN L.length (fun i => g i r) ≤ 1
 frz : ∀ k z,ζ k = some z → FrzRow H k z.r z ∧ sumN L.length (fun i => g i z.r) = 0
 bnd : ∀ r,H.next ≤ r → sumN L.length (fun i => g i r) = 0
 acc : ∀ j,H.next ≤ j → A j
 dom : ∀ i k,ρ i = some k → i < L.length
 wf : ∀ j o,H.get j = some o → j < H.next
def RH (A : Nat → Prop) (ρ : Rho) (ζ : Zeta) (L : List LObj) (H : AH) : Prop := ∃ g,RHg A ρ ζ L H g
theorem FrzRow.kept {k r k2 r2 : Nat} {t : TypeId} {cs : List Value} {z : Zr} (h : Own H k r t cs) (ho : Only H H' (fun j => j = r ∨ j = k)) (h2 : FrzRow H k2 r2 z) (hne : r ≠ r2) : FrzRow H' k2 r2 z := by
 obtain ⟨a,b,c,d⟩ := h.apart h2.rowAt hne
 exact h2.only ho (by rintro (x | x) <;> contradiction) (by rintro (x | x) <;> contradiction)
theorem Kp.of_own {k r : Nat} {t : TypeId} {cs : List Value} (h : Own H k r t cs) (ho : Only H H' (fun j => j = r ∨ j = k)) : Kp H H' (· = r) :=
 ⟨ho.next,fun _ _ _ _ hn h2 => h.keptOwn ho h2 (fun e => hn e.symm),fun _ _ _ hn h2 => FrzRow.kept h ho h2 (fun e => hn e.symm),fun _ _ hj _ hg hno => h.keptObj ho hj hg hno⟩
theorem Kp.push (H : AH) (o : AObj) : Kp H (H.push o) (fun _ => False) :=
 ⟨Nat.le_succ _,fun _ _ _ _ _ h => h.push o,fun _ _ _ _ h => h.only (Only.push H o (fun _ => False)) id id,fun j _ hj _ hg _ => by rw [AH.gpu,if_neg (by omega)]; exact hg⟩
theorem Kp.putObj {l : Nat} {o o' : AObj} (hg : H.get l = some o) (hn : noRow o) : Kp H (H.put l o') (· = l) := by
 refine ⟨Nat.le_refl _,fun _ _ _ _ _ h => h.putObj hg hn,fun k r z _ h => ?_,fun j _ _ hj hgj _ => by rw [AH.gpt,if_neg hj]; exact hgj⟩
 obtain ⟨a,b⟩ : l ≠ k ∧ l ≠ r := by
  obtain ⟨ro,thr,tip,a1⟩ := h.at_
  obtain ⟨c2,t2,ro2,ex2,thr2,tip2,a2,_⟩ := h.root
  refine ⟨?_, ?_⟩
  ·rintro rfl; rw [a1] at hg; cases hg; exact hn _ _ _ _ _ _ _ rfl
  ·rintro rfl; rw [a2] at hg; cases hg; exact hn _ _ _ _ _ _ _ rfl
 exact h.only (Only.put H l o') (fun e => a e.symm) (fun e => b e.symm)
theorem Kp.refl (H : AH) (R : Nat → Prop) : Kp H H R := ⟨Nat.le_refl _,fun _ _ _ _ _ h => h,fun _ _ _ _ h => h,fun _ _ _ _ h _ => h⟩
theorem RHg.set {L : List LObj} {g : Nat → Nat → Nat} (h : RHg A ρ ζ L H g) {i0 r0 : Nat} {o' : LObj} (hi : i0 < L.length) (h1 : 1 ≤ g i0 r0) (hk : Kp H H' (· = r0)) (hn : H'.next = H.next)
  (hwf : ∀ j o,H'.get j = some o → j < H'.next) (ho : OP A ρ ζ H' (g i0) i0 o') : RHg A ρ ζ (L.set i0 o') H' g := by
 have hs : ∀ i,i < L.length → i ≠ i0 → g i r0 = 0 := fun i hi' hne => by
  have := sumN_le2 (g := fun i => g i r0) hi' hi hne; have := h.sum r0; omega
 refine ⟨fun i o hio => ?_,by simpa using h.sum,fun k z hz => ?_,by simpa [hn] using h.bnd,by simpa [hn] using h.acc,by simpa using h.dom,hwf⟩
 ·rw [List.getElem?_set] at hio
  by_cases e : i0 = i
  ·subst e; rw [if_pos rfl,if_pos hi] at hio; cases hio; exact ho
  ·rw [if_neg e] at hio
   have hlt : i < L.length := (List.getElem?_eq_some_iff.1 hio).1
   exact (h.objs i o hio).kp hk (.refl _) (.refl _) (fun _ h => h) (fun r hr => by subst hr; exact hs i hlt (Ne.symm e))
 ·obtain ⟨h2,h3⟩ := h.frz k z hz
  refine ⟨hk.frz _ _ _ (fun e => ?_) h2,by simpa using h3⟩
  subst e
  have := sumN_le (g := fun i => g i z.r) hi; omega
def Rho.add (ρ : Rho) (i : Nat) (k : Option Nat) : Rho := fun j => if j = i then some k else ρ j
theorem Rho.le_add {ρ : Rho} {i : Nat} {k : Option Nat} (h : ρ i = none) : ρ.Le (ρ.add i k) := fun j x hj => by
 unfold Rho.add
 by_cases e : j = i
 ·subst e; rw [h] at hj; cases hj
 ·rw [if_neg e]; exact hj
@[simp] theorem Rho.add_self {ρ : Rho} {i : Nat} {k : Option Nat} : ρ.add i k i = some k := by simp [Rho.add]
theorem RHg.fresh {L : List LObj} {g : Nat → Nat → Nat} (h : RHg A ρ ζ L H g) : ρ L.length = none := by
 cases hh : ρ L.length with
 | none => rfl
 | some k => exact absurd (h.dom _ _ hh) (Nat.lt_irrefl _)
theorem RHg.move {L : List LObj} {g : Nat → Nat → Nat} (h : RHg A ρ ζ L H g) {i0 : Nat} {k : Option Nat} {R : Nat → Prop} {o' o2 : LObj} {f1 f2 : Nat → Nat} (hi : i0 < L.length) (hk : Kp H H' R) (hR : ∀ r,R r → 1 ≤ g i0 r)
  (hwf : ∀ j o,H'.get j = some o → j < H'.next) (hf : ∀ x,x ≠ H.next → f1 x + f2 x ≤ g i0 x) (hf1 : H.next < H'.next → f1 H.next + f2 H.next ≤ 1) (hf2 : H'.next = H.next → f1 H.next + f2 H.next ≤ g i0 H.next)
  (ho : OP A (ρ.add L.length k) ζ H' f1 i0 o') (ho2 : OP A (ρ.add L.length k) ζ H' f2 L.length o2) : RH A (ρ.add L.length k) ζ (L.set i0 o' ++ [o2]) H' := by
 have hs : ∀ r,R r → ∀ i,i < L.length → i ≠ i0 → g i r = 0 := fun r hr i hi' hne => by
  have := sumN_le2 (g := fun i => g i r) hi' hi hne; have := h.sum r; have := hR r hr; omega
 have hnx : ∀ x,g i0 x ≤ sumN L.length (fun i => g i x) := fun x => sumN_le (g := fun i => g i x) hi
 -- the sums
 let g' : Nat → Nat → Nat := fun i => if i = L.length then f2 else if i = i0 then f1 else g i
 have hlen : (L.set i0 o' ++ [o2]).length = L.length + 1 := by simp
 have hsum : ∀ x,sumN (L.length + 1) (fun i => g' i x) + g i0 x = sumN L.length (fun i => g i x) + f1 x + f2 x := fun x => by
  have e1 : sumN L.length (fun i => g' i x) = sumN L.length (fun i => if i = i0 then f1 x else g i x) := sumN_congr fun i hi' => by
   show (if i = L.length then f2 else if i = i0 then f1 else g i) x = _
   rw [if_neg (by omega)]; split <;> rfl
  have e2 : g' L.length x = f2 x := by show (if L.length = L.length then f2 else _) x = _; rw [if_pos rfl]
  have e3 := sumN_upd (n := L.length) (i := i0) (g := fun i => g i x) (y := f1 x) hi
  simp only [sumN]
  rw [e1,e2]
  omega
 refine ⟨g',fun i o hio => ?_,fun r => ?_,fun k' z hz => ?_,fun r hr => ?_,fun j hj => h.acc j (Nat.le_trans hk.next hj),fun i x hix => ?_,hwf⟩
 ·by_cases e : i = L.length
  ·subst e
   rw [List.getElem?_append_right (by simp)] at hio
   simp at hio; subst hio
   show OP _ _ _ _ (if L.length = L.length then f2 else _) _ _
   rw [if_pos rfl]; exact ho2
  ·have hlt : i < L.length := by have := (List.getElem?_eq_some_iff.1 hio).1; rw [hlen] at this; omega
   rw [List.getElem?_append_left (by simpa using hlt),List.getElem?_set] at hio
   show OP _ _ _ _ (if i = L.length then f2 else if i = i0 then f1 else g i) _ _
   rw [if_neg e]
   by_cases e0 : i0 = i
   ·subst e0; rw [if_pos rfl,if_pos hi] at hio; cases hio; rw [if_pos rfl]; exact ho
   ·rw [if_neg e0] at hio
    rw [if_neg (Ne.symm e0)]
    exact (h.objs i o hio).kp hk (Rho.le_add h.fresh) (.refl _) (fun _ h => h) (fun r hr => hs r hr i hlt (Ne.symm e0))
 ·rw [hlen]
  have q1 := hsum r
  have q2 := h.sum r
  have q3 := hnx r
  by_cases e : r = H.next
  ·subst e
   have q4 := h.bnd _ (Nat.le_refl H.next)
   rcases Nat.lt_or_ge H.next H'.next with hlt | hge
   ·have := hf1 hlt; omega
   ·have := hf2 (Nat.le_antisymm hge hk.next); omega
  ·have := hf r e; omega
 ·obtain ⟨h2,h3⟩ := h.frz k' z hz
  have q1 := hsum z.r
  have q3 := hnx z.r
  have hrn : z.r ≠ H.next := by have := h2.le; have := h2.lt; omega
  refine ⟨hk.frz _ _ _ (fun e => ?_) h2, ?_⟩
  ·have := hR z.r e; omega
  ·rw [hlen]; have := hf z.r hrn; omega
 ·rw [hlen]
  have q1 := hsum r
  have q3 := hnx r
  have := hk.next
  have q4 := h.bnd r (by omega)
  by_cases e : r = H.next
  ·subst e; have := hf2 (by omega); omega
  ·have := hf r e; omega
 ·rw [hlen]
  unfold Rho.add at hix
  by_cases e : i = L.length
  ·omega
  ·rw [if_neg e] at hix; have := h.dom _ _ hix; omega
theorem RHg.push {L : List LObj} {g : Nat → Nat → Nat} (h : RHg A ρ ζ L H g) {o : AObj} {o2 : LObj} (ho2 : OP A (ρ.add L.length (some H.next)) ζ (H.push o) (fun r => if r = H.next then 1 else 0) L.length o2) : RH A (ρ.add L.length (some H.next)) ζ (L ++ [o2]) (H.push o) := by
 have hk := Kp.push H o
 let f2 : Nat → Nat := fun r => if r = H.next then 1 else 0
 let g' : Nat → Nat → Nat := fun i => if i = L.length then f2 else g i
 have hlen : (L ++ [o2]).length = L.length + 1 := by simp
 have hsum : ∀ x,sumN (L.length + 1) (fun i => g' i x) = sumN L.length (fun i => g i x) + f2 x := fun x => by
  have e1 : sumN L.length (fun i => g' i x) = sumN L.length (fun i => g i x) := sumN_congr fun i hi' => by
   show (if i = L.length then f2 else g i) x = _
   rw [if_neg (by omega)]
  have e2 : g' L.length x = f2 x := by show (if L.length = L.length then f2 else _) x = _; rw [if_pos rfl]
  simp only [sumN]
  rw [e1,e2]
 refine ⟨g',fun i o hio => ?_,fun r => ?_,fun k' z hz => ?_,fun r hr => ?_,fun j hj => h.acc j (Nat.le_trans hk.next hj),fun i x hix => ?_,fun j ob hj => ?_⟩
 ·by_cases e : i = L.length
  ·subst e
   simp at hio; subst hio
   show OP _ _ _ _ (if L.length = L.length then f2 else _) _ _
   rw [if_pos rfl]; exact ho2
  ·have hlt : i < L.length := by have := (List.getElem?_eq_some_iff.1 hio).1; rw [hlen] at this; omega
   rw [List.getElem?_append_left hlt] at hio
   show OP _ _ _ _ (if i = L.length then f2 else g i) _ _
   rw [if_neg e]
   exact (h.objs i o hio).kp hk (Rho.le_add h.fresh) (.refl _) (fun _ h => h) (fun r hr => hr.elim)
 ·rw [hlen,hsum]
  have q2 := h.sum r
  by_cases e : r = H.next
  ·subst e
   have q4 := h.bnd _ (Nat.le_refl H.next)
   simp [f2]; omega
  ·simp [f2,e]; omega
 ·obtain ⟨h2,h3⟩ := h.frz k' z hz
  have hrn : z.r ≠ H.next := by have := h2.le; have := h2.lt; omega
  refine ⟨hk.frz _ _ _ id h2, ?_⟩
  rw [hlen,hsum]; simp [f2,hrn]; exact h3
 ·rw [hlen,hsum]
  have : H.next + 1 ≤ r := hr
  have q4 := h.bnd r (by omega)
  simp [f2,show r ≠ H.next by omega]; exact q4
 ·rw [hlen]
  unfold Rho.add at hix
  by_cases e : i = L.length
  ·omega
  ·rw [if_neg e] at hix; have := h.dom _ _ hix; omega
 ·rw [AH.gpu] at hj
  show j < H.next + 1
  split at hj
  ·omega
  ·have := h.wf _ _ hj; omega
theorem RHg.pushN {L : List LObj} {g : Nat → Nat → Nat} (h : RHg A ρ ζ L H g) {o2 : LObj} (ho2 : OP A (ρ.add L.length none) ζ H (fun _ => 0) L.length o2) : RH A (ρ.add L.length none) ζ (L ++ [o2]) H := by
 let g' : Nat → Nat → Nat := fun i => if i = L.length then (fun _ => 0) else g i
 have hlen : (L ++ [o2]).length = L.length + 1 := by simp
 have hsum : ∀ x,sumN (L.length + 1) (fun i => g' i x) = sumN L.length (fun i => g i x) := fun x => by
  have e1 : sumN L.length (fun i => g' i x) = sumN L.length (fun i => g i x) := sumN_congr fun i hi' => by
   show (if i = L.length then (fun _ => 0) else g i) x = _
   rw [if_neg (by omega)]
  have e2 : g' L.length x = 0 := by show (if L.length = L.length then (fun _ => 0) else _) x = _; rw [if_pos rfl]
  simp only [sumN]
  rw [e1,e2]; rfl
 refine ⟨g',fun i o hio => ?_,fun r => by rw [hlen,hsum]; exact h.sum r,fun k' z hz => by rw [hlen,hsum]; exact h.frz k' z hz,fun r hr => by rw [hlen,hsum]; exact h.bnd r hr,h.acc,fun i x hix => ?_,h.wf⟩
 ·by_cases e : i = L.length
  ·subst e
   simp at hio; subst hio
   show OP _ _ _ _ (if L.length = L.length then (fun _ => 0) else _) _ _
   rw [if_pos rfl]; exact ho2
  ·have hlt : i < L.length := by have := (List.getElem?_eq_some_iff.1 hio).1; rw [hlen] at this; omega
   rw [List.getElem?_append_left hlt] at hio
   show OP _ _ _ _ (if i = L.length then (fun _ => 0) else g i) _ _
   rw [if_neg e]
   exact (h.objs i o hio).kp (Kp.refl H (fun _ => False)) (Rho.le_add h.fresh) (.refl _) (fun _ h => h) (fun r hr => hr.elim)
 ·rw [hlen]
  unfold Rho.add at hix
  by_cases e : i = L.length
  ·omega
  ·rw [if_neg e] at hix; have := h.dom _ _ hix; omega
end Go.Den
/- Pen: the package-level variables that the code reads, as rows that nobody writes. This text is the seat's own. -/
namespace Go.Den
def rep8 (n : Nat) : List Value := List.replicate n (.int .u8 0)
def spaceCells : List Value := rep8 9 ++ List.replicate 5 (.int .u8 1) ++ rep8 18 ++ [.int .u8 1] ++ rep8 223
def glSpace : Nat := 1
def glSpaceT : TypeId := 145
def bruTab : List Int := [0,1,56,2,57,49,28,3,61,58,42,50,38,29,17,4,62,47,59,36,45,43,51,22,53,39,33,30,24,18,12,5,63,55,48,27,60,41,37,16,46,35,44,21,52,32,23,11,54,26,40,15,34,20,31,10,25,14,19,9,13,8,7,6]
def bruCells : List Value := bruTab.map fun n => .int .u8 n
def glBru : Nat := 0
def glBruT : TypeId := 126
def glZ : Zeta
 | 0 => some ⟨glBruT,true,bruCells,glBru⟩
 | 1 => some ⟨glSpaceT,true,spaceCells,glSpace⟩
 | _ => none
theorem glZ_cases {k : Nat} {z : Zr} (h : glZ k = some z) : (k = glBru ∧ z = ⟨glBruT,true,bruCells,glBru⟩) ∨ (k = glSpace ∧ z = ⟨glSpaceT,true,spaceCells,glSpace⟩) := by
 match k,h with
 | 0,h => cases h; exact .inl ⟨rfl,rfl⟩
 | 1,h => cases h; exact .inr ⟨rfl,rfl⟩
theorem glZ_self {k : Nat} {z : Zr} (h : glZ k = some z) : z.r = k ∧ z.ex = true := by
 rcases glZ_cases h with ⟨rfl,rfl⟩ | ⟨rfl,rfl⟩ <;> exact ⟨rfl,rfl⟩
theorem bru_one : bruCells.all one = true := by simp [bruCells,bruTab,one]
theorem space_one : spaceCells.all one = true := by
 simp only [spaceCells,rep8,List.all_append,List.all_replicate,one]
 rfl
theorem glZ_one {k : Nat} {z : Zr} (h : glZ k = some z) : z.cs.all one = true := by
 rcases glZ_cases h with ⟨_,rfl⟩ | ⟨_,rfl⟩
 ·exact bru_one
 ·exact space_one
def GZ (ζ : Zeta) : Prop := ∀ k z,glZ k = some z → ζ k = some z
end Go.Den
/- Pen, part C: one operation on trees. -/
namespace Go.Den
def ofV : Value → Option PV
 | .agg a => if a.toList.all one = true then some (.agg (a.toList.map .v)) else none
 | .tuple a => if a.toList.all one = true then some (.tup (a.toList.map .v)) else none
 | .func (.func f) a c => if a.size = 0 ∧ c.size = 0 then some (.fn f [] []) else some (.v (.func (.func f) a c))
 | x => some (.v x)
abbrev PEnv := T PV
def pea (E : PEnv) : Arg → Option PV
 | .tmp t => E.get t
 | .val x => ofV x
def pei (E : PEnv) (a : Arg) : Option Value := match pea E a with | some (.v x) => some x | _ => none
def peas (E : PEnv) : List Arg → Option (List PV)
 | [] => some []
 | a :: as => match pea E a,peas E as with
  | some p,some ps => some (p :: ps)
  | _,_ => none
def peap (E : PEnv) : List (Nat × Nat × Arg) → Option (List (Nat × Nat × PV))
 | [] => some []
 | (o,n,a) :: as => match pea E a,peap E as with
  | some p,some ps => some ((o,n,p) :: ps)
  | _,_ => none
def peo (E : PEnv) : Option Arg → Option (Option Value)
 | none => some none
 | some a => match pei E a with | some x => some (some x) | none => none
def pcells : PV → List PV
 | .agg cs => cs
 | p => [p]
def pone : PV → Bool
 | .agg _ | .tup _ => false
 | _ => true
def psl (cs : List PV) (o : Nat) (vs : List PV) : List PV := cs.take o ++ vs ++ cs.drop (o + vs.length)
def pfill (cs : List PV) : List (Nat × Nat × PV) → Option (List PV)
 | [] => some cs
 | (o,n,p) :: rest => if (pcells p).length = n ∧ o + n ≤ cs.length then pfill (psl cs o (pcells p)) rest else none
def cut (cs : List PV) (o n : Nat) : List PV := (cs.drop o).take n
def allNl (l : List PV) : Prop := l.all nl = true
def allOne (l : List PV) : Prop := l.all pone = true
instance (l : List PV) : Decidable (allNl l) := inferInstanceAs (Decidable (_ = _))
instance (l : List PV) : Decidable (allOne l) := inferInstanceAs (Decidable (_ = _))
def unp : PV → Nat → Option (PV × LObj)
 | .ow t n cap xs,j => some (.slc j 0 n cap,.row t xs)
 | .bx t xs,j => some (.ptr j 0,.row t xs)
 | .ifc t p,j => match unp p j with | some (q,o) => some (.ifc t q,o) | none => none
 | _,_ => none
abbrev PRes := Option (PV × List LObj × Bool)
def prow (L : List LObj) (i : Nat) : Option (TypeId × List PV) := match L[i]? with | some (.row t cs) => some (t,cs) | _ => none
def pload (L : List LObj) (agg : Option Nat) : PV → PRes
 | .ptr i o => match prow L i with
  | some (t,cs) => match agg with
   | none => match cs[o]? with
    | some q => if nl q = true then some (q,L,true) else match unp q L.length with
     | some (q',ob) => some (q',L.set i (.row t (psl cs o [q'])) ++ [ob],true)
     | none => none
    | none => none
   | some n => if o + n ≤ cs.length ∧ allNl (cut cs o n) then some (.agg (cut cs o n),L,true) else none
  | none => none
 | .fp cs => match agg with
  | none => match cs with | q :: _ => some (q,L,true) | [] => none
  | some n => if 0 < n ∧ n ≤ cs.length then some (.agg (cs.take n),L,true) else none
 | _ => none
def peqNil : NilK → PV → PV → Option Bool
 | k,.v a,.v b => eqNilV k a b
 | .slice,.slc _ _ n _,.v (.slice none _ _) => if n = 0 then none else some false
 | .slice,.v (.slice none _ _),.slc _ _ n _ => if n = 0 then none else some false
 | .slice,.fz _ n _,.v (.slice none _ _) => if n = 0 then none else some false
 | .slice,.v (.slice none _ _),.fz _ n _ => if n = 0 then none else some false
 | .map,.mapr _,.v (.map none) => some false
 | .map,.v (.map none),.mapr _ => some false
 | .func,.fn ..,.v .nilFunc => some false
 | .func,.v .nilFunc,.fn .. => some false
 | .ptr,.ptr ..,.v (.pointer none) => some false
 | .ptr,.v (.pointer none),.ptr .. => some false
 | .ptr,.fp ..,.v (.pointer none) => some false
 | .ptr,.v (.pointer none),.fp .. => some false
 | _,_,_ => none
def psrc (L : List LObj) (size : Nat) : PV → Option (List PV × Nat)
 | .v (.slice none n _) => if n = 0 then some ([],0) else none
 | .slc i o n _ => match prow L i with
  | some (_,cs) => if o + n * size ≤ cs.length ∧ allNl (cut cs o (n * size)) then some (cut cs o (n * size),n) else none
  | none => none
 | .fz _ n cs => if cs.length = n * size then some (cs,n) else none
 | .v (.string s) => if size = 1 then some (s.data.toList.map fun b => .v (.int .u8 b.toNat),s.size) else none
 | _ => none
def roomy (n b : Nat) : Prop := (2 * n + 1000) * (b + 1) ≤ 281474976710656
instance (n b : Nat) : Decidable (roomy n b) := inferInstanceAs (Decidable (_ ≤ _))
def pappend (L : List LObj) (t : TypeId) (size bytes : Nat) (s x : PV) : PRes :=
 if bxT t = true then none else match psrc L size x with
 | none => none
 | some (new,m) => match s with
  | .v (.slice none len cap) => if len = 0 ∧ cap = 0 ∧ 1 ≤ size ∧ roomy m bytes ∧ allOne new then some (.slc L.length 0 m m,L ++ [.row t new],true) else none
  | .fz t' n cs => if m = 0 then some (.fz t' n cs,L,true) else none
  | .slc i o len cap => match prow L i with
   | some (t',cs) => if allOne new ∧ o = 0 ∧ len = cap ∧ t' = t ∧ cs.length = len * size ∧ 1 ≤ size ∧ roomy (len + m) bytes then
     some (.slc L.length 0 (len + m) (len + m),L.set i .dead ++ [.row t (cs ++ new)],true)
    else if m = 0 then some (.slc i o len cap,L,true)
    else if allOne new then
     if len + m ≤ cap then (if o + len * size + new.length ≤ cs.length then some (.slc i o (len + m) cap,L.set i (.row t' (psl cs (o + len * size) new)),false) else none)
     else if t' = t ∧ roomy (len + m) bytes ∧ o + len * size ≤ cs.length ∧ 1 ≤ size then
      some (.slc L.length 0 (len + m) (len + m),L.set i .dead ++ [.row t (cut cs o (len * size) ++ new)],decide (o + len * size = cs.length ∧ len = cap)) else none
    else none
   | none => none
  | _ => none
def pfind (kk : KeyK) (k : Value) : List (Value × PV × Nat) → Nat → Option (Option (Nat × PV))
 | [],_ => some none
 | e :: es,i => match keyEq kk k e.1 with
  | some true => some (some (i,e.2.1))
  | some false => pfind kk k es (i + 1)
  | none => none
def pmap (L : List LObj) : PV → Option (List (Value × PV × Nat) × Nat)
 | .mapr i => match L[i]? with
  | some (.map es c) => some (es,c)
  | some (.rmap es c) => some (es,c)
  | _ => none
 | .v (.map none) => some ([],0)
 | _ => none
def pval (L : List LObj) : Option Value → PRes
 | some x => some (.v x,L,true)
 | none => none
def aggOf' (cs : List PV) (o : Nat) (agg : Option Nat) (L : List LObj) : PRes := match agg with
 | none => match cs[o]? with | some q => some (q,L,true) | none => none
 | some n => some (.agg (cut cs o n),L,true)
def pbyte : PV → Option UInt8
 | .v (.int .u8 n) => some (UInt8.ofNat n.toNat)
 | _ => none
def pbytes : List PV → Option (List UInt8)
 | [] => some []
 | p :: ps => match pbyte p,pbytes ps with
  | some b,some bs => some (b :: bs)
  | _,_ => none
def pev (E : PEnv) (L : List LObj) : IOp → PRes
 | .mov x => match pea E x with | some p => some (p,L,true) | none => none
 | .pick c a b => match pei E c with
  | some (.bool t) => match (bif t then pea E a else pea E b) with | some p => some (p,L,true) | none => none
  | _ => none
 | .box t x => match pea E x with | some p => some (.ptr L.length 0,L ++ [.row t (pcells p)],true) | none => none
 | .build zero ps => match peap E ps with
  | some ps => if zero.all one = true then match pfill (zero.map .v) ps with | some cs => some (.agg cs,L,true) | none => none else none
  | none => none
 | .buildSlice t len zero ps => match peap E ps with
  | some ps => if zero.all one = true then match pfill (zero.map .v) ps with | some cs => some (.slc L.length 0 len len,L ++ [.row t cs],true) | none => none else none
  | none => none
 | .load agg a => match pea E a with | some p => pload L agg p | none => none
 | .store n a v => match pea E a,pea E v with
  | some (.ptr i o),some p => match prow L i with
   | some (t,cs) => if (pcells p).length = n ∧ o + n ≤ cs.length ∧ allOne (pcells p) then some (.tup [],L.set i (.row t (psl cs o (pcells p))),false) else none
   | none => none
  | _,_ => none
 | .nilCheck x => match pea E x with
  | some (.ptr i o) => some (.ptr i o,L,true)
  | some (.fp cs) => some (.fp cs,L,true)
  | some (.fn f a c) => some (.fn f a c,L,true)
  | _ => none
 | .arith op x y => match pei E x,pei E y with
  | some a,some b => match arithV op a b with | some r => if one r = true then some (.v r,L,true) else none | none => none
  | _,_ => none
 | .eqBool neg x y => match pei E x,pei E y with
  | some (.bool a),some (.bool b) => some (.v (.bool ((a == b) != neg)),L,true)
  | _,_ => none
 | .eqNil k neg x y => match pea E x,pea E y with
  | some a,some b => match peqNil k a b with
   | some r => some (.v (.bool (r != neg)),L,true)
   | none => none
  | _,_ => none
 | .eqPtr neg x y => match pea E x,pea E y with
  | some (.ptr i o),some (.ptr j o') => if i = j then some (.v (.bool ((o == o') != neg)),L,true) else none
  | some a,some b => match peqNil .ptr a b with
   | some r => some (.v (.bool (r != neg)),L,true)
   | none => none
  | _,_ => none
 | .un op x => match pei E x with
  | some a => match unV op a with | some r => if one r = true then some (.v r,L,true) else none | none => none
  | none => none
 | .toInt k x => match pei E x with
  | some (.int _ n) => some (.v (.int k (k.wrap n)),L,true)
  | _ => none
 | .iface t x => match pea E x with
  | some p => some (.ifc t p,L,true)
  | none => none
 | .func f first captured => match peas E first,peas E captured with
  | some a,some b => some (.fn f a b,L,true)
  | _,_ => none
 | .makeSlice t bytes zero l c => match pei E l,pei E c with
  | some (.int _ l),some (.int _ c) => if (0 ≤ l ∧ l ≤ c ∧ c ≤ 9223372036854775807 ∧ (bytes : Int) * c ≤ 281474976710656) ∧ zero.all one = true then
    some (.slc L.length 0 l.toNat c.toNat,L ++ [.row t ((repl zero c.toNat).map .v)],true) else none
  | _,_ => none
 | .makeMap => some (.mapr L.length,L ++ [.map [] 0],true)
 | .slice t size x lo hi mx => match peo E lo,peo E hi,peo E mx with
  | some lo,some hi,some mx => match pea E x with
   | some (.slc i o len cap) => match boundsV len cap lo hi mx with
    | some (l,h,m) => if l = 0 ∨ (prow L i).map (·.1) = some t then some (.slc i (o + l * size) (h - l) (m - l),L,true) else none
    | none => none
   | some (.fz t' n cs) => match mx with
    | none => match boundsV n n lo hi none with
     | some (l,h,_) => if t' = t ∧ h * size ≤ cs.length then some (.fz t' (h - l) (cut cs (l * size) ((h - l) * size)),L,true) else none
     | none => none
    | some _ => none
   | some (.v (.slice none len cap)) => match boundsV len cap lo hi mx with
    | some (l,h,m) => some (.v (.slice none (h - l) (m - l)),L,true)
    | none => none
   | _ => none
  | _,_,_ => none
 | .sliceStr x lo hi => match pei E x,peo E lo,peo E hi with
  | some (.string s),some lo,some hi => match boundsV s.size s.size lo hi none with
   | some (l,h,_) => some (.v (.string (s.extract l h)),L,true)
   | none => none
  | _,_,_ => none
 | .sliceArr n size x lo hi mx => match peo E lo,peo E hi,peo E mx with
  | some lo,some hi,some mx => match pea E x with
   | some (.ptr i o) => match boundsV n n lo hi mx with
    | some (l,h,m) => some (.slc i (o + l * size) (h - l) (m - l),L,true)
    | none => none
   | _ => none
  | _,_,_ => none
 | .fieldAddr off x => match pea E x with
  | some (.ptr i o) => some (.ptr i (o + off),L,true)
  | some (.fp cs) => if off ≤ cs.length then some (.fp (cs.drop off),L,true) else none
  | _ => none
 | .field off agg x => match pea E x with
  | some (.agg cs) => aggOf' cs off agg L
  | _ => none
 | .indexAddr size x i => match pea E x,pei E i with
  | some (.slc j o len _),some (.int _ n) => if 0 ≤ n ∧ n < (len : Int) then some (.ptr j (o + n.toNat * size),L,true) else none
  | some (.fz _ len cs),some (.int _ n) => if 0 ≤ n ∧ n < (len : Int) ∧ (cut cs (n.toNat * size) size).length = size then some (.fp (cut cs (n.toNat * size) size),L,true) else none
  | _,_ => none
 | .indexAddrArr len size x i => match pea E x,pei E i with
  | some (.ptr j o),some (.int _ n) => if 0 ≤ n ∧ n < (len : Int) then some (.ptr j (o + n.toNat * size),L,true) else none
  | some (.fp cs),some (.int _ n) => if 0 ≤ n ∧ n < (len : Int) ∧ n.toNat * size ≤ cs.length then some (.fp (cs.drop (n.toNat * size)),L,true) else none
  | some (.v (.pointer (some a))),some (.int _ n) => match glZ a.block with
   | some z => if a.off = 0 ∧ a.spot = none ∧ 0 ≤ n ∧ n < (len : Int) ∧ n.toNat * size ≤ z.cs.length then some (.fp ((z.cs.drop (n.toNat * size)).map .v),L,true) else none
   | none => none
  | _,_ => none
 | .indexStr x i => match pei E x,pei E i with
  | some (.string s),some (.int _ n) => if 0 ≤ n then (match s[n.toNat]? with | some b => some (.v (.int .u8 b.toNat),L,true) | none => none) else none
  | _,_ => none
 | .indexArr len size agg x i => match pea E x,pei E i with
  | some (.agg cs),some (.int _ n) => if 0 ≤ n ∧ n < (len : Int) then aggOf' cs (n.toNat * size) agg L else none
  | _,_ => none
 | .extract x i => match pea E x with
  | some (.tup cs) => match cs[i]? with | some q => some (q,L,true) | none => none
  | _ => none
 | .lookup kk zero ok m k => match pea E m,pei E k,ofV zero with
  | some m,some k,some z => match pmap L m with
   | some (es,_) => if keyOk kk k = true then
     match pfind kk k es 0 with
     | some (some (_,q)) => if nl q = true then some (bif ok then .tup [q,.v (.bool true)] else q,L,true) else none
     | some none => some (bif ok then .tup [z,.v (.bool false)] else z,L,true)
     | none => none
    else none
   | none => none
  | _,_,_ => none
 | .mapUpdate kk m k v => match pea E m,pei E k,pea E v with
  | some (.mapr i),some k,some p => match L[i]? with
   | some (.map es c) => if keyOk kk k = true then
     match pfind kk k es 0 with
     | some (some (j,_)) => some (.tup [],L.set i (.map (es.modify j fun e => (k,p,e.2.2)) c),false)
     | some none => some (.tup [],L.set i (.map (es ++ [(k,p,c)]) (c + 1)),false)
     | none => none
    else none
   | _ => none
  | _,_,_ => none
 | .assertTo t zero ok x => match pea E x,ofV zero with
  | some (.ifc t' p),some z => if t = t' then some (bif ok then .tup [p,.v (.bool true)] else p,L,true) else bif ok then some (.tup [z,.v (.bool false)],L,true) else none
  | some (.v .nilIface),some z => bif ok then some (.tup [z,.v (.bool false)],L,true) else none
  | _,_ => none
 | .lenStr x => match pei E x with
  | some (.string s) => some (.v (mkInt s.size),L,true)
  | _ => none
 | .lenSl x => match pea E x with
  | some (.slc _ _ n _) => some (.v (mkInt n),L,true)
  | some (.fz _ n _) => some (.v (mkInt n),L,true)
  | some (.v (.slice none n _)) => some (.v (mkInt n),L,true)
  | _ => none
 | .lenMap x => match pea E x with
  | some m => match pmap L m with
   | some (es,_) => some (.v (mkInt es.length),L,true)
   | none => none
  | none => none
 | .lenArr n => some (.v (mkInt n),L,true)
 | .ofBytes x => match pea E x with
  | some (.slc i o n c) => match psrc L 1 (.slc i o n c) with
   | some (cs,_) => match pbytes cs with
    | some bs => some (.v (.string ⟨bs.toArray⟩),L,true)
    | none => none
   | none => none
  | _ => none
 | .append t size bytes s x => match pea E s,pea E x with
  | some s,some x => pappend L t size bytes s x
  | _,_ => none
 | .minMax mx x y => match pei E x,pei E y with
  | some (.int k a),some (.int k' b) => if k = k' then some (.v (.int k (bif mx then (if b > a then b else a) else (if b < a then b else a))),L,true) else none
  | _,_ => none
 | .rangeStr x => match pei E x with
  | some (.string s) => some (.ptr L.length 0,L ++ [.iter s 0],true)
  | _ => none
 | .nextStr x => match pea E x with
  | some (.ptr i 0) => match L[i]? with
   | some (.iter s pos) => if pos + 1 ≤ s.size then some (.tup [.v (.bool true),.v (mkInt pos),.v (.int .i32 (Utf8.decode s pos).1)],L.set i (.iter s (pos + (Utf8.decode s pos).2)),false)
    else some (.tup [.v (.bool false)],L,true)
   | _ => none
  | _ => none
 | .clear zero x => match pea E x with
  | some (.slc i o len _) => if len = 0 then some (.tup [],L,true) else match prow L i with
   | some (t,cs) => if o + len * zero.length ≤ cs.length ∧ zero.all one = true then some (.tup [],L.set i (.row t (psl cs o ((repl zero len).map .v))),false) else none
   | none => none
  | _ => none
 | _ => none
variable {ρ ρ' : Rho} {ζ ζ' : Zeta} {A A' : Nat → Prop} {H H' : AH} {f f' : Nat → Nat} {E : PEnv} {e : Env} {L : List LObj}
theorem EnvP.set (h : EnvP ρ ζ E e) {d : Nat} {p : PV} {x : Value} (hv : VP ρ ζ p x) : EnvP ρ ζ (E.set d p) (e.set d x) := by
 intro t q hq
 rw [T.get_set] at hq
 by_cases c : t = d
 ·subst c; rw [if_pos rfl] at hq; cases hq; exact ⟨x,by rw [T.get_set,if_pos rfl],hv⟩
 ·rw [if_neg c] at hq
  obtain ⟨y,a,b⟩ := h t q hq
  exact ⟨y,by rw [T.get_set,if_neg c]; exact a,b⟩
theorem vl_map {l : List Value} (h : l.all one = true) : VPL ρ ζ (l.map .v) l := by
 induction l with
 | nil => exact .nil
 | cons a l ih =>
  simp only [List.all_cons,Bool.and_eq_true] at h
  exact .cons (.v h.1) (ih h.2)
theorem ofV_ok {x : Value} {p : PV} (h : ofV x = some p) : VP ρ ζ p x := by
 unfold ofV at h
 split at h
 ·split at h
  ·rename_i a hh; cases h
   have := VP.agg' (vl_map (ρ := ρ) (ζ := ζ) hh)
   simpa using this
  ·cases h
 ·split at h
  ·rename_i a hh; cases h
   have := VP.tup' (vl_map (ρ := ρ) (ζ := ζ) hh)
   simpa using this
  ·cases h
 ·split at h
  ·rename_i f a c hh; cases h
   exact .fn (by simp [hh.1]) (fun i h _ => by simp at h) (by simp [hh.2]) (fun i h _ => by simp at h)
  ·cases h; exact .v rfl
 ·rename_i h1 h2 _
  cases h
  refine .v ?_
  cases x <;> first | rfl | exact absurd rfl (h1 _) | exact absurd rfl (h2 _)
theorem pak (he : EnvP ρ ζ E e) {a : Arg} {p : PV} (h : pea E a = some p) : ∃ x,ea e a = some x ∧ VP ρ ζ p x := by
 cases a with
 | tmp t => exact he t p h
 | val x => exact ⟨x,rfl,ofV_ok h⟩
theorem VP.v_inv {x y : Value} (h : VP ρ ζ (.v x) y) : y = x ∧ one x = true := by cases h with | v h => exact ⟨rfl,h⟩
theorem pei_ok (he : EnvP ρ ζ E e) {a : Arg} {x : Value} (h : pei E a = some x) : ea e a = some x ∧ one x = true := by
 unfold pei at h
 split at h
 ·rename_i y hy
  cases h
  obtain ⟨z,h1,h2⟩ := pak he hy
  obtain ⟨rfl,h3⟩ := h2.v_inv
  exact ⟨h1,h3⟩
 ·cases h
theorem peas_ok (he : EnvP ρ ζ E e) : ∀ {as : List Arg} {ps : List PV},peas E as = some ps → ∃ xs,eas e as = some xs ∧ VPL ρ ζ ps xs := by
 intro as
 induction as with
 | nil => intro ps h; cases h; exact ⟨[],rfl,.nil⟩
 | cons a as ih =>
  intro ps h
  simp only [peas] at h
  split at h
  ·rename_i p ps' h1 h2
   cases h
   obtain ⟨x,a1,a2⟩ := pak he h1
   obtain ⟨xs,b1,b2⟩ := ih h2
   exact ⟨x :: xs,by simp only [eas,a1,b1],.cons a2 b2⟩
  ·cases h
theorem peap_ok (he : EnvP ρ ζ E e) : ∀ {as : List (Nat × Nat × Arg)} {ps : List (Nat × Nat × PV)},peap E as = some ps → ∃ xs,eap e as = some xs ∧ F2 (fun p x => p.1 = x.1 ∧ p.2.1 = x.2.1 ∧ VP ρ ζ p.2.2 x.2.2) ps xs := by
 intro as
 induction as with
 | nil => intro ps h; cases h; exact ⟨[],rfl,.nil⟩
 | cons a as ih =>
  obtain ⟨o,n,a⟩ := a
  intro ps h
  simp only [peap] at h
  split at h
  ·rename_i p ps' h1 h2
   cases h
   obtain ⟨x,a1,a2⟩ := pak he h1
   obtain ⟨xs,b1,b2⟩ := ih h2
   exact ⟨(o,n,x) :: xs,by simp only [eap,a1,b1],.cons ⟨rfl,rfl,a2⟩ b2⟩
  ·cases h
theorem peo_ok (he : EnvP ρ ζ E e) {a : Option Arg} {x : Option Value} (h : peo E a = some x) : eao e a = some x := by
 cases a with
 | none => cases h; rfl
 | some a =>
  simp only [peo] at h
  split at h
  ·rename_i y hy; cases h; simp only [eao,(pei_ok he hy).1,Option.map_some]
  ·cases h
theorem VP.cells {p : PV} {x : Value} (h : VP ρ ζ p x) : VPL ρ ζ (pcells p) (vcl x) := by
 cases h with
 | v h => cases x <;> first | exact .cons (.v h) .nil | (simp [Den.one] at h)
 | ptr h => exact .cons (.ptr h) .nil
 | slc h h1 => exact .cons (.slc h h1) .nil
 | slcN h => exact .cons (.slcN h) .nil
 | mapr h => exact .cons (.mapr h) .nil
 | yl h => exact .cons (.yl h) .nil
 | fn h1 h2 h3 h4 => exact .cons (.fn h1 h2 h3 h4) .nil
 | ifc h => exact .cons (.ifc h) .nil
 | agg h1 h2 => exact VPL.of_arr h1 h2
 | tup h1 h2 => exact .cons (.tup h1 h2) .nil
 | fz h1 h0 h2 h3 h4 h5 h6 => exact .cons (.fz h1 h0 h2 h3 h4 h5 h6) .nil
 | fz0 h => exact .cons (.fz0 h) .nil
 | fp h1 h0 h3 h4 h5 => exact .cons (.fp h1 h0 h3 h4 h5) .nil
theorem VP.one {p : PV} {x : Value} (h : VP ρ ζ p x) : Den.one x = pone p := by
 cases h with
 | v h => exact h
 | _ => rfl
theorem VPL.one {ps : List PV} {xs : List Value} (h : VPL ρ ζ ps xs) (ho : ps.all pone = true) : xs.all Den.one = true := by
 induction h with
 | nil => rfl
 | cons h _ ih =>
  simp only [List.all_cons,Bool.and_eq_true] at ho ⊢
  exact ⟨h.one.trans ho.1,ih ho.2⟩
theorem VPL.cut {cs : List PV} {xs : List Value} (h : VPL ρ ζ cs xs) (o n : Nat) : VPL ρ ζ (Den.cut cs o n) ((xs.drop o).take n) := (h.drop o).take n
theorem VPL.splice {cs vs : List PV} {l xs : List Value} {o : Nat} (h : VPL ρ ζ cs l) (hv : VPL ρ ζ vs xs) : VPL ρ ζ (psl cs o vs) (Den.splice l o xs) := by
 unfold psl Den.splice
 rw [hv.length]
 exact ((h.take o).append hv).append (h.drop _)
theorem pfill_ok : ∀ {ps : List (Nat × Nat × PV)} {xs : List (Nat × Nat × Value)} {cs : List PV} {l : List Value} {cs' : List PV},F2 (fun p x => p.1 = x.1 ∧ p.2.1 = x.2.1 ∧ VP ρ ζ p.2.2 x.2.2) ps xs → VPL ρ ζ cs l → pfill cs ps = some cs' → ∃ l',fillL l xs = some l' ∧ VPL ρ ζ cs' l' := by
 intro ps
 induction ps with
 | nil => intro xs cs l cs' h1 h2 h3; cases h1; cases h3; exact ⟨l,rfl,h2⟩
 | cons p ps ih =>
  obtain ⟨o,n,p⟩ := p
  intro xs cs l cs' h1 h2 h3
  cases h1 with
  | cons h1 ht =>
  rename_i x xs
  obtain ⟨o',n',x⟩ := x
  obtain ⟨e1,e2,e3⟩ := h1
  simp only at e1 e2 e3
  subst e1; subst e2
  simp only [pfill] at h3
  split at h3
  ·rename_i hc
   obtain ⟨l',a,b⟩ := ih ht (h2.splice e3.cells) h3
   refine ⟨l', ?_,b⟩
   simp only [fillL]
   rw [show (vcl x).length = n from by rw [← e3.cells.length]; exact hc.1]
   rw [show Nat.beq n n = true from Nat.beq_refl n,show Nat.ble (o + n) l.length = true from Nat.ble_eq_true_of_le (by rw [← h2.length]; exact hc.2)]
   exact a
  ·cases h3
def Res (A : Nat → Prop) (ρ : Rho) (ζ : Zeta) (H : AH) (e : Env) (op : IOp) (p : PV) (L' : List LObj) (q : Bool) : Prop :=
 ∃ x H' ρ',(∀ inv,ev inv e H op = some (.ret x,H')) ∧ ρ.Le ρ' ∧ RH A ρ' ζ L' H' ∧ VP ρ' ζ p x ∧ Only H H' A ∧ (q = true → ∀ b,b ≤ H.low → b ≤ H.next → b ≤ H'.low)
theorem Res.pure {op : IOp} {p : PV} {x : Value} {q : Bool} (hr : RH A ρ ζ L H) (h : ∀ inv,ev inv e H op = some (.ret x,H)) (hv : VP ρ ζ p x) : Res A ρ ζ H e op p L q :=
 ⟨x,H,ρ,h,.refl _,hr,hv,Only.refl H A,fun _ _ h _ => h⟩
theorem prow_some {i : Nat} {t : TypeId} {cs : List PV} (h : prow L i = some (t,cs)) : L[i]? = some (.row t cs) := by
 unfold prow at h
 split at h
 ·rename_i h1; cases h; exact h1
 ·cases h
theorem RHg.row {g : Nat → Nat → Nat} (h : RHg A ρ ζ L H g) {i : Nat} {t : TypeId} {cs : List PV} (hp : prow L i = some (t,cs)) :
  i < L.length ∧ ((∃ k r cells f',ρ i = some (some k) ∧ Own H k r t cells ∧ A k ∧ A r ∧ WL A ρ ζ H f' cs cells ∧ ∀ x,(if x = r then 1 else 0) + f' x ≤ g i x) ∨ (cs = [] ∧ ρ i = some none)) := by
 have h1 := prow_some hp
 exact ⟨(List.getElem?_eq_some_iff.1 h1).1,h.objs _ _ h1⟩
theorem RHg.rowK {g : Nat → Nat → Nat} (h : RHg A ρ ζ L H g) {i k : Nat} {t : TypeId} {cs : List PV} (hp : prow L i = some (t,cs)) (hk : ρ i = some (some k)) :
  i < L.length ∧ ∃ r cells f',Own H k r t cells ∧ A k ∧ A r ∧ WL A ρ ζ H f' cs cells ∧ ∀ x,(if x = r then 1 else 0) + f' x ≤ g i x := by
 obtain ⟨hi,⟨k',r,cells,f',h1,h2⟩ | ⟨h1,h2⟩⟩ := h.row hp
 ·rw [hk] at h1; cases h1; exact ⟨hi,r,cells,f',h2⟩
 ·rw [hk] at h2; cases h2
theorem RHg.rowN {g : Nat → Nat → Nat} (h : RHg A ρ ζ L H g) {i : Nat} {t : TypeId} {cs : List PV} (hp : prow L i = some (t,cs)) (hk : ρ i = some none) : i < L.length ∧ cs = [] := by
 obtain ⟨hi,⟨k',r,cells,f',h1,h2⟩ | ⟨h1,h2⟩⟩ := h.row hp
 ·rw [hk] at h1; cases h1
 ·exact ⟨hi,h1⟩
theorem VP.ptr_inv {i o : Nat} {x : Value} (h : VP ρ ζ (.ptr i o) x) : ∃ k,ρ i = some (some k) ∧ x = .pointer (some ⟨k,o,none⟩) := by cases h with | ptr h => exact ⟨_,h,rfl⟩
theorem VP.slc_inv {i o n c : Nat} {x : Value} (h : VP ρ ζ (.slc i o n c) x) : (∃ k,ρ i = some (some k) ∧ n ≤ c ∧ x = .slice (some ⟨k,o,none⟩) n c) ∨ (ρ i = some none ∧ o = 0 ∧ n = 0 ∧ c = 0 ∧ x = .slice none 0 0) := by
 cases h with
 | slc h h1 => exact .inl ⟨_,h,h1,rfl⟩
 | slcN h => exact .inr ⟨h,rfl,rfl,rfl,rfl⟩
theorem VP.fp_inv {cs : List PV} {x : Value} (h : VP ρ ζ (.fp cs) x) : ∃ k o z,ζ k = some z ∧ o ≤ z.cs.length ∧ VPL ρ ζ cs ((z.cs.drop o).take cs.length) ∧ x = .pointer (some ⟨k,o,none⟩) := by
 cases h with | fp h1 h0 h3 h4 h5 => subst h3; exact ⟨_,_,_,h1,h0,F2.of_idx h4 h5,rfl⟩
theorem VP.fz_inv {t : TypeId} {n : Nat} {cs : List PV} {x : Value} (h : VP ρ ζ (.fz t n cs) x) : (n = 0 ∧ cs = [] ∧ ∃ a,x = .slice a 0 0 ∧ ∀ b,a = some b → b.spot.isSome = true) ∨ ∃ k o z cap,ζ k = some z ∧ o ≤ z.cs.length ∧ (z.ex = true ∨ z.t = t) ∧ VPL ρ ζ cs ((z.cs.drop o).take cs.length) ∧ n ≤ cap ∧ x = .slice (some ⟨k,o,none⟩) n cap := by
 cases h with
 | fz h1 h0 h2 h3 h4 h5 h6 => subst h3; exact .inr ⟨_,_,_,_,h1,h0,h2,F2.of_idx h4 h5,h6,rfl⟩
 | fz0 h => exact .inl ⟨rfl,rfl,_,rfl,h⟩
theorem VP.fzN {t : TypeId} : VP ρ ζ (.fz t 0 []) (.slice none 0 0) := .fz0 fun _ h => by cases h
theorem VP.mapr_inv {i : Nat} {x : Value} (h : VP ρ ζ (.mapr i) x) : ∃ k,ρ i = some (some k) ∧ x = .map (some k) := by cases h with | mapr h => exact ⟨_,h,rfl⟩
theorem VP.agg_inv {cs : List PV} {x : Value} (h : VP ρ ζ (.agg cs) x) : ∃ a,x = .agg a ∧ VPL ρ ζ cs a.toList := by cases h with | agg h1 h2 => exact ⟨_,rfl,VPL.of_arr h1 h2⟩
theorem VP.tup_inv {cs : List PV} {x : Value} (h : VP ρ ζ (.tup cs) x) : ∃ a,x = .tuple a ∧ VPL ρ ζ cs a.toList := by cases h with | tup h1 h2 => exact ⟨_,rfl,VPL.of_arr h1 h2⟩
theorem VP.ifc_inv {t : TypeId} {p : PV} {x : Value} (h : VP ρ ζ (.ifc t p) x) : ∃ y,x = .iface t y ∧ VP ρ ζ p y := by cases h with | ifc h => exact ⟨_,rfl,h⟩
theorem VP.fn_inv {f : FuncId} {a c : List PV} {x : Value} (h : VP ρ ζ (.fn f a c) x) : ∃ a' c',x = .func (.func f) a' c' ∧ VPL ρ ζ a a'.toList ∧ VPL ρ ζ c c'.toList := by
 cases h with | fn h1 h2 h3 h4 => exact ⟨_,_,rfl,VPL.of_arr h1 h2,VPL.of_arr h3 h4⟩
theorem frz_row {g : Nat → Nat → Nat} (h : RHg A ρ ζ L H g) {k : Nat} {z : Zr} (hz : ζ k = some z) : H.row k = some z.cs := by
 obtain ⟨h1,_⟩ := h.frz k z hz; exact h1.rowAt.row
theorem frz_ty {g : Nat → Nat → Nat} (h : RHg A ρ ζ L H g) {k : Nat} {z : Zr} {t : TypeId} (hz : ζ k = some z) (ht : z.ex = true ∨ z.t = t) : H.tyOk k t = true := by
 obtain ⟨h1,_⟩ := h.frz k z hz
 obtain ⟨ro,thr,tip,h2⟩ := h1.at_
 unfold AH.tyOk
 rw [h2]
 rcases ht with h3 | h3 <;> simp [h3]
theorem own_ty {k r : Nat} {t : TypeId} {cells : List Value} (h : Own H k r t cells) : H.tyOk k t = true := by
 rcases h.own with ⟨_,ex,thr,_,h2⟩ | ⟨_,⟨thr,tip,h2⟩,_⟩ <;> simp [AH.tyOk,h2]
theorem RHg.newRow {g : Nat → Nat → Nat} (h : RHg A ρ ζ L H g) {t : TypeId} {cs : List PV} {cells : List Value} (ex : Bool) (hc : VPL ρ ζ cs cells) (hx : bxT t = true → ex = true := by intros; rfl) :
  RH A (ρ.add L.length (some H.next)) ζ (L ++ [.row t cs]) (H.push (.cells cells t false ex H.next H.next H.next)) ∧ Only H (H.push (.cells cells t false ex H.next H.next H.next)) A :=
 ⟨h.push (.inl ⟨H.next,H.next,cells,fun _ => 0,by simp,Own.new H t cells ex hx,h.acc _ (Nat.le_refl _),h.acc _ (Nat.le_refl _),WL.of_vpl (hc.mono (Rho.le_add h.fresh) (.refl _)),fun x => by simp⟩),Only.push _ _ _⟩
end Go.Den
/- Pen, part D: one operation on trees is right. -/
namespace Go.Den
variable {ρ ρ' : Rho} {ζ ζ' : Zeta} {A A' : Nat → Prop} {H H' : AH} {f f' : Nat → Nat} {E : PEnv} {e : Env} {L L' : List LObj} {g : Nat → Nat → Nat} {p : PV} {q : Bool}
theorem write_wf {k : Nat} {cs' : List Value} (h : H.write k cs' = some H') (hw : ∀ j o,H.get j = some o → j < H.next) : ∀ j o,H'.get j = some o → j < H'.next := by
 unfold AH.write at h
 split at h
 ·rename_i cs t ex root thr tip hg
  have hk := hw _ _ hg
  simp only [cond_eq_ite] at h
  split at h
  ·split at h
   ·cases h; intro j o hj; rw [AH.gpt] at hj; show j < H.next; split at hj
    ·omega
    ·exact hw _ _ hj
   ·cases h
  ·split at h
   ·rename_i hr
    have hr' := hw _ _ hr
    split at h
    ·cases h; intro j o hj; rw [AH.gtp,AH.gpt] at hj; show j < H.next; split at hj
     ·omega
     ·split at hj
      ·omega
      ·exact hw _ _ hj
    ·cases h
   ·cases h
 ·cases h
theorem grow_wf {k : Nat} {ae : Bool} {t : TypeId} {cs' : List Value} (h : H.grow k ae t cs' = some H') (hw : ∀ j o,H.get j = some o → j < H.next) : ∀ j o,H'.get j = some o → j < H'.next := by
 have push : ∀ (H1 : AH) (o1 : AObj),(∀ j o,H1.get j = some o → j < H1.next) → ∀ j o,(H1.push o1).get j = some o → j < (H1.push o1).next := by
  intro H1 o1 h1 j o hj
  rw [AH.gpu] at hj
  show j < H1.next + 1
  split at hj
  ·omega
  ·have := h1 _ _ hj; omega
 have put : ∀ (i : Nat) (o1 o2 : AObj),H.get i = some o2 → ∀ j o,(H.put i o1).get j = some o → j < (H.put i o1).next := by
  intro i o1 o2 hi j o hj
  have := hw _ _ hi
  rw [AH.gpt] at hj; show j < H.next; split at hj
  ·omega
  ·exact hw _ _ hj
 have put' : ∀ (i : Nat) (o1 o2 : AObj),H.get i = some o2 → ∀ j o,(H.put' i o1).get j = some o → j < (H.put' i o1).next := by
  intro i o1 o2 hi j o hj
  have := hw _ _ hi
  rw [AH.gtp] at hj; show j < H.next; split at hj
  ·omega
  ·exact hw _ _ hj
 unfold AH.grow at h
 split at h
 ·simp only [cond_eq_ite] at h; split at h <;> cases h; exact push _ _ hw
 ·rename_i hg
  simp only [cond_eq_ite] at h
  split at h
  ·split at h
   ·split at h
    ·split at h
     ·cases h; exact push _ _ (put' _ _ _ hg)
     ·cases h; exact push _ _ (put _ _ _ hg)
    ·cases h
   ·split at h
    ·rename_i hr
     split at h
     ·split at h
      ·cases h; exact push _ _ (put' _ _ _ hr)
      ·cases h; exact push _ _ (put _ _ _ hr)
     ·cases h
    ·cases h
  ·cases h
 ·cases h
theorem low_of_only {H H' : AH} {S : Nat → Prop} (h : H'.low = H.low) : ∀ b,b ≤ H.low → b ≤ H.next → b ≤ H'.low := fun b h1 _ => h ▸ h1
theorem unp_vp {x : Value} (h : VP ρ ζ p x) (j : Nat) : unp p j = none := by
 induction h with
 | ifc _ ih => simp [unp,ih]
 | _ => rfl
theorem unp_ok {f : Nat → Nat} {x : Value} (h : WP A ρ ζ H f p x) : ∀ {j : Nat} {q : PV} {ob : LObj},ρ j = none → unp p j = some (q,ob) → ∃ k,VP (ρ.add j (some k)) ζ q x ∧ OP A (ρ.add j (some k)) ζ H f j ob := by
 induction h with
 | val h => intro j q ob _ h'; rw [unp_vp h] at h'; cases h'
 | ow g h1 h2 h3 h4 h5 h6 h7 _ =>
  rename_i f t n cap k r cs cells _
  intro j q ob hj h'
  simp only [unp,Option.some.injEq,Prod.mk.injEq] at h'
  obtain ⟨rfl,rfl⟩ := h'
  refine ⟨k,.slc Rho.add_self h4,.inl ⟨k,r,cells,fun x => sumN cs.length (fun i => g i x),Rho.add_self,h1,h2,h3,⟨g,h5,fun i hi hi' => (h6 i hi hi').kp (Kp.refl H (fun _ => False)) (Rho.le_add hj) (.refl _) (fun _ h => h) (fun _ h => h.elim),fun x => Nat.le_refl _⟩,h7⟩⟩
 | bx g h1 h2 h3 h5 h6 h7 _ =>
  rename_i f t k r cs cells _
  intro j q ob hj h'
  simp only [unp,Option.some.injEq,Prod.mk.injEq] at h'
  obtain ⟨rfl,rfl⟩ := h'
  refine ⟨k,.ptr Rho.add_self,.inl ⟨k,r,cells,fun x => sumN cs.length (fun i => g i x),Rho.add_self,h1,h2,h3,⟨g,h5,fun i hi hi' => (h6 i hi hi').kp (Kp.refl H (fun _ => False)) (Rho.le_add hj) (.refl _) (fun _ h => h) (fun _ h => h.elim),fun x => Nat.le_refl _⟩,h7⟩⟩
 | ifc _ ih =>
  intro j q ob hj h'
  simp only [unp] at h'
  split at h'
  ·rename_i q' o' hu
   cases h'
   obtain ⟨k,a,b⟩ := ih hj hu
   exact ⟨k,.ifc a,b⟩
  ·cases h'
theorem window {cs : List PV} {l : List Value} {o : Nat} (h : VPL ρ ζ cs ((l.drop o).take cs.length)) (a n : Nat) : VPL ρ ζ (cut cs a n) ((l.drop (o + a)).take (cut cs a n).length) := by
 have h1 := h.cut a n
 have e : (((l.drop o).take cs.length).drop a).take n = (l.drop (o + a)).take (cut cs a n).length := by
  rw [List.drop_take,List.drop_drop,List.take_take]
  simp only [cut,List.length_take,List.length_drop]
 rw [e] at h1; exact h1
theorem window_drop {cs : List PV} {l : List Value} {o : Nat} (h : VPL ρ ζ cs ((l.drop o).take cs.length)) (a : Nat) : VPL ρ ζ (cs.drop a) ((l.drop (o + a)).take (cs.drop a).length) := by
 have h1 := h.drop a
 have e : ((l.drop o).take cs.length).drop a = (l.drop (o + a)).take (cs.drop a).length := by
  rw [List.drop_take,List.drop_drop,List.length_drop]
 rw [e] at h1; exact h1
theorem window_le {cs : List PV} {l : List Value} {o : Nat} (h : VPL ρ ζ cs ((l.drop o).take cs.length)) (ho : o ≤ l.length) : o + cs.length ≤ l.length := by
 have := h.length; simp at this; omega
theorem pload_ok (hg : RHg A ρ ζ L H g) {agg : Option Nat} {a : PV} {x : Value} {ad : Arg} (ha : ea e ad = some x) (hv : VP ρ ζ a x) (h : pload L agg a = some (p,L',q)) : Res A ρ ζ H e (.load agg ad) p L' q := by
 have hr : RH A ρ ζ L H := ⟨g,hg⟩
 unfold pload at h
 split at h
 ·rename_i i o
  obtain ⟨k,hk,rfl⟩ := hv.ptr_inv
  split at h
  ·rename_i t cs hrow
   obtain ⟨hi,r,cells,f',h2,h3,h4,h5,h6⟩ := hg.rowK hrow hk
   have hrw := h2.rowAt.row
   split at h
   ·split at h
    ·rename_i y hy
     obtain ⟨c,hc,hw⟩ := h5.get hy
     have hev : ∀ inv,ev inv e H (.load none ad) = some (.ret c,H) := fun inv => by simp only [ev,ha,loadV,hrw,hc,okO,Option.isNone_none,cond_true]
     split at h
     ·rename_i hn
      cases h
      exact .pure hr hev (hw.nl hn)
     ·split at h
      ·rename_i q' ob hu
       cases h
       -- the cell's part and the others
       obtain ⟨ho,hy'⟩ := List.getElem?_eq_some_iff.1 hy
       obtain ⟨fa,fb,w1,w2,w3⟩ := h5.take o
       have hd : cs.drop o = [y] ++ cs.drop (o + 1) := by rw [← hy']; simp
       rw [hd] at w2
       obtain ⟨fc,fd,w4,w5,w6⟩ := w2.split
       have hl := h5.length
       have hdc : cells.drop o = [c] ++ cells.drop (o + 1) := by
        obtain ⟨ho',hc'⟩ := List.getElem?_eq_some_iff.1 hc
        rw [← hc']; simp
       rw [hdc] at w4 w5
       simp only [List.length_cons,List.length_nil,List.cons_append,List.nil_append,List.take_succ_cons,List.take_zero,List.drop_succ_cons,List.drop_zero] at w4 w5
       obtain ⟨c',hc',hw'⟩ := w4.get (o := 0) (p := y) rfl
       simp at hc'; subst hc'
       obtain ⟨k2,u1,u2⟩ := unp_ok hw' hg.fresh hu
       have hkr : Kp H H (fun _ => False) := Kp.refl H _
       have up : ∀ {f : Nat → Nat} {a : List PV} {b : List Value},WL A ρ ζ H f a b → WL A (ρ.add L.length (some k2)) ζ H f a b := fun w => w.kp hkr (Rho.le_add hg.fresh) (.refl _) (fun _ h => h) (fun _ h => h.elim)
       have hsp : cells = Den.splice cells o [c] := by
        unfold Den.splice
        rw [List.append_assoc]
        conv => lhs; rw [← List.take_append_drop o cells,hdc]
        simp
       refine ⟨c,H,ρ.add L.length (some k2),hev,Rho.le_add hg.fresh, ?_,u1,Only.refl H A,fun _ _ h _ => h⟩
       refine hg.move (R := fun _ => False) (f1 := fun x => (if x = r then 1 else 0) + (fa x + fd x)) (f2 := fc) hi hkr (fun _ h => h.elim) hg.wf (fun x _ => ?_) (fun h => absurd h (Nat.lt_irrefl _)) (fun _ => ?_) (.inl ⟨k,r,cells,fun x => fa x + fd x,Rho.le_add hg.fresh _ _ hk,h2,h3,h4, ?_,fun x => Nat.le_refl _⟩) u2
       ·have := w3 x; have := w6 x; have := h6 x; omega
       ·have := w3 H.next; have := w6 H.next; have := h6 H.next; omega
       ·have hnew := ((up w1).append (WL.of_vpl (f := fun _ => 0) (.cons u1 .nil))).append (up w5)
        have e1 : List.take o cells ++ [c] ++ List.drop (o + 1) cells = cells := by
         conv => rhs; rw [hsp]
         simp [Den.splice]
        rw [e1] at hnew
        have e2 : psl cs o [p] = List.take o cs ++ [p] ++ List.drop (o + 1) cs := by simp [psl]
        rw [e2]
        exact hnew.le (fun r => by omega)
      ·cases h
    ·cases h
   ·rename_i n
    split at h
    ·rename_i hc
     cases h
     obtain ⟨fa,fb,w1,w2,_⟩ := h5.take o
     obtain ⟨fc,fd,w4,w5,_⟩ := w2.take n
     have hvl : VPL ρ ζ (cut cs o n) ((cells.drop o).take n) := w4.vpl hc.2
     refine .pure hr (fun inv => ?_) (VP.agg' hvl)
     have : Nat.ble (o + n) cells.length = true := Nat.ble_eq_true_of_le (by rw [← h5.length]; exact hc.1)
     simp only [ev,ha,loadV,hrw,okO,this,Option.isNone_none,Bool.and_self,cond_true]
    ·cases h
  ·cases h
 ·rename_i cs
  obtain ⟨k,o,z,hz,ho,hvl,rfl⟩ := hv.fp_inv
  have hrw := frz_row hg hz
  have hle := window_le hvl ho
  split at h
  ·cases cs with
   | nil => cases h
   | cons q0 cs =>
    cases h
    obtain ⟨c,hc,hw⟩ := hvl.get (i := 0) (a := p) rfl
    have hc' : z.cs[o]? = some c := by simpa [List.getElem?_take,List.getElem?_drop] using hc
    exact .pure hr (fun inv => by simp only [ev,ha,loadV,hrw,hc',okO,Option.isNone_none,cond_true]) hw
  ·rename_i n
   split at h
   ·rename_i hc
    cases h
    have hvl' := hvl.take n
    rw [List.take_take,Nat.min_eq_left hc.2] at hvl'
    refine .pure hr (fun inv => ?_) (VP.agg' hvl')
    have : Nat.ble (o + n) z.cs.length = true := Nat.ble_eq_true_of_le (by omega)
    simp only [ev,ha,loadV,hrw,okO,this,Option.isNone_none,Bool.and_self,cond_true]
   ·cases h
 ·cases h
theorem pstore_ok (hg : RHg A ρ ζ L H g) {n i o : Nat} {t : TypeId} {cs : List PV} {y v : Value} {ad vd : Arg} {pv : PV} (ha : ea e ad = some y) (hv : VP ρ ζ (.ptr i o) y) (hb : ea e vd = some v) (hw : VP ρ ζ pv v) (hrow : prow L i = some (t,cs))
  (h1 : (pcells pv).length = n) (h2 : o + n ≤ cs.length) (h3 : (pcells pv).all pone = true) : Res A ρ ζ H e (.store n ad vd) (.tup []) (L.set i (.row t (psl cs o (pcells pv)))) false := by
 obtain ⟨k,hk,rfl⟩ := hv.ptr_inv
 obtain ⟨hi,r,cells,f',g2,g3,g4,g5,g6⟩ := hg.rowK hrow hk
 have hc := hw.cells
 obtain ⟨H1,a,b,c,d⟩ := g2.write (splice cells o (vcl v))
 have hlen : (vcl v).length = n := by rw [← hc.length]; exact h1
 have hkp := Kp.of_own g2 c
 have hg0 : f' r = 0 ∧ 1 ≤ g i r := by
  have := hg.sum r; have := sumN_le (g := fun i => g i r) hi; have := g6 r; simp at this; omega
 refine ⟨undefV,H1,ρ,fun inv => ?_,.refl _,⟨g,hg.set hi hg0.2 hkp d (write_wf a hg.wf) (.inl ⟨k,r,_,f',hk,b,g3,g4, ?_,g6⟩)⟩,VP.tup (a := []) (a' := #[]) rfl (fun i h => by simp at h),c.mono ?_,fun h => by cases h⟩
 ·have e1 : Nat.beq n n = true := Nat.beq_refl n
  have e2 : Nat.ble (o + n) cells.length = true := Nat.ble_eq_true_of_le (by rw [← g5.length]; exact h2)
  simp only [ev,ha,hb,storeV,g2.rowAt.row,hlen,e1,e2,hc.one h3,Option.isNone_none,Bool.and_self,cond_true,a,ok1]
 ·exact (g5.kp hkp (.refl _) (.refl _) (fun _ h => h) (fun x hx => by subst hx; exact hg0.1)).splice hc
 ·rintro j (rfl | rfl)
  ·exact g4
  ·exact g3
end Go.Den
/- Pen, part E: append, comparisons, bounds. -/
namespace Go.Den
variable {ρ ρ' : Rho} {ζ ζ' : Zeta} {A A' : Nat → Prop} {H H' : AH} {f f' : Nat → Nat} {E : PEnv} {e : Env} {L L' : List LObj} {g : Nat → Nat → Nat} {p : PV} {q : Bool}
theorem psrc_ok (hg : RHg A ρ ζ L H g) {size m : Nat} {x : PV} {y : Value} {new : List PV} (hv : VP ρ ζ x y) (h : psrc L size x = some (new,m)) : ∃ cs,srC H size y = some (cs,m) ∧ VPL ρ ζ new cs ∧ new.length = m * size := by
 unfold psrc at h
 split at h
 ·obtain ⟨rfl,_⟩ := hv.v_inv
  split at h
  ·rename_i hn; cases h; exact ⟨[],by simp [srC,hn],.nil,by simp⟩
  ·cases h
 ·rename_i i o n0 c0
  rcases hv.slc_inv with ⟨k,hk,hn,rfl⟩ | ⟨hk,rfl,rfl,rfl,rfl⟩
  case inr =>
   split at h
   ·split at h
    ·cases h; exact ⟨[],by simp [srC],by simp [cut]; exact .nil,by simp [cut]⟩
    ·cases h
   ·cases h
  split at h
  ·rename_i t cs hrow
   obtain ⟨hi,r,cells,f',h2,h3,h4,h5,h6⟩ := hg.rowK hrow hk
   split at h
   ·rename_i hc
    cases h
    obtain ⟨fa,fb,w1,w2,_⟩ := h5.take o
    obtain ⟨fc,fd,w4,w5,_⟩ := w2.take (m * size)
    have hvl : VPL ρ ζ (cut cs o (m * size)) ((cells.drop o).take (m * size)) := w4.vpl hc.2
    refine ⟨_, ?_,hvl,by simp [cut]; omega⟩
    have : Nat.ble (o + m * size) cells.length = true := Nat.ble_eq_true_of_le (by rw [← h5.length]; exact hc.1)
    simp only [srC,h2.rowAt.row,this,Option.isNone_none,Bool.and_self,cond_true,Option.isSome_none,Bool.false_and,cond_false]
   ·cases h
  ·cases h
 ·split at h
  ·rename_i t n cs hc
   cases h
   rcases hv.fz_inv with ⟨rfl,rfl,a,rfl,ha⟩ | ⟨k,o,z,cap,hz,ho,ht,hvl,hn,rfl⟩
   ·refine ⟨[], ?_,.nil,by simp⟩
    cases a with
    | none => simp [srC]
    | some b => simp [srC,ha b rfl]
   ·refine ⟨_, ?_,hvl,hc⟩
    have hle := window_le hvl ho
    have : Nat.ble (o + m * size) z.cs.length = true := Nat.ble_eq_true_of_le (by omega)
    simp only [srC,frz_row hg hz,this,Option.isNone_none,Bool.and_self,cond_true,hc,Option.isSome_none,Bool.false_and,cond_false]
  ·cases h
 ·rename_i s
  obtain ⟨rfl,_⟩ := hv.v_inv
  split at h
  ·rename_i hs
   cases h
   refine ⟨s.data.toList.map fun b => .int .u8 b.toNat,by simp [srC,hs], ?_,by simp [hs]⟩
   refine F2.of_idx (by simp) (fun i h1 h2 => ?_)
   simp only [List.getElem_map]
   exact .v rfl
  ·cases h
 ·cases h
theorem roomy_ble {n b : Nat} (h : roomy n b) : Nat.ble ((2 * n + 1000) * (b + 1)) 281474976710656 = true := Nat.ble_eq_true_of_le h
theorem pappend_ok (hg : RHg A ρ ζ L H g) {t : TypeId} {size bytes : Nat} {s x : PV} {sv xv : Value} {sd xd : Arg} (hs : ea e sd = some sv) (hx : ea e xd = some xv) (vs : VP ρ ζ s sv) (vx : VP ρ ζ x xv) (h : pappend L t size bytes s x = some (p,L',q)) : Res A ρ ζ H e (.append t size bytes sd xd) p L' q := by
 have hr : RH A ρ ζ L H := ⟨g,hg⟩
 have hev : ∀ inv,ev inv e H (.append t size bytes sd xd) = appendV H t size bytes sv xv := fun inv => by simp only [ev,hs,hx]
 unfold pappend at h
 split at h
 ·cases h
 rename_i hbx
 have hbx : bxT t = false := by cases hb : bxT t <;> simp_all
 split at h
 ·cases h
 rename_i new m hsrc
 obtain ⟨nc,hnc,hnv,hnm⟩ := psrc_ok hg vx hsrc
 have hm0' : m = 0 → new = [] := fun h0 => List.eq_nil_of_length_eq_zero (by rw [hnm,h0]; simp)
 have hnl := hnv.length
 split at h
 ·rename_i len cap
  obtain ⟨rfl,_⟩ := vs.v_inv
  split at h
  ·rename_i hc
   obtain ⟨rfl,rfl,hsz,hb,hone⟩ := hc
   cases h
   by_cases hm : m = 0
   ·subst hm
    have hnil := hm0' rfl
    subst hnil
    exact ⟨.slice none 0 0,H,_,fun inv => by rw [hev]; simp [appendV,hnc,ok1],Rho.le_add hg.fresh,hg.pushN (.inr ⟨rfl,Rho.add_self⟩),.slcN Rho.add_self,Only.refl _ _,fun _ _ h _ => h⟩
   ·obtain ⟨a,b⟩ := hg.newRow (t := t) false hnv (fun hb => by rw [hbx] at hb; cases hb)
    refine ⟨.slice (some ⟨H.next,0,none⟩) (0 + m) (0 + m),_,_,fun inv => ?_,Rho.le_add hg.fresh,a,by rw [Nat.zero_add]; exact .slc Rho.add_self (Nat.le_refl _),b,fun _ _ h _ => h⟩
    rw [hev]
    have hm1 : Nat.ble (0 + m) 0 = false := ble_false (by omega)
    have hb : Nat.ble ((2 * (0 + m) + 1000) * (bytes + 1)) 281474976710656 = true := by rw [Nat.zero_add]; exact roomy_ble hb
    have hs1 : Nat.ble 1 size = true := ble_true hsz
    unfold appendV
    rw [hnc]
    simp only
    rw [hm1,cond_false,hb,cond_true,hs1]
    rfl
  ·cases h
 ·rename_i t' n cs
  split at h
  ·rename_i hm
   cases h; subst hm
   rcases vs.fz_inv with ⟨rfl,rfl,a,rfl,ha⟩ | ⟨k,o,z,cap,hz,ho,ht,hvl,hn,rfl⟩
   ·refine .pure hr (fun inv => ?_) vs
    rw [hev]
    cases a <;> simp [appendV,hnc,ok1]
   ·exact .pure hr (fun inv => by
     rw [hev]
     unfold appendV; rw [hnc]; simp only
     rw [ble_true (show n + 0 ≤ cap from hn),cond_true]
     rfl) vs
  ·cases h
 ·rename_i i o len cap
  split at h
  case h_2 => cases h
  rename_i t' cs hrow
  -- behind all that is there
  have grown : ∀ (k : Nat),ρ i = some (some k) → sv = .slice (some ⟨k,o,none⟩) len cap → m ≠ 0 → ¬ len + m ≤ cap → allOne new → t' = t → roomy (len + m) bytes → o + len * size ≤ cs.length → 1 ≤ size →
    Res A ρ ζ H e (.append t size bytes sd xd) (.slc L.length 0 (len + m) (len + m)) (L.set i .dead ++ [.row t (cut cs o (len * size) ++ new)]) (decide (o + len * size = cs.length ∧ len = cap)) := by
   intro k hk hsv hm hroom hone ht hb hfit hsz
   subst hsv; subst ht
   have hone' := hnv.one hone
   obtain ⟨hi,r,cells,f',h2,h3,h4,h5,h6⟩ := hg.rowK hrow hk
   have hcl := h5.length
   have hg0 : f' r = 0 ∧ 1 ≤ g i r := by
    have := hg.sum r; have := sumN_le (g := fun i => g i r) hi; have := h6 r; simp at this; omega
   obtain ⟨H1,r',a,b,c,d,e1,e2⟩ := h2.grow hbx (Nat.beq (o + len * size) cells.length && Nat.beq len cap) ((cells.drop o).take (len * size) ++ nc)
   have c' : Only H H1 (fun j => j = r ∨ j = k) := c.mono (fun j hj => .inl hj)
   have hkp := Kp.of_own h2 c'
   have hadd : ∀ {f : Nat → Nat} {a : List PV} {b : List Value},(f r = 0) → WL A ρ ζ H f a b → WL A (ρ.add L.length (some H.next)) ζ H1 f a b := fun h0 w => w.kp hkp (Rho.le_add hg.fresh) (.refl _) (fun _ h => h) (fun x hx => by subst hx; exact h0)
   obtain ⟨fa,fb,w1,w2,w3⟩ := h5.take o
   obtain ⟨fc,fd,w4,w5,w6⟩ := w2.take (len * size)
   have hfc : ∀ x,fc x ≤ f' x := fun x => by have := w3 x; have := w6 x; omega
   have hkn := h2.lt
   have hrk := h2.rowAt.le
   have hnn : g i H.next = 0 := by have := hg.bnd _ (Nat.le_refl H.next); have := sumN_le (g := fun i => g i H.next) hi; omega
   have hfn : fc H.next = 0 := by have := hfc H.next; have := h6 H.next; omega
   have hA : A H.next := hg.acc _ (Nat.le_refl _)
   have hAr : A r' := by rcases d with rfl | rfl <;> assumption
   refine ⟨.slice (some ⟨H.next,0,none⟩) (len + m) (len + m),H1,ρ.add L.length (some H.next),fun inv => ?_,Rho.le_add hg.fresh, ?_,.slc Rho.add_self (Nat.le_refl _),c.mono (fun j hj => by subst hj; exact h4),fun hq => ?_⟩
   ·rw [hev]
    unfold appendV
    rw [hnc]
    simp only
    rw [ble_false hroom,cond_false,roomy_ble hb,cond_true,h2.rowAt.row]
    simp only [Option.isNone_none,Bool.true_and,hone',Bool.and_true,ble_true hsz,ble_true (show o + len * size ≤ cells.length by omega),cond_true,a,ok1]
   ·refine hg.move (R := (· = r)) (f1 := fun _ => 0) (f2 := fun x => (if x = r' then 1 else 0) + fc x) hi hkp (fun x hx => by subst hx; exact hg0.2) (grow_wf a hg.wf) (fun x hx => ?_) (fun _ => ?_) (fun h => ?_) trivial (.inl ⟨H.next,r',_,fc,Rho.add_self,b,hA,hAr, ?_,fun x => Nat.le_refl _⟩)
    ·have q1 := hfc x; have q2 := h6 x
     rcases d with rfl | rfl
     ·omega
     ·simp [hx]; omega
    ·simp only [hfn]; split <;> omega
    ·omega
    ·have := (hadd (by have := hfc r; omega) w4).append (WL.of_vpl (f := fun _ => 0) (hnv.mono (Rho.le_add hg.fresh) (.refl _)))
     exact this.le (fun x => by simp)
   ·have hq' : (Nat.beq (o + len * size) cells.length && Nat.beq len cap) = true := by
     have := of_decide_eq_true hq
     rw [← hcl,this.1,this.2]; simp
    exact low_of_only (S := fun _ => False) (e2 hq')
  split at h
  ·rename_i hc
   obtain ⟨hone,rfl,rfl,rfl,hcs,hsz,hb⟩ := hc
   cases h
   by_cases hm : m = 0
   ·subst hm
    have hnil := hm0' rfl
    subst hnil
    rcases vs.slc_inv with ⟨k,hk,hlc,rfl⟩ | ⟨hk,_,rfl,_,rfl⟩
    ·obtain ⟨hi,r,cells,f',h2,h3,h4,h5,h6⟩ := hg.rowK hrow hk
     refine ⟨.slice (some ⟨k,0,none⟩) len len,H,ρ.add L.length (some k),fun inv => ?_,Rho.le_add hg.fresh, ?_,.slc Rho.add_self (Nat.le_refl _),Only.refl _ _,fun _ _ h _ => h⟩
     ·rw [hev]; unfold appendV; rw [hnc]; simp only
      rw [ble_true (show len + 0 ≤ len from Nat.le_refl _),cond_true]
      rfl
     ·refine hg.move (R := fun _ => False) (f1 := fun _ => 0) (f2 := g i) hi (Kp.refl H _) (fun _ h => h.elim) hg.wf (fun x _ => by omega) (fun h => absurd h (Nat.lt_irrefl _)) (fun _ => by omega) trivial (.inl ⟨k,r,cells,f',Rho.add_self,h2,h3,h4, ?_,h6⟩)
      rw [List.append_nil]
      exact h5.kp (Kp.refl H (fun _ => False)) (Rho.le_add hg.fresh) (.refl _) (fun _ h => h) (fun _ h => h.elim)
    ·obtain ⟨hi,rfl⟩ := hg.rowN hrow hk
     refine ⟨.slice none 0 0,H,ρ.add L.length none,fun inv => by rw [hev]; simp [appendV,hnc,ok1],Rho.le_add hg.fresh, ?_,.slcN Rho.add_self,Only.refl _ _,fun _ _ h _ => h⟩
     exact hg.move (R := fun _ => False) (f1 := fun _ => 0) (f2 := fun _ => 0) hi (Kp.refl H _) (fun _ h => h.elim) hg.wf (fun x _ => by omega) (fun h => absurd h (Nat.lt_irrefl _)) (fun _ => by omega) trivial (.inr ⟨rfl,Rho.add_self⟩)
   ·rcases vs.slc_inv with ⟨k,hk,hlc,rfl⟩ | ⟨hk,_,rfl,_,rfl⟩
    ·have h9 := grown k hk rfl hm (by omega) hone rfl hb (by omega) hsz
     have e1 : cut cs 0 (len * size) = cs := by simp [cut,← hcs]
     have e2 : decide (0 + len * size = cs.length ∧ len = len) = true := by simp [hcs]
     rw [e1,e2] at h9
     exact h9
    ·obtain ⟨hi,rfl⟩ := hg.rowN hrow hk
     refine ⟨.slice (some ⟨H.next,0,none⟩) (0 + m) (0 + m),H.push (.cells nc t' false false H.next H.next H.next),ρ.add L.length (some H.next),fun inv => ?_,Rho.le_add hg.fresh, ?_,.slc Rho.add_self (Nat.le_refl _),Only.push _ _ _,fun _ _ h _ => h⟩
     ·rw [hev]
      have hm1 : Nat.ble (0 + m) 0 = false := ble_false (by omega)
      have hs1 : Nat.ble 1 size = true := ble_true hsz
      unfold appendV
      rw [hnc]
      simp only
      rw [hm1,cond_false,roomy_ble hb,cond_true,hs1]
      rfl
     ·have hnn : g i H.next = 0 := by have := hg.bnd _ (Nat.le_refl H.next); have := sumN_le (g := fun i => g i H.next) hi; omega
      refine hg.move (R := fun _ => False) (f1 := fun _ => 0) (f2 := fun x => if x = H.next then 1 else 0) hi (Kp.push H _) (fun _ h => h.elim) ?_ (fun x hx => by simp [hx]) (fun _ => by simp) (fun h => by simp at h) trivial
       (.inl ⟨H.next,H.next,nc,fun _ => 0,Rho.add_self,Own.new H t' nc false (fun hb => by rw [hbx] at hb; cases hb),hg.acc _ (Nat.le_refl _),hg.acc _ (Nat.le_refl _),WL.of_vpl (hnv.mono (Rho.le_add hg.fresh) (.refl _)),fun x => by simp⟩)
      intro j ob hj
      rw [AH.gpu] at hj
      show j < H.next + 1
      split at hj
      ·omega
      ·have := hg.wf _ _ hj; omega
  ·split at h
   ·rename_i hm
    cases h; subst hm
    rcases vs.slc_inv with ⟨k,hk,hlc,rfl⟩ | ⟨hk,rfl,rfl,rfl,rfl⟩
    ·exact .pure hr (fun inv => by
      rw [hev]
      unfold appendV; rw [hnc]; simp only
      rw [ble_true (show len + 0 ≤ cap from hlc),cond_true]
      rfl) vs
    ·exact .pure hr (fun inv => by rw [hev]; simp [appendV,hnc,ok1]) vs
   ·rename_i hm
    have hm0 : (m == 0) = false := by simp; omega
    split at h
    ·rename_i hone
     have hone' := hnv.one hone
     split at h
     ·rename_i hroom
      split at h
      ·rename_i hfit
       cases h
       rcases vs.slc_inv with ⟨k,hk,hlc,rfl⟩ | ⟨hk,rfl,rfl,rfl,rfl⟩
       case inr => omega
       obtain ⟨hi,r,cells,f',h2,h3,h4,h5,h6⟩ := hg.rowK hrow hk
       have hcl := h5.length
       have hg0 : f' r = 0 ∧ 1 ≤ g i r := by
        have := hg.sum r; have := sumN_le (g := fun i => g i r) hi; have := h6 r; simp at this; omega
       obtain ⟨H1,a,b,c,d⟩ := h2.write (splice cells (o + len * size) nc)
       have hkp := Kp.of_own h2 c
       refine ⟨.slice (some ⟨k,o,none⟩) (len + m) cap,H1,ρ,fun inv => ?_,.refl _,⟨g,hg.set hi hg0.2 hkp d (write_wf a hg.wf) (.inl ⟨k,r,_,f',hk,b,h3,h4, ?_,h6⟩)⟩,.slc hk hroom,c.mono ?_,fun h => by cases h⟩
       ·rw [hev]
        unfold appendV
        rw [hnc]
        simp only
        rw [ble_true hroom,cond_true,h2.rowAt.row]
        simp only [hm0,cond_false,Option.isNone_none,Bool.true_and,hone',Bool.and_true,ble_true (show o + len * size + nc.length ≤ cells.length by omega),cond_true,a,ok1]
       ·exact (h5.kp hkp (.refl _) (.refl _) (fun _ h => h) (fun x hx => by subst hx; exact hg0.1)).splice hnv
       ·rintro j (rfl | rfl)
        ·exact h4
        ·exact h3
      ·cases h
     ·rename_i hroom
      split at h
      ·rename_i hc
       cases h
       obtain ⟨ht,hb,hfit,hsz⟩ := hc
       rcases vs.slc_inv with ⟨k,hk,hlc,rfl⟩ | ⟨hk,rfl,rfl,rfl,rfl⟩
       ·exact grown k hk rfl hm hroom hone ht hb hfit hsz
       ·obtain ⟨hi,rfl⟩ := hg.rowN hrow hk
        rename_i hnf
        exact absurd ⟨hone,rfl,rfl,ht,by simp,hsz,hb⟩ hnf
      ·cases h
    ·cases h
 ·cases h
theorem peqNil_ok {k : NilK} {a b : PV} {x y : Value} {r : Bool} (ha : VP ρ ζ a x) (hb : VP ρ ζ b y) (h : peqNil k a b = some r) : eqNilV k x y = some r := by
 unfold peqNil at h
 split at h
 ·rw [ha.v_inv.1,hb.v_inv.1]; exact h
 ·split at h
  ·cases h
  ·rename_i hn
   rw [hb.v_inv.1]
   rcases ha.slc_inv with ⟨_,_,_,rfl⟩ | ⟨_,_,rfl,_⟩
   ·cases h; rfl
   ·exact absurd rfl hn
 ·split at h
  ·cases h
  ·rename_i hn
   rw [ha.v_inv.1]
   rcases hb.slc_inv with ⟨_,_,_,rfl⟩ | ⟨_,_,rfl,_⟩
   ·cases h; rfl
   ·exact absurd rfl hn
 ·split at h
  ·cases h
  ·rename_i hn
   rw [hb.v_inv.1]
   rcases ha.fz_inv with ⟨rfl,_,_⟩ | ⟨_,_,_,_,_,_,_,_,_,rfl⟩
   ·exact absurd rfl hn
   ·cases h; rfl
 ·split at h
  ·cases h
  ·rename_i hn
   rw [ha.v_inv.1]
   rcases hb.fz_inv with ⟨rfl,_,_⟩ | ⟨_,_,_,_,_,_,_,_,_,rfl⟩
   ·exact absurd rfl hn
   ·cases h; rfl
 ·obtain ⟨_,_,rfl⟩ := ha.mapr_inv; rw [hb.v_inv.1]; cases h; rfl
 ·obtain ⟨_,_,rfl⟩ := hb.mapr_inv; rw [ha.v_inv.1]; cases h; rfl
 ·obtain ⟨_,_,rfl,_⟩ := ha.fn_inv; rw [hb.v_inv.1]; cases h; rfl
 ·obtain ⟨_,_,rfl,_⟩ := hb.fn_inv; rw [ha.v_inv.1]; cases h; rfl
 ·obtain ⟨_,_,rfl⟩ := ha.ptr_inv; rw [hb.v_inv.1]; cases h; rfl
 ·obtain ⟨_,_,rfl⟩ := hb.ptr_inv; rw [ha.v_inv.1]; cases h; rfl
 ·obtain ⟨_,_,_,_,_,_,rfl⟩ := ha.fp_inv; rw [hb.v_inv.1]; cases h; rfl
 ·obtain ⟨_,_,_,_,_,_,rfl⟩ := hb.fp_inv; rw [ha.v_inv.1]; cases h; rfl
 ·cases h
theorem boundV_le {x : Value} {y n : Nat} (h : boundV x y = some n) : n ≤ y := by
 unfold boundV at h
 split at h
 ·split at h
  ·cases h; omega
  ·cases h
 ·cases h
theorem boundV_up {x : Value} {y y' n : Nat} (h : boundV x y = some n) (hy : y ≤ y') : boundV x y' = some n := by
 unfold boundV at h ⊢
 split at h
 ·split at h
  ·rw [if_pos (by omega)]; exact h
  ·cases h
 ·cases h
theorem boundsV_le {len cap l h m : Nat} {lo hi mx : Option Value} (hl : len ≤ cap) (hb : boundsV len cap lo hi mx = some (l,h,m)) : l ≤ h ∧ h ≤ m ∧ m ≤ cap := by
 unfold boundsV at hb
 split at hb
 ·cases hb
 rename_i m1 hm
 have hm1 : m1 ≤ cap := by
  cases mx with
  | none => cases hm; exact Nat.le_refl _
  | some v => exact boundV_le hm
 split at hb
 ·cases hb
 rename_i h1 hh
 have hh1 : h1 ≤ m1 := by
  cases hi with
  | none => cases mx with
   | none => cases hm; cases hh; exact hl
   | some _ => cases hh
  | some v => exact boundV_le hh
 split at hb
 ·cases hb
 rename_i l1 hll
 have hl1 : l1 ≤ h1 := by
  cases lo with
  | none => cases hll; exact Nat.zero_le _
  | some v => exact boundV_le hll
 cases hb
 exact ⟨hl1,hh1,hm1⟩
theorem boundsV_up {n cap l h m : Nat} {lo hi : Option Value} (hl : n ≤ cap) (hb : boundsV n n lo hi none = some (l,h,m)) : boundsV n cap lo hi none = some (l,h,cap) ∧ m = n := by
 unfold boundsV at hb ⊢
 simp only at hb ⊢
 cases hi with
 | none =>
  simp only at hb ⊢
  split at hb
  ·cases hb
  ·rename_i l1 hll; cases hb; exact ⟨rfl,rfl⟩
 | some v =>
  simp only at hb ⊢
  split at hb
  ·cases hb
  ·rename_i h1 hh
   rw [boundV_up hh hl]
   simp only
   split at hb
   ·cases hb
   ·rename_i l1 hll; cases hb; exact ⟨rfl,rfl⟩
theorem repl_one {zero : List Value} (h : zero.all one = true) : ∀ n,(repl zero n).all one = true := by
 intro n
 induction n with
 | zero => rfl
 | succ n ih => simp only [repl,List.all_append,h,ih,Bool.and_self]
theorem pfind_ok {kk : KeyK} {k : Value} : ∀ {es : List (Value × PV × Nat)} {es' : List MapEntry} {i : Nat},F2 (fun x y => x.1 = y.key ∧ x.2.2 = y.born) es es' → ∀ {r},pfind kk k es i = some r →
  (r = none ∧ findKeyL kk k es' i = some none) ∨ ∃ d a x,r = some (i + d,a) ∧ (es.map (·.2.1))[d]? = some a ∧ (es'.map (·.val))[d]? = some x ∧ findKeyL kk k es' i = some (some (i + d,x)) := by
 intro es
 induction es with
 | nil => intro es' i h r hr; cases h; cases hr; exact .inl ⟨rfl,rfl⟩
 | cons a es ih =>
  intro es' i h r hr
  cases h with
  | cons h1 ht =>
  rename_i b es'
  simp only [pfind] at hr
  split at hr
  ·rename_i hk
   cases hr
   refine .inr ⟨0,a.2.1,b.val,rfl,rfl,rfl, ?_⟩
   simp only [findKeyL,← h1.1,hk]; rfl
  ·rename_i hk
   rcases ih ht hr with ⟨rfl,h2⟩ | ⟨d,y,x,rfl,h2,h3,h4⟩
   ·exact .inl ⟨rfl,by simp only [findKeyL,← h1.1,hk]; exact h2⟩
   ·refine .inr ⟨d + 1,y,x,by rw [show i + (d + 1) = i + 1 + d by omega],by simpa using h2,by simpa using h3, ?_⟩
    simp only [findKeyL,← h1.1,hk]
    rw [h4,show i + 1 + d = i + (d + 1) by omega]
  ·cases hr
theorem pmap_ok (hg : RHg A ρ ζ L H g) {a : PV} {x : Value} {es : List (Value × PV × Nat)} {c : Nat} (hv : VP ρ ζ a x) (h : pmap L a = some (es,c)) : ∃ es' f',mapOf H x = some es' ∧ EL A ρ ζ H f' es es' := by
 unfold pmap at h
 split at h
 ·obtain ⟨k,hk,rfl⟩ := hv.mapr_inv
  split at h
  ·rename_i i es0 c0 hL
   cases h
   obtain ⟨k',es',f',h1,h2,h3,h4,h5,h6⟩ := hg.objs _ _ hL
   rw [hk] at h1; cases h1
   exact ⟨es',f',by simp only [mapOf,h3],h5⟩
  ·rename_i i es0 c0 hL
   cases h
   obtain ⟨k',es',h1,h2,h3,h5,h6⟩ := hg.objs _ _ hL
   rw [hk] at h1; cases h1
   exact ⟨es',fun _ => 0,by simp only [mapOf,h3],h5.1,WL.of_vpl h5.2⟩
  ·cases h
 ·obtain ⟨rfl,_⟩ := hv.v_inv
  cases h
  exact ⟨[],fun _ => 0,rfl,.nil,WL.of_vpl .nil⟩
 ·cases h
end Go.Den
