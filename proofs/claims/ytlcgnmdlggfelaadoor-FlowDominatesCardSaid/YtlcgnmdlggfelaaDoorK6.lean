/- The law FlowDominates of package raddlelaw23 returns true for every input, and its argument reads behind the call as it read before. Conditions: those of the given card (strings.asciiSpace and unicode.White_Space hold what their initialisers lay, tied to the text of the pruned copy of the program). -/
/- Part 6 of the proof: an executor over a compiled form of the functions of this program, that it is right, and what it computes (see the last part). -/
import Derived.Test.YtlcgnmdlggfelaaDoorK5
import Derived.ChangeSame
import Derived.ChangeVars
import Derived.RowKit
import Derived.RowKitTokens
import Derived.WideKeyArgs
import Derived.LaidLaws
import Derived.Lib.LaidTab
import Derived.Lib.LaidU8
import Derived.JoinedOf
import Derived.Test.YtlcgnmdlggfelaaDoorChecked
import Derived.KernelRfl
import Derived.Test.YtlcgnmdlggfelaaDoorRows
import Derived.Test.YtlcgnmdlggfelaaDoorTie
import Derived.Test.YtlcgnmdlggfelaaDoorCards
import Derived.SevenTiedAt
set_option linter.all false
/- Cls, part E: a law's row, out of a call that is still. -/
namespace Go.Den
open Go.ChangeShapes Go.WideShapes Go.RowKit
variable {P : Program} {H : Type} {enc : TypeId × Value → H}

theorem Still.same {W w' : World} (h : Still W w') {p : MemPlace} (hp : p.block < W.heap.size) : W.sameAt w' p := by
  cases p with
  | cell b off =>
    show w'.cell? ⟨b, off, none⟩ = W.cell? ⟨b, off, none⟩
    unfold World.cell?
    rw [h.blk b hp]
  | map b => exact h.blk b hp
theorem trodAll_still (hl : laidOutB P = true) {W W' : World} (hs : Still W W') : ∀ {ts : List TypeId} {vs : List Value} {ds : List (DataW H)} {ps : List MemPlace}, (∀ t ∈ ts, P.readableRec t = true ∧ t < P.types.size) →
    DataW.TrodAll enc P W 0 (fun _ => true) true ts vs ds ps → (∀ p ∈ ps, p.block < W.heap.size) → DataW.TrodAll enc P W' 0 (fun b => decide (b < W.heap.size)) true ts vs ds ps
  | [], [], [], _, _, h, _ => h
  | t :: ts, v :: vs, d :: ds, _, ht, ⟨p, q, h1, h2, e⟩, hp => by
    subst e
    exact ⟨p, q, WideElems.Trod_stays hl (ht t (by simp)).1 (ht t (by simp)).2 h1 (fun x hx => hs.same (hp x (List.mem_append_left _ hx))) (fun x hx => by simpa using hp x (List.mem_append_left _ hx)),
      trodAll_still hl hs (fun t' ht' => ht t' (List.mem_cons_of_mem _ ht')) h2 (fun x hx => hp x (List.mem_append_right _ hx)), rfl⟩
theorem Still.kept {W W' : World} (hs : Still W W') (may : MemPlace → Prop) : W.keptBut W' may := by
  refine ⟨hs.os, hs.out, fun i hi => ?_⟩
  rw [hs.blk i hi]
  cases hw : W.heap[i]? with
  | none => rfl
  | some o =>
    cases o with
    | cells c t fr => exact ⟨rfl, rfl, rfl, fun _ _ => rfl⟩
    | map es clock => exact .inr ⟨rfl, rfl⟩
    | _ => rfl
theorem trodAll_len {W : World} {b : Nat} {sp : Nat → Bool} {held : Bool} : ∀ {ts : List TypeId} {vs : List Value} {ds : List (DataW H)} {ps : List MemPlace}, DataW.TrodAll enc P W b sp held ts vs ds ps → ds.length = ts.length
  | [], [], [], _, _ => rfl
  | _ :: _, _ :: _, _ :: _, _, ⟨_, _, _, h2, _⟩ => by simp [trodAll_len h2]
/-- the row's answer: true, the arguments as they were -/
theorem post_law {f : Func} {s : ChangeSpec} {apart fresh : Bool} {tb : TypeId} (hvars : s.vars = []) (hres : f.resultTypes = #[tb]) (htb : P.underlying tb = some .bool) (hl : laidOutB P = true) (hrd : ∀ t ∈ f.params.toList, P.readableRec t = true ∧ t < P.types.size)
    (hfn : ∀ ds : List (DataW H), ds.length = f.params.size → s.fn H ds = { results := [.lit (.bool true)], args := ds }) {W W' : World} {args : Array Value} {ds gs : List (DataW H)} {before : List MemPlace}
    (hW : DataW.Whole enc P f.params.toList s.vars apart W args.toList ds gs before) (hst : Still W W') : s.post enc P f apart fresh false false W args (.bool true) W' := by
  have hlt := hW.lt
  have hW' := hW
  obtain ⟨p, q, hA, hV, rfl, _, _⟩ := hW
  rw [hvars] at hV
  obtain ⟨rfl, rfl⟩ := trodVars_none hV
  have hdl : ds.length = f.params.size := by have := trodAll_len hA; simpa using this
  have e1 : s.fn H (ds ++ []) = { results := [.lit (.bool true)], args := ds } := by rw [List.append_nil]; exact hfn ds hdl
  refine ⟨ds, [], p ++ [], [], p, [], hW', ?_, ?_, ?_, hst.kept _, fun h => by cases h⟩
  · rw [e1, hres]
    exact trodAll_mk1 (shut_bool htb true)
  · rw [e1]
    exact trodAll_still hl hst hrd hA fun x hx => hlt x (List.mem_append_left _ hx)
  · rw [e1, hvars]; rfl

/-! ### shapes -/
theorem map_of {α : Type} {g : α → List PV} : ∀ {pss : List (List PV)}, (∀ i (h : i < pss.length), ∃ x, pss[i] = g x) → ∃ xs : List α, pss = xs.map g
  | [], _ => ⟨[], rfl⟩
  | ps :: pss, h => by
    obtain ⟨x, hx⟩ := h 0 (by simp)
    obtain ⟨xs, hxs⟩ := map_of (pss := pss) (g := g) fun i hi => h (i + 1) (Nat.succ_lt_succ hi)
    exact ⟨x :: xs, by rw [List.map_cons, ← hxs]; exact congrArg (· :: pss) hx⟩
theorem Shp.int_inv {t : TypeId} {k : IntKind} {pvs : List PV} (ht : P.underlying t = some (.int k)) (h : Shp P t pvs) : ∃ n : Int, pvs = [.v (.int k n)] ∧ (Lit.int k n).wf = true := by
  cases h with
  | int h1 h2 => rw [ht] at h1; cases h1; exact ⟨_, rfl, h2⟩
  | bool h1 => rw [ht] at h1; cases h1
  | string h1 => rw [ht] at h1; cases h1
  | slice h1 => rw [ht] at h1; cases h1
  | struct h1 => rw [ht] at h1; cases h1
theorem Shp.string_inv {t : TypeId} {pvs : List PV} (ht : P.underlying t = some .string) (h : Shp P t pvs) : ∃ s : ByteArray, pvs = [.v (.string s)] ∧ s.size ≤ maxLen := by
  cases h with
  | int h1 => rw [ht] at h1; cases h1
  | bool h1 => rw [ht] at h1; cases h1
  | string h1 h2 => exact ⟨_, rfl, h2⟩
  | slice h1 => rw [ht] at h1; cases h1
  | struct h1 => rw [ht] at h1; cases h1
theorem Shp.bool_inv {t : TypeId} {pvs : List PV} (ht : P.underlying t = some .bool) (h : Shp P t pvs) : ∃ b : Bool, pvs = [.v (.bool b)] := by
  cases h with
  | int h1 => rw [ht] at h1; cases h1
  | bool h1 => exact ⟨_, rfl⟩
  | string h1 => rw [ht] at h1; cases h1
  | slice h1 => rw [ht] at h1; cases h1
  | struct h1 => rw [ht] at h1; cases h1
theorem Shp.slice_inv {t e : TypeId} {pvs : List PV} (ht : P.underlying t = some (.slice e)) (h : Shp P t pvs) : ∃ pss : List (List PV), pvs = [.fz e pss.length pss.flatten] ∧ pss.length ≤ maxLen ∧ ∀ i (h : i < pss.length), Shp P e pss[i] := by
  cases h with
  | int h1 => rw [ht] at h1; cases h1
  | bool h1 => rw [ht] at h1; cases h1
  | string h1 => rw [ht] at h1; cases h1
  | slice h1 h2 h3 => rw [ht] at h1; cases h1; exact ⟨_, rfl, h2, h3⟩
  | struct h1 => rw [ht] at h1; cases h1
theorem Shp.struct_inv {t : TypeId} {fs : Array Field} {pvs : List PV} (ht : P.underlying t = some (.struct fs)) (h : Shp P t pvs) : ∃ pss : List (List PV), pvs = pss.flatten ∧ pss.length = fs.size ∧ ∀ i (h : i < pss.length) (h' : i < fs.size), Shp P fs[i].type pss[i] := by
  cases h with
  | int h1 => rw [ht] at h1; cases h1
  | bool h1 => rw [ht] at h1; cases h1
  | string h1 => rw [ht] at h1; cases h1
  | slice h1 => rw [ht] at h1; cases h1
  | struct h1 h2 h3 => rw [ht] at h1; cases h1; exact ⟨_, rfl, h2, h3⟩
theorem flatten_single {α : Type} (f : α → PV) (l : List α) : (l.map fun x => [f x]).flatten = l.map f := by
  induction l with
  | nil => rfl
  | cons a l ih => simp [ih]
theorem shp_ints {t e : TypeId} {pvs : List PV} (ht : P.underlying t = some (.slice e)) (he : P.underlying e = some (.int .i64)) (h : Shp P t pvs) : ∃ l : List Int, pvs = [ints e l] := by
  obtain ⟨pss, rfl, _, h2⟩ := h.slice_inv ht
  obtain ⟨l, rfl⟩ := map_of (g := fun n : Int => [pin n]) fun i hi => by
    obtain ⟨n, hn, _⟩ := (h2 i hi).int_inv he
    exact ⟨n, hn⟩
  exact ⟨l, by rw [flatten_single]; simp [ints]⟩

/-! ### the variables -/
def litOf : Value → DataW Unit
  | .int k n => .lit (.int k n)
  | _ => .nil
def numOf : Value → Int
  | .int _ n => n
  | _ => 0
theorem spaceWorld {W : World} {laid : List (String × DataW Unit)} (hm : laidMet P laid W) (hmem : ("strings.asciiSpace", DataW.agg (spaceCells.map litOf)) ∈ laid) (hg : P.globalNamed "strings.asciiSpace" = some glSpace) {t e : TypeId} (hgt : (P.globals[glSpace]?).map (·.type) = some t)
    (ht : P.underlying t = some (.array 256 e)) (he : P.underlying e = some (.int .u8)) (hce : P.cellsOf e = 1) (hct : P.cellsOf t = 256) : ∃ ct fr, W.heap[glSpace]? = some (.cells spaceCells.toArray ct fr) := by
  obtain ⟨g, t', cs, fuel, p, h1, h2, h3, h4⟩ := Lib.laidMet.reads hm hmem
  rw [hg] at h1; cases h1
  rw [hgt] at h2; cases h2
  have hz : (DataW.agg (spaceCells.map litOf) : DataW Unit) = Lib.tabData .u8 (spaceCells.map numOf) := by kernel_rfl
  rw [hz] at h4
  have hcs := Lib.cells_of_tab ht he hce hct h4
  have hz2 : ((spaceCells.map numOf).map fun z => Value.int .u8 z) = spaceCells := by kernel_rfl
  rw [hz2] at hcs
  unfold World.var? at h3
  rw [hg] at h3
  simp only [Option.bind_some] at h3
  split at h3
  · rename_i c t fr hb
    cases h3
    exact ⟨t, fr, by rw [hb, ← hcs]⟩
  · cases h3
theorem GlOk.space {hp : Array Obj} {ct : TypeId} {fr : Nat × Nat} (h : hp[glSpace]? = some (.cells spaceCells.toArray ct fr)) : GlOk hp (glSpace + 1) :=
  spaceGl (Nat.lt_succ_self _) h (by simp) (by simp)
theorem spaceBytes : spaceCells.all isU8 = true := by kernel_rfl
theorem BytesAt.space {hp : Array Obj} {ct : TypeId} {fr : Nat × Nat} (h : hp[glSpace]? = some (.cells spaceCells.toArray ct fr)) : BytesAt hp := by
  intro b hb ccs ct' fr' hc c hm
  have : b = glSpace := by
    unfold glZ at hb
    split at hb
    · assumption
    · cases hb
  subst this
  rw [h] at hc
  cases hc
  exact List.all_eq_true.1 spaceBytes c hm
end Go.Den
/- The seat's functions: their code is that of the program. -/
namespace Go.Den
open IrD Go.Proofs
def glS : Nat → Bool := fun g => g == glSpace
theorem glS_z : ∀ g, glS g = true → (glZ g).isSome = true := fun g h => by
  have : g = glSpace := by simpa [glS] using h
  subst this; rfl
theorem follows : Tryd.prog.follows .mixedOrders = true := by kernel_rfl
theorem cf3 : cFunc Tryd.prog Tryd.f3 = some ir3 := by kernel_rfl
theorem co3 : ir3.body.ok glS ir3.ntmps = true := by kernel_rfl
theorem cn3 : (Tryd.f3.name == "runtime.NumGoroutine") = false := by kernel_rfl
theorem cf4 : cFunc Tryd.prog Tryd.f4 = some ir4 := by kernel_rfl
theorem co4 : ir4.body.ok glS ir4.ntmps = true := by kernel_rfl
theorem cn4 : (Tryd.f4.name == "runtime.NumGoroutine") = false := by kernel_rfl
theorem cf6 : cFunc Tryd.prog Tryd.f6 = some ir6 := by kernel_rfl
theorem co6 : ir6.body.ok glS ir6.ntmps = true := by kernel_rfl
theorem cn6 : (Tryd.f6.name == "runtime.NumGoroutine") = false := by kernel_rfl
theorem cf7 : cFunc Tryd.prog Tryd.f7 = some ir7 := by kernel_rfl
theorem co7 : ir7.body.ok glS ir7.ntmps = true := by kernel_rfl
theorem cn7 : (Tryd.f7.name == "runtime.NumGoroutine") = false := by kernel_rfl
theorem cf9 : cFunc Tryd.prog Tryd.f9 = some ir9 := by kernel_rfl
theorem co9 : ir9.body.ok glS ir9.ntmps = true := by kernel_rfl
theorem cn9 : (Tryd.f9.name == "runtime.NumGoroutine") = false := by kernel_rfl
theorem cf10 : cFunc Tryd.prog Tryd.f10 = some ir10 := by kernel_rfl
theorem co10 : ir10.body.ok glS ir10.ntmps = true := by kernel_rfl
theorem cn10 : (Tryd.f10.name == "runtime.NumGoroutine") = false := by kernel_rfl
theorem cf11 : cFunc Tryd.prog Tryd.f11 = some ir11 := by kernel_rfl
theorem co11 : ir11.body.ok glS ir11.ntmps = true := by kernel_rfl
theorem cn11 : (Tryd.f11.name == "runtime.NumGoroutine") = false := by kernel_rfl
theorem cf12 : cFunc Tryd.prog Tryd.f12 = some ir12 := by kernel_rfl
theorem co12 : ir12.body.ok glS ir12.ntmps = true := by kernel_rfl
theorem cn12 : (Tryd.f12.name == "runtime.NumGoroutine") = false := by kernel_rfl
theorem cf13 : cFunc Tryd.prog Tryd.f13 = some ir13 := by kernel_rfl
theorem co13 : ir13.body.ok glS ir13.ntmps = true := by kernel_rfl
theorem cn13 : (Tryd.f13.name == "runtime.NumGoroutine") = false := by kernel_rfl
theorem cf14 : cFunc Tryd.prog Tryd.f14 = some ir14 := by kernel_rfl
theorem co14 : ir14.body.ok glS ir14.ntmps = true := by kernel_rfl
theorem cn14 : (Tryd.f14.name == "runtime.NumGoroutine") = false := by kernel_rfl
theorem cf15 : cFunc Tryd.prog Tryd.f15 = some ir15 := by kernel_rfl
theorem co15 : ir15.body.ok glS ir15.ntmps = true := by kernel_rfl
theorem cn15 : (Tryd.f15.name == "runtime.NumGoroutine") = false := by kernel_rfl
theorem cf16 : cFunc Tryd.prog Tryd.f16 = some ir16 := by kernel_rfl
theorem co16 : ir16.body.ok glS ir16.ntmps = true := by kernel_rfl
theorem cn16 : (Tryd.f16.name == "runtime.NumGoroutine") = false := by kernel_rfl
theorem cf17 : cFunc Tryd.prog Tryd.f17 = some ir17 := by kernel_rfl
theorem co17 : ir17.body.ok glS ir17.ntmps = true := by kernel_rfl
theorem cn17 : (Tryd.f17.name == "runtime.NumGoroutine") = false := by kernel_rfl
theorem cf18 : cFunc Tryd.prog Tryd.f18 = some ir18 := by kernel_rfl
theorem co18 : ir18.body.ok glS ir18.ntmps = true := by kernel_rfl
theorem cn18 : (Tryd.f18.name == "runtime.NumGoroutine") = false := by kernel_rfl
theorem cf19 : cFunc Tryd.prog Tryd.f19 = some ir19 := by kernel_rfl
theorem co19 : ir19.body.ok glS ir19.ntmps = true := by kernel_rfl
theorem cn19 : (Tryd.f19.name == "runtime.NumGoroutine") = false := by kernel_rfl
theorem cf20 : cFunc Tryd.prog Tryd.f20 = some ir20 := by kernel_rfl
theorem co20 : ir20.body.ok glS ir20.ntmps = true := by kernel_rfl
theorem cn20 : (Tryd.f20.name == "runtime.NumGoroutine") = false := by kernel_rfl
theorem cf21 : cFunc Tryd.prog Tryd.f21 = some ir21 := by kernel_rfl
theorem co21 : ir21.body.ok glS ir21.ntmps = true := by kernel_rfl
theorem cn21 : (Tryd.f21.name == "runtime.NumGoroutine") = false := by kernel_rfl
theorem cf22 : cFunc Tryd.prog Tryd.f22 = some ir22 := by kernel_rfl
theorem co22 : ir22.body.ok glS ir22.ntmps = true := by kernel_rfl
theorem cn22 : (Tryd.f22.name == "runtime.NumGoroutine") = false := by kernel_rfl
theorem cf29 : cFunc Tryd.prog Tryd.f29 = some ir29 := by kernel_rfl
theorem co29 : ir29.body.ok glS ir29.ntmps = true := by kernel_rfl
theorem cn29 : (Tryd.f29.name == "runtime.NumGoroutine") = false := by kernel_rfl
theorem cf31 : cFunc Tryd.prog Tryd.f31 = some ir31 := by kernel_rfl
theorem co31 : ir31.body.ok glS ir31.ntmps = true := by kernel_rfl
theorem cn31 : (Tryd.f31.name == "runtime.NumGoroutine") = false := by kernel_rfl
theorem cf32 : cFunc Tryd.prog Tryd.f32 = some ir32 := by kernel_rfl
theorem co32 : ir32.body.ok glS ir32.ntmps = true := by kernel_rfl
theorem cn32 : (Tryd.f32.name == "runtime.NumGoroutine") = false := by kernel_rfl
theorem cf33 : cFunc Tryd.prog Tryd.f33 = some ir33 := by kernel_rfl
theorem co33 : ir33.body.ok glS ir33.ntmps = true := by kernel_rfl
theorem cn33 : (Tryd.f33.name == "runtime.NumGoroutine") = false := by kernel_rfl
theorem cf34 : cFunc Tryd.prog Tryd.f34 = some ir34 := by kernel_rfl
theorem co34 : ir34.body.ok glS ir34.ntmps = true := by kernel_rfl
theorem cn34 : (Tryd.f34.name == "runtime.NumGoroutine") = false := by kernel_rfl
theorem cf35 : cFunc Tryd.prog Tryd.f35 = some ir35 := by kernel_rfl
theorem co35 : ir35.body.ok glS ir35.ntmps = true := by kernel_rfl
theorem cn35 : (Tryd.f35.name == "runtime.NumGoroutine") = false := by kernel_rfl
theorem cf36 : cFunc Tryd.prog Tryd.f36 = some ir36 := by kernel_rfl
theorem co36 : ir36.body.ok glS ir36.ntmps = true := by kernel_rfl
theorem cn36 : (Tryd.f36.name == "runtime.NumGoroutine") = false := by kernel_rfl
theorem cf37 : cFunc Tryd.prog Tryd.f37 = some ir37 := by kernel_rfl
theorem co37 : ir37.body.ok glS ir37.ntmps = true := by kernel_rfl
theorem cn37 : (Tryd.f37.name == "runtime.NumGoroutine") = false := by kernel_rfl
theorem cf38 : cFunc Tryd.prog Tryd.f38 = some ir38 := by kernel_rfl
theorem co38 : ir38.body.ok glS ir38.ntmps = true := by kernel_rfl
theorem cn38 : (Tryd.f38.name == "runtime.NumGoroutine") = false := by kernel_rfl
theorem cf39 : cFunc Tryd.prog Tryd.f39 = some ir39 := by kernel_rfl
theorem co39 : ir39.body.ok glS ir39.ntmps = true := by kernel_rfl
theorem cn39 : (Tryd.f39.name == "runtime.NumGoroutine") = false := by kernel_rfl
theorem cf40 : cFunc Tryd.prog Tryd.f40 = some ir40 := by kernel_rfl
theorem co40 : ir40.body.ok glS ir40.ntmps = true := by kernel_rfl
theorem cn40 : (Tryd.f40.name == "runtime.NumGoroutine") = false := by kernel_rfl
theorem cf61 : cFunc Tryd.prog Tryd.f61 = some ir61 := by kernel_rfl
theorem co61 : ir61.body.ok glS ir61.ntmps = true := by kernel_rfl
theorem cn61 : (Tryd.f61.name == "runtime.NumGoroutine") = false := by kernel_rfl
theorem cf62 : cFunc Tryd.prog Tryd.f62 = some ir62 := by kernel_rfl
theorem co62 : ir62.body.ok glS ir62.ntmps = true := by kernel_rfl
theorem cn62 : (Tryd.f62.name == "runtime.NumGoroutine") = false := by kernel_rfl
theorem ok_FD : FOk glS Tryd.prog FD := by
  intro f fn h
  unfold FD at h
  split at h
  · cases h; exact ⟨_, Tryd.func3, cn3, cf3, co3⟩
  · cases h; exact ⟨_, Tryd.func4, cn4, cf4, co4⟩
  · cases h; exact ⟨_, Tryd.func6, cn6, cf6, co6⟩
  · cases h; exact ⟨_, Tryd.func7, cn7, cf7, co7⟩
  · cases h; exact ⟨_, Tryd.func9, cn9, cf9, co9⟩
  · cases h; exact ⟨_, Tryd.func10, cn10, cf10, co10⟩
  · cases h; exact ⟨_, Tryd.func11, cn11, cf11, co11⟩
  · cases h; exact ⟨_, Tryd.func12, cn12, cf12, co12⟩
  · cases h; exact ⟨_, Tryd.func13, cn13, cf13, co13⟩
  · cases h; exact ⟨_, Tryd.func14, cn14, cf14, co14⟩
  · cases h; exact ⟨_, Tryd.func15, cn15, cf15, co15⟩
  · cases h; exact ⟨_, Tryd.func16, cn16, cf16, co16⟩
  · cases h; exact ⟨_, Tryd.func17, cn17, cf17, co17⟩
  · cases h; exact ⟨_, Tryd.func18, cn18, cf18, co18⟩
  · cases h; exact ⟨_, Tryd.func19, cn19, cf19, co19⟩
  · cases h; exact ⟨_, Tryd.func20, cn20, cf20, co20⟩
  · cases h; exact ⟨_, Tryd.func21, cn21, cf21, co21⟩
  · cases h; exact ⟨_, Tryd.func22, cn22, cf22, co22⟩
  · cases h; exact ⟨_, Tryd.func29, cn29, cf29, co29⟩
  · cases h; exact ⟨_, Tryd.func31, cn31, cf31, co31⟩
  · cases h; exact ⟨_, Tryd.func32, cn32, cf32, co32⟩
  · cases h; exact ⟨_, Tryd.func33, cn33, cf33, co33⟩
  · cases h; exact ⟨_, Tryd.func34, cn34, cf34, co34⟩
  · cases h; exact ⟨_, Tryd.func35, cn35, cf35, co35⟩
  · cases h; exact ⟨_, Tryd.func36, cn36, cf36, co36⟩
  · cases h; exact ⟨_, Tryd.func37, cn37, cf37, co37⟩
  · cases h; exact ⟨_, Tryd.func38, cn38, cf38, co38⟩
  · cases h; exact ⟨_, Tryd.func39, cn39, cf39, co39⟩
  · cases h; exact ⟨_, Tryd.func40, cn40, cf40, co40⟩
  · cases h; exact ⟨_, Tryd.func61, cn61, cf61, co61⟩
  · cases h; exact ⟨_, Tryd.func62, cn62, cf62, co62⟩
  · cases h
theorem cf8 : cFunc Tryd.prog Tryd.f8 = some ir8 := by kernel_rfl
theorem co8 : ir8.body.ok glS ir8.ntmps = true := by kernel_rfl
theorem cn8 : (Tryd.f8.name == "runtime.NumGoroutine") = false := by kernel_rfl
theorem cf30 : cFunc Tryd.prog Tryd.f30 = some ir30 := by kernel_rfl
theorem co30 : ir30.body.ok glS ir30.ntmps = true := by kernel_rfl
theorem cn30 : (Tryd.f30.name == "runtime.NumGoroutine") = false := by kernel_rfl
theorem cf41 : cFunc Tryd.prog Tryd.f41 = some ir41 := by kernel_rfl
theorem co41 : ir41.body.ok glS ir41.ntmps = true := by kernel_rfl
theorem cn41 : (Tryd.f41.name == "runtime.NumGoroutine") = false := by kernel_rfl
theorem cf60 : cFunc Tryd.prog Tryd.f60 = some ir60 := by kernel_rfl
theorem co60 : ir60.body.ok glS ir60.ntmps = true := by kernel_rfl
theorem cn60 : (Tryd.f60.name == "runtime.NumGoroutine") = false := by kernel_rfl
theorem cf63 : cFunc Tryd.prog Tryd.f63 = some ir63 := by kernel_rfl
theorem co63 : ir63.body.ok glS ir63.ntmps = true := by kernel_rfl
theorem cn63 : (Tryd.f63.name == "runtime.NumGoroutine") = false := by kernel_rfl
theorem cf65 : cFunc Tryd.prog Tryd.f65 = some ir65 := by kernel_rfl
theorem co65 : ir65.body.ok glS ir65.ntmps = true := by kernel_rfl
theorem cn65 : (Tryd.f65.name == "runtime.NumGoroutine") = false := by kernel_rfl
theorem cf66 : cFunc Tryd.prog Tryd.f66 = some ir66 := by kernel_rfl
theorem co66 : ir66.body.ok glS ir66.ntmps = true := by kernel_rfl
theorem cn66 : (Tryd.f66.name == "runtime.NumGoroutine") = false := by kernel_rfl
theorem cf72 : cFunc Tryd.prog Tryd.f72 = some ir72 := by kernel_rfl
theorem co72 : ir72.body.ok glS ir72.ntmps = true := by kernel_rfl
theorem cn72 : (Tryd.f72.name == "runtime.NumGoroutine") = false := by kernel_rfl
theorem cf73 : cFunc Tryd.prog Tryd.f73 = some ir73 := by kernel_rfl
theorem co73 : ir73.body.ok glS ir73.ntmps = true := by kernel_rfl
theorem cn73 : (Tryd.f73.name == "runtime.NumGoroutine") = false := by kernel_rfl
theorem cf74 : cFunc Tryd.prog Tryd.f74 = some ir74 := by kernel_rfl
theorem co74 : ir74.body.ok glS ir74.ntmps = true := by kernel_rfl
theorem cn74 : (Tryd.f74.name == "runtime.NumGoroutine") = false := by kernel_rfl
theorem cf75 : cFunc Tryd.prog Tryd.f75 = some ir75 := by kernel_rfl
theorem co75 : ir75.body.ok glS ir75.ntmps = true := by kernel_rfl
theorem cn75 : (Tryd.f75.name == "runtime.NumGoroutine") = false := by kernel_rfl
theorem cf76 : cFunc Tryd.prog Tryd.f76 = some ir76 := by kernel_rfl
theorem co76 : ir76.body.ok glS ir76.ntmps = true := by kernel_rfl
theorem cn76 : (Tryd.f76.name == "runtime.NumGoroutine") = false := by kernel_rfl
theorem cf77 : cFunc Tryd.prog Tryd.f77 = some ir77 := by kernel_rfl
theorem co77 : ir77.body.ok glS ir77.ntmps = true := by kernel_rfl
theorem cn77 : (Tryd.f77.name == "runtime.NumGoroutine") = false := by kernel_rfl
theorem cf78 : cFunc Tryd.prog Tryd.f78 = some ir78 := by kernel_rfl
theorem co78 : ir78.body.ok glS ir78.ntmps = true := by kernel_rfl
theorem cn78 : (Tryd.f78.name == "runtime.NumGoroutine") = false := by kernel_rfl
theorem cf79 : cFunc Tryd.prog Tryd.f79 = some ir79 := by kernel_rfl
theorem co79 : ir79.body.ok glS ir79.ntmps = true := by kernel_rfl
theorem cn79 : (Tryd.f79.name == "runtime.NumGoroutine") = false := by kernel_rfl
theorem cf80 : cFunc Tryd.prog Tryd.f80 = some ir80 := by kernel_rfl
theorem co80 : ir80.body.ok glS ir80.ntmps = true := by kernel_rfl
theorem cn80 : (Tryd.f80.name == "runtime.NumGoroutine") = false := by kernel_rfl
theorem cf86 : cFunc Tryd.prog Tryd.f86 = some ir86 := by kernel_rfl
theorem co86 : ir86.body.ok glS ir86.ntmps = true := by kernel_rfl
theorem cn86 : (Tryd.f86.name == "runtime.NumGoroutine") = false := by kernel_rfl
theorem cf87 : cFunc Tryd.prog Tryd.f87 = some ir87 := by kernel_rfl
theorem co87 : ir87.body.ok glS ir87.ntmps = true := by kernel_rfl
theorem cn87 : (Tryd.f87.name == "runtime.NumGoroutine") = false := by kernel_rfl
theorem cf88 : cFunc Tryd.prog Tryd.f88 = some ir88 := by kernel_rfl
theorem co88 : ir88.body.ok glS ir88.ntmps = true := by kernel_rfl
theorem cn88 : (Tryd.f88.name == "runtime.NumGoroutine") = false := by kernel_rfl
theorem cf89 : cFunc Tryd.prog Tryd.f89 = some ir89 := by kernel_rfl
theorem co89 : ir89.body.ok glS ir89.ntmps = true := by kernel_rfl
theorem cn89 : (Tryd.f89.name == "runtime.NumGoroutine") = false := by kernel_rfl
theorem cf90 : cFunc Tryd.prog Tryd.f90 = some ir90 := by kernel_rfl
theorem co90 : ir90.body.ok glS ir90.ntmps = true := by kernel_rfl
theorem cn90 : (Tryd.f90.name == "runtime.NumGoroutine") = false := by kernel_rfl
theorem cf91 : cFunc Tryd.prog Tryd.f91 = some ir91 := by kernel_rfl
theorem co91 : ir91.body.ok glS ir91.ntmps = true := by kernel_rfl
theorem cn91 : (Tryd.f91.name == "runtime.NumGoroutine") = false := by kernel_rfl
theorem cf92 : cFunc Tryd.prog Tryd.f92 = some ir92 := by kernel_rfl
theorem co92 : ir92.body.ok glS ir92.ntmps = true := by kernel_rfl
theorem cn92 : (Tryd.f92.name == "runtime.NumGoroutine") = false := by kernel_rfl
theorem cf93 : cFunc Tryd.prog Tryd.f93 = some ir93 := by kernel_rfl
theorem co93 : ir93.body.ok glS ir93.ntmps = true := by kernel_rfl
theorem cn93 : (Tryd.f93.name == "runtime.NumGoroutine") = false := by kernel_rfl
theorem cf94 : cFunc Tryd.prog Tryd.f94 = some ir94 := by kernel_rfl
theorem co94 : ir94.body.ok glS ir94.ntmps = true := by kernel_rfl
theorem cn94 : (Tryd.f94.name == "runtime.NumGoroutine") = false := by kernel_rfl
theorem cf95 : cFunc Tryd.prog Tryd.f95 = some ir95 := by kernel_rfl
theorem co95 : ir95.body.ok glS ir95.ntmps = true := by kernel_rfl
theorem cn95 : (Tryd.f95.name == "runtime.NumGoroutine") = false := by kernel_rfl
theorem cf100 : cFunc Tryd.prog Tryd.f100 = some ir100 := by kernel_rfl
theorem co100 : ir100.body.ok glS ir100.ntmps = true := by kernel_rfl
theorem cn100 : (Tryd.f100.name == "runtime.NumGoroutine") = false := by kernel_rfl
theorem cf101 : cFunc Tryd.prog Tryd.f101 = some ir101 := by kernel_rfl
theorem co101 : ir101.body.ok glS ir101.ntmps = true := by kernel_rfl
theorem cn101 : (Tryd.f101.name == "runtime.NumGoroutine") = false := by kernel_rfl
theorem cf102 : cFunc Tryd.prog Tryd.f102 = some ir102 := by kernel_rfl
theorem co102 : ir102.body.ok glS ir102.ntmps = true := by kernel_rfl
theorem cn102 : (Tryd.f102.name == "runtime.NumGoroutine") = false := by kernel_rfl
theorem cf104 : cFunc Tryd.prog Tryd.f104 = some ir104 := by kernel_rfl
theorem co104 : ir104.body.ok glS ir104.ntmps = true := by kernel_rfl
theorem cn104 : (Tryd.f104.name == "runtime.NumGoroutine") = false := by kernel_rfl
theorem cf107 : cFunc Tryd.prog Tryd.f107 = some ir107 := by kernel_rfl
theorem co107 : ir107.body.ok glS ir107.ntmps = true := by kernel_rfl
theorem cn107 : (Tryd.f107.name == "runtime.NumGoroutine") = false := by kernel_rfl
theorem cf108 : cFunc Tryd.prog Tryd.f108 = some ir108 := by kernel_rfl
theorem co108 : ir108.body.ok glS ir108.ntmps = true := by kernel_rfl
theorem cn108 : (Tryd.f108.name == "runtime.NumGoroutine") = false := by kernel_rfl
theorem cf109 : cFunc Tryd.prog Tryd.f109 = some ir109 := by kernel_rfl
theorem co109 : ir109.body.ok glS ir109.ntmps = true := by kernel_rfl
theorem cn109 : (Tryd.f109.name == "runtime.NumGoroutine") = false := by kernel_rfl
theorem cf111 : cFunc Tryd.prog Tryd.f111 = some ir111 := by kernel_rfl
theorem co111 : ir111.body.ok glS ir111.ntmps = true := by kernel_rfl
theorem cn111 : (Tryd.f111.name == "runtime.NumGoroutine") = false := by kernel_rfl
theorem cf112 : cFunc Tryd.prog Tryd.f112 = some ir112 := by kernel_rfl
theorem co112 : ir112.body.ok glS ir112.ntmps = true := by kernel_rfl
theorem cn112 : (Tryd.f112.name == "runtime.NumGoroutine") = false := by kernel_rfl
theorem cf113 : cFunc Tryd.prog Tryd.f113 = some ir113 := by kernel_rfl
theorem co113 : ir113.body.ok glS ir113.ntmps = true := by kernel_rfl
theorem cn113 : (Tryd.f113.name == "runtime.NumGoroutine") = false := by kernel_rfl
theorem cf115 : cFunc Tryd.prog Tryd.f115 = some ir115 := by kernel_rfl
theorem co115 : ir115.body.ok glS ir115.ntmps = true := by kernel_rfl
theorem cn115 : (Tryd.f115.name == "runtime.NumGoroutine") = false := by kernel_rfl
theorem cf117 : cFunc Tryd.prog Tryd.f117 = some ir117 := by kernel_rfl
theorem co117 : ir117.body.ok glS ir117.ntmps = true := by kernel_rfl
theorem cn117 : (Tryd.f117.name == "runtime.NumGoroutine") = false := by kernel_rfl
theorem cf118 : cFunc Tryd.prog Tryd.f118 = some ir118 := by kernel_rfl
theorem co118 : ir118.body.ok glS ir118.ntmps = true := by kernel_rfl
theorem cn118 : (Tryd.f118.name == "runtime.NumGoroutine") = false := by kernel_rfl
theorem cf120 : cFunc Tryd.prog Tryd.f120 = some ir120 := by kernel_rfl
theorem co120 : ir120.body.ok glS ir120.ntmps = true := by kernel_rfl
theorem cn120 : (Tryd.f120.name == "runtime.NumGoroutine") = false := by kernel_rfl
def FA : FuncId → Option IFunc
  | 8 => some ir8
  | 9 => some ir9
  | 13 => some ir13
  | 15 => some ir15
  | 17 => some ir17
  | 30 => some ir30
  | 31 => some ir31
  | 32 => some ir32
  | 36 => some ir36
  | 41 => some ir41
  | 60 => some ir60
  | 61 => some ir61
  | 63 => some ir63
  | 65 => some ir65
  | 66 => some ir66
  | 72 => some ir72
  | 73 => some ir73
  | 74 => some ir74
  | 75 => some ir75
  | 76 => some ir76
  | 77 => some ir77
  | 78 => some ir78
  | 79 => some ir79
  | 80 => some ir80
  | 86 => some ir86
  | 87 => some ir87
  | 88 => some ir88
  | 89 => some ir89
  | 90 => some ir90
  | 91 => some ir91
  | 92 => some ir92
  | 93 => some ir93
  | 94 => some ir94
  | 95 => some ir95
  | 100 => some ir100
  | 101 => some ir101
  | 102 => some ir102
  | 104 => some ir104
  | 107 => some ir107
  | 108 => some ir108
  | 109 => some ir109
  | 111 => some ir111
  | 112 => some ir112
  | 113 => some ir113
  | 115 => some ir115
  | 117 => some ir117
  | 118 => some ir118
  | 120 => some ir120
  | _ => none
theorem ok_FA : FOk glS Tryd.prog FA := by
  intro f fn h
  unfold FA at h
  split at h
  · cases h; exact ⟨_, Tryd.func8, cn8, cf8, co8⟩
  · cases h; exact ⟨_, Tryd.func9, cn9, cf9, co9⟩
  · cases h; exact ⟨_, Tryd.func13, cn13, cf13, co13⟩
  · cases h; exact ⟨_, Tryd.func15, cn15, cf15, co15⟩
  · cases h; exact ⟨_, Tryd.func17, cn17, cf17, co17⟩
  · cases h; exact ⟨_, Tryd.func30, cn30, cf30, co30⟩
  · cases h; exact ⟨_, Tryd.func31, cn31, cf31, co31⟩
  · cases h; exact ⟨_, Tryd.func32, cn32, cf32, co32⟩
  · cases h; exact ⟨_, Tryd.func36, cn36, cf36, co36⟩
  · cases h; exact ⟨_, Tryd.func41, cn41, cf41, co41⟩
  · cases h; exact ⟨_, Tryd.func60, cn60, cf60, co60⟩
  · cases h; exact ⟨_, Tryd.func61, cn61, cf61, co61⟩
  · cases h; exact ⟨_, Tryd.func63, cn63, cf63, co63⟩
  · cases h; exact ⟨_, Tryd.func65, cn65, cf65, co65⟩
  · cases h; exact ⟨_, Tryd.func66, cn66, cf66, co66⟩
  · cases h; exact ⟨_, Tryd.func72, cn72, cf72, co72⟩
  · cases h; exact ⟨_, Tryd.func73, cn73, cf73, co73⟩
  · cases h; exact ⟨_, Tryd.func74, cn74, cf74, co74⟩
  · cases h; exact ⟨_, Tryd.func75, cn75, cf75, co75⟩
  · cases h; exact ⟨_, Tryd.func76, cn76, cf76, co76⟩
  · cases h; exact ⟨_, Tryd.func77, cn77, cf77, co77⟩
  · cases h; exact ⟨_, Tryd.func78, cn78, cf78, co78⟩
  · cases h; exact ⟨_, Tryd.func79, cn79, cf79, co79⟩
  · cases h; exact ⟨_, Tryd.func80, cn80, cf80, co80⟩
  · cases h; exact ⟨_, Tryd.func86, cn86, cf86, co86⟩
  · cases h; exact ⟨_, Tryd.func87, cn87, cf87, co87⟩
  · cases h; exact ⟨_, Tryd.func88, cn88, cf88, co88⟩
  · cases h; exact ⟨_, Tryd.func89, cn89, cf89, co89⟩
  · cases h; exact ⟨_, Tryd.func90, cn90, cf90, co90⟩
  · cases h; exact ⟨_, Tryd.func91, cn91, cf91, co91⟩
  · cases h; exact ⟨_, Tryd.func92, cn92, cf92, co92⟩
  · cases h; exact ⟨_, Tryd.func93, cn93, cf93, co93⟩
  · cases h; exact ⟨_, Tryd.func94, cn94, cf94, co94⟩
  · cases h; exact ⟨_, Tryd.func95, cn95, cf95, co95⟩
  · cases h; exact ⟨_, Tryd.func100, cn100, cf100, co100⟩
  · cases h; exact ⟨_, Tryd.func101, cn101, cf101, co101⟩
  · cases h; exact ⟨_, Tryd.func102, cn102, cf102, co102⟩
  · cases h; exact ⟨_, Tryd.func104, cn104, cf104, co104⟩
  · cases h; exact ⟨_, Tryd.func107, cn107, cf107, co107⟩
  · cases h; exact ⟨_, Tryd.func108, cn108, cf108, co108⟩
  · cases h; exact ⟨_, Tryd.func109, cn109, cf109, co109⟩
  · cases h; exact ⟨_, Tryd.func111, cn111, cf111, co111⟩
  · cases h; exact ⟨_, Tryd.func112, cn112, cf112, co112⟩
  · cases h; exact ⟨_, Tryd.func113, cn113, cf113, co113⟩
  · cases h; exact ⟨_, Tryd.func115, cn115, cf115, co115⟩
  · cases h; exact ⟨_, Tryd.func117, cn117, cf117, co117⟩
  · cases h; exact ⟨_, Tryd.func118, cn118, cf118, co118⟩
  · cases h; exact ⟨_, Tryd.func120, cn120, cf120, co120⟩
  · cases h
end Go.Den
/- The seat's example, run. -/
namespace Go.Den
open IrD Go.Proofs
theorem awake_run : saysTrue (den FA XN XN 300 (.func (.func 8) #[] #[]) [] (heapW (glSpace + 1) [])) = true := by kernel_rfl
theorem eok : EOk glS Tryd.prog XA :=
  eok_awake rfl Tryd.func8 cn8 (by kernel_rfl) fun hg => awake_calls (N := glSpace + 1) (FA := FA) (n := 300) follows ok_FA glS_z Tryd.func8 cn8 (by kernel_rfl) awake_run hg
#print axioms eok
end Go.Den
/- The seat: what its rows have in common. -/
namespace Go.Proofs.YtlcgnmdlggfelaaDoor
open Go Go.Den Go.ChangeShapes Go.WideShapes Go.RowKit
theorem own : ownKnob Tryd.prog.godebug = none := by kernel_rfl
theorem laidOut : laidOutB Tryd.prog = true := by kernel_rfl
theorem gSpace : Tryd.prog.globalNamed "strings.asciiSpace" = some glSpace := by kernel_rfl
theorem gSpaceT : (Tryd.prog.globals[glSpace]?).map (·.type) = some 145 := by kernel_rfl
theorem u145 : Tryd.prog.underlying 145 = some (.array 256 5) := by kernel_rfl
theorem u5 : Tryd.prog.underlying 5 = some (.int .u8) := by kernel_rfl
theorem c5 : Tryd.prog.cellsOf 5 = 1 := by kernel_rfl
theorem c145 : Tryd.prog.cellsOf 145 = 256 := by kernel_rfl
theorem spaceLaid : (Rows.laid_strings_asciiSpace : DataW Unit) = .agg (spaceCells.map litOf) := by kernel_rfl
def laid : List (String × DataW Unit) := [("unicode.White_Space", Rows.laid_unicode_White_Space), ("strings.asciiSpace", Rows.laid_strings_asciiSpace)]
/-- the variable's cells, out of the row's condition -/
theorem space_of_laid {W : World} (h : laidMetH Tryd.prog laid W) : ∃ ct fr, W.heap[glSpace]? = some (.cells spaceCells.toArray ct fr) := by
  have h' : laidMet Tryd.prog laid W := h
  exact spaceWorld h' (by rw [← spaceLaid]; simp [laid]) gSpace gSpaceT u145 u5 c5 c145

/-- a world in which the variables hold what their initialisers lay -/
noncomputable def laidWorld (os : Os) : World :=
  let N := (World.settled Tryd.prog os).heap.size
  let w0 := World.holding Tryd.prog os ⟨#[.cells ([9, 13, 1, 32, 133, 101, 160, 5760, 5600, 8192, 8202, 1, 8232, 8233, 1, 8239, 8287, 48, 12288, 12288, 1].map fun z => Value.int .u16 z).toArray 164, .cells #[.slice (some ⟨N, 0, none⟩) 7 7, .slice none 0 0, .int .i64 2] 161], #[], []⟩
  let put (h : Array Obj) (g : Nat) (cs : Array Value) : Array Obj := h.modify g fun
    | .cells _ t frozen => .cells cs t frozen
    | o => o
  { w0 with heap := put (put w0.heap glSpace spaceCells.toArray) 2 #[.pointer (some ⟨N + 1, 0, none⟩)] }
theorem laidWorld_met (os : Os) (args : Array Value) : laidMet Tryd.prog laid ((laidWorld os).forCall (fun _ _ => 0) ⟨#[], args, []⟩).memory :=
  laidMet_of_run' 10 (by kernel_rfl) (by kernel_rfl)
end Go.Proofs.YtlcgnmdlggfelaaDoor
/- The seat: a graph as an argument. -/
namespace Go.Proofs.YtlcgnmdlggfelaaDoor
open Go Go.Den Go.ChangeShapes Go.WideShapes Go.RowKit
theorem u3 : Tryd.prog.underlying 3 = some (.int .i64) := by kernel_rfl
theorem u4 : Tryd.prog.underlying 4 = some .bool := by kernel_rfl
theorem u22 : Tryd.prog.underlying 22 = some (.slice 26) := by kernel_rfl
theorem u24 : Tryd.prog.underlying 24 = some (.slice 3) := by kernel_rfl
def blkFields : Array Field := #[{ name := "From", type := 3, offset := 0, embedded := false, tag := "", pkgPath := "", byteOffset := 0 }, { name := "To", type := 3, offset := 1, embedded := false, tag := "", pkgPath := "", byteOffset := 8 }, { name := "Next", type := 24, offset := 2, embedded := false, tag := "", pkgPath := "", byteOffset := 16 }]
theorem u26 : Tryd.prog.underlying 26 = some (.struct blkFields) := by kernel_rfl
theorem plain22 : plainT Tryd.prog 5 22 = true := by kernel_rfl

theorem shp_blk {pvs : List PV} (h : Shp Tryd.prog 26 pvs) : ∃ b : Blk, pvs = encB b := by
  obtain ⟨pss, rfl, hl, hi⟩ := h.struct_inv u26
  have hl3 : pss.length = 3 := hl
  obtain ⟨p0, p1, p2, rfl⟩ : ∃ p0 p1 p2, pss = [p0, p1, p2] := by
    match pss, hl3 with
    | [p0, p1, p2], _ => exact ⟨p0, p1, p2, rfl⟩
  obtain ⟨a, ha, _⟩ := (hi 0 (by simp) (by decide)).int_inv u3
  obtain ⟨b, hb, _⟩ := (hi 1 (by simp) (by decide)).int_inv u3
  obtain ⟨l, hn⟩ := shp_ints u24 u3 (hi 2 (by simp) (by decide))
  simp only [List.getElem_cons_zero, List.getElem_cons_succ] at ha hb hn
  subst ha hb hn
  exact ⟨⟨a, b, l⟩, rfl⟩
theorem shp_blks {pvs : List PV} (h : Shp Tryd.prog 22 pvs) : ∃ bs : List Blk, pvs = [blks 26 bs] := by
  obtain ⟨pss, rfl, _, h2⟩ := h.slice_inv u22
  obtain ⟨l, rfl⟩ := map_of (g := encB) fun i hi => shp_blk (h2 i hi)
  exact ⟨l, by simp [blks, recs, List.flatMap_def]⟩

end Go.Proofs.YtlcgnmdlggfelaaDoor
/- FlowDominates: the card. -/
namespace Go.Proofs.YtlcgnmdlggfelaaDoor
open Go Go.Den Go.ChangeShapes Go.WideShapes Go.RowKit
set_option maxRecDepth 100000 in
theorem flowDominates_lifted (os : Os) (started : os.Started) (H : Type) (enc : TypeId × Value → H) :
    ReturnsInHanded {} Tryd.checked os 4 .any (fun w args => (Rows.flowDominatesSpec.pre enc Tryd.prog Tryd.f4 [] false w args ∧ laidMetH Tryd.prog laid w) ∧ sizedMet enc Tryd.prog Tryd.f4 (OpenSpec.ofChange Rows.flowDominatesSpec) false w args)
      (Rows.flowDominatesSpec.post enc Tryd.prog Tryd.f4 false true false false) := by
  refine returnsInHanded_of_change_and (C := Tryd.checked) (X := fun w _ => laidMetH Tryd.prog laid w) (fun _ _ _ hh h => h.of_heap hh) own started (by kernel_rfl) Tryd.func4
    (ChangeSpec.witness_shaped (enc := enc) (C := Tryd.checked) (os := os) (X := fun w _ => laidMetH Tryd.prog laid w) false (laidWorld os) #[.slice none 0 0] 8 rfl (World.shaped_of_RefB (by kernel_rfl) (by kernel_rfl)) (by kernel_rfl) (by kernel_rfl) (by kernel_rfl) (laidWorld_met os _)) ?_
  intro W base args ds gs before hval hW _ _ hL _
  obtain ⟨ct, fr, hsp⟩ := space_of_laid hL
  have hW' := hW
  obtain ⟨p, q, hA0, _, _, _, _⟩ := hW
  have hA : DataW.TrodAll enc Tryd.prog W 0 (fun _ => true) true [22] args.toList ds p := by
    have e : Tryd.f4.params.toList = [22] := by rw [Tryd.params4]
    rw [← e]; exact hA0
  obtain ⟨v, d, rfl, rfl, fuel, hd⟩ := trodAll_one hA
  obtain ⟨ws, pvs, g1, g2, g3, _⟩ := got_of_trod (BytesAt.space hsp) 5 plain22 hd
  obtain ⟨bs, rfl⟩ := shp_blks g3
  have hv : v.cells.toList = [v] := by
    rcases DataW.trod_slice u22 hd with ⟨h, _⟩ | ⟨a, len, cap, _, _, _, _, h, _⟩
    · cases v with
      | agg cs =>
        have h0 : Value.okWide Tryd.prog W .any base 22 (.agg cs) := hval 0 22 _ (by rw [Tryd.params4]; rfl) rfl
        simp [Value.okWide, Cell.okWide, Cell.ok] at h0
      | _ => rfl
    · cases v with
      | agg cs =>
        have h0 : Value.okWide Tryd.prog W .any base 22 (.agg cs) := hval 0 22 _ (by rw [Tryd.params4]; rfl) rfl
        simp [Value.okWide, Cell.okWide, Cell.ok] at h0
      | _ => rfl
  rw [hv] at g1
  refine (cls_calls (gl := glS) follows ok_FD eok xok_none extK_awake extK_none glS_z Tryd.func4 cn4 (by kernel_rfl) (flowDominates_ok (tb := 26) (bs := bs)) (GlOk.space hsp) g2 (args := #[v]) g1).mono fun e w' he => ?_
  obtain ⟨c, rfl, ⟨ρ, ζ, σ, d', hvp, hvr⟩, hst⟩ := he
  obtain ⟨rfl, _⟩ := hvp.v_inv
  cases hvr
  exact ⟨_, rfl, post_law rfl (by kernel_rfl) u4 laidOut (fun t ht => by
    have h22 : t = 22 := by rw [Tryd.params4] at ht; simpa using ht
    subst h22
    exact ⟨by kernel_rfl, of_decide_eq_true (by kernel_rfl)⟩) (fun ds hd => by
    match ds, hd with
    | [d], _ => rfl) hW' hst⟩

theorem flowDominates_holds : Rows.FlowDominatesSaid :=
  OpenClaim.holds_of_wide 4 Tryd.f4 rfl rfl rfl rfl rfl rfl rfl ⟨rfl, rfl, rfl, rfl, rfl⟩ rfl rfl rfl rfl rfl (by kernel_rfl) Tryd.func4 (by kernel_rfl)
    (of_decide_eq_true (by kernel_rfl)) (by unfold Func.isWrapper; rw [if_neg (of_decide_eq_false (by kernel_rfl))]; exact ⟨rfl, rfl⟩)
    (fun os started H enc _ => flowDominates_lifted os started H enc)
theorem flowDominates_card : Rows.FlowDominatesCardSaid :=
  Claim7.holds_tied_plain_at .later [] [.listed, .data] true (true, "7d213b5ec0c8da5a3bed999b6c06f129f3a4ff7488c2557ca8af4dd083725410") false
    flowDominates_holds (fun _ h => by cases h) (by kernel_rfl) (fun _ h => by cases h) flowDominates_row_tie rfl ⟨rfl, rfl⟩ (by kernel_rfl) rfl
    (fun f fn hf hfn => by
      obtain rfl : f = 4 := Option.some.inj ((show Tryd.prog.funcNamed "raddle/raddlelaw23.FlowDominates" = some 4 by kernel_rfl).symm.trans hf) |>.symm
      obtain rfl : fn = Tryd.f4 := (Option.some.inj (Tryd.func4.symm.trans hfn)).symm
      exact ⟨by kernel_rfl, fun j t ht => by
        rw [Tryd.params4] at ht
        have h3 : t = 22 := by
          rcases j with _ | j
          · simpa using ht.symm
          · simp at ht
        subst h3
        exact (show Tryd.prog.wantsStandIn 22 = false by kernel_rfl)⟩)
    (by kernel_rfl)
#print axioms flowDominates_card
end Go.Proofs.YtlcgnmdlggfelaaDoor
