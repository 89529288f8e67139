/- The law FlowValues of package raddlelaw23 returns true for every input, and its argument reads behind the call as it read before. Conditions: those of the given card (strings.asciiSpace and unicode.White_Space hold what their initialisers lay, tied to the text of the pruned copy of the program). -/
/- Part 7 of the proof: an executor over a compiled form of the functions of this program, that it is right, and what it computes (see the last part). -/
import Derived.Test.YtlcgnmdlggfelaaDoorK6
import Derived.ChangeSame
import Derived.ChangeVars
import Derived.RowKit
import Derived.RowKitTokens
import Derived.WideKeyArgs
import Derived.LaidLaws
import Derived.Lib.LaidTab
import Derived.Lib.LaidU8
import Derived.JoinedOf
import Derived.Test.YtlcgnmdlggfelaaDoorChecked
import Derived.KernelRfl
import Derived.Lib.Bytealg
import Derived.Laws.Externs
import Derived.Test.YtlcgnmdlggfelaaDoorRows
import Derived.Test.YtlcgnmdlggfelaaDoorTie
import Derived.Test.YtlcgnmdlggfelaaDoorCards
import Derived.SevenTiedAt
import Derived.Handed
set_option linter.all false
/- Cls, part E: a law's row, out of a call that is still. -/
namespace Go.Den
open Go.ChangeShapes Go.WideShapes Go.RowKit
variable {P : Program} {H : Type} {enc : TypeId × Value → H}
theorem Still.same {W w' : World} (h : Still W w') {p : MemPlace} (hp : p.block < W.heap.size) : W.sameAt w' p := by
 cases p with
 | cell b off =>
  show w'.cell? ⟨b, off, none⟩ = W.cell? ⟨b, off, none⟩
  unfold World.cell?
  rw [h.blk b hp]
 | map b => exact h.blk b hp
theorem trodAll_still (hl : laidOutB P = true) {W W' : World} (hs : Still W W') : ∀ {ts : List TypeId} {vs : List Value} {ds : List (DataW H)} {ps : List MemPlace}, (∀ t ∈ ts, P.readableRec t = true ∧ t < P.types.size) →
  DataW.TrodAll enc P W 0 (fun _ => true) true ts vs ds ps → (∀ p ∈ ps, p.block < W.heap.size) → DataW.TrodAll enc P W' 0 (fun b => decide (b < W.heap.size)) true ts vs ds ps
 | [], [], [], _, _, h, _ => h
 | t :: ts, v :: vs, d :: ds, _, ht, ⟨p, q, h1, h2, e⟩, hp => by
  subst e
  exact ⟨p, q, WideElems.Trod_stays hl (ht t (by simp)).1 (ht t (by simp)).2 h1 (fun x hx => hs.same (hp x (List.mem_append_left _ hx))) (fun x hx => by simpa using hp x (List.mem_append_left _ hx)),
   trodAll_still hl hs (fun t' ht' => ht t' (List.mem_cons_of_mem _ ht')) h2 (fun x hx => hp x (List.mem_append_right _ hx)), rfl⟩
theorem Still.kept {W W' : World} (hs : Still W W') (may : MemPlace → Prop) : W.keptBut W' may := by
 refine ⟨hs.os, hs.out, fun i hi => ?_⟩
 rw [hs.blk i hi]
 cases hw : W.heap[i]? with
 | none => rfl
 | some o =>
  cases o with
  | cells c t fr => exact ⟨rfl, rfl, rfl, fun _ _ => rfl⟩
  | map es clock => exact .inr ⟨rfl, rfl⟩
  | _ => rfl
theorem trodAll_len {W : World} {b : Nat} {sp : Nat → Bool} {held : Bool} : ∀ {ts : List TypeId} {vs : List Value} {ds : List (DataW H)} {ps : List MemPlace}, DataW.TrodAll enc P W b sp held ts vs ds ps → ds.length = ts.length
 | [], [], [], _, _ => rfl
 | _ :: _, _ :: _, _ :: _, _, ⟨_, _, _, h2, _⟩ => by simp [trodAll_len h2]
theorem post_law {f : Func} {s : ChangeSpec} {apart fresh : Bool} {tb : TypeId} (hvars : s.vars = []) (hres : f.resultTypes = #[tb]) (htb : P.underlying tb = some .bool) (hl : laidOutB P = true) (hrd : ∀ t ∈ f.params.toList, P.readableRec t = true ∧ t < P.types.size)
  (hfn : ∀ ds : List (DataW H), ds.length = f.params.size → s.fn H ds = { results := [.lit (.bool true)], args := ds }) {W W' : World} {args : Array Value} {ds gs : List (DataW H)} {before : List MemPlace}
  (hW : DataW.Whole enc P f.params.toList s.vars apart W args.toList ds gs before) (hst : Still W W') : s.post enc P f apart fresh false false W args (.bool true) W' := by
 have hlt := hW.lt
 have hW' := hW
 obtain ⟨p, q, hA, hV, rfl, _, _⟩ := hW
 rw [hvars] at hV
 obtain ⟨rfl, rfl⟩ := trodVars_none hV
 have hdl : ds.length = f.params.size := by have := trodAll_len hA; simpa using this
 have e1 : s.fn H (ds ++ []) = { results := [.lit (.bool true)], args := ds } := by rw [List.append_nil]; exact hfn ds hdl
 refine ⟨ds, [], p ++ [], [], p, [], hW', ?_, ?_, ?_, hst.kept _, fun h => by cases h⟩
 ·rw [e1, hres]
  exact trodAll_mk1 (shut_bool htb true)
 ·rw [e1]
  exact trodAll_still hl hst hrd hA fun x hx => hlt x (List.mem_append_left _ hx)
 ·rw [e1, hvars]; rfl
theorem map_of {α : Type} {g : α → List PV} : ∀ {pss : List (List PV)}, (∀ i (h : i < pss.length), ∃ x, pss[i] = g x) → ∃ xs : List α, pss = xs.map g
 | [], _ => ⟨[], rfl⟩
 | ps :: pss, h => by
  obtain ⟨x, hx⟩ := h 0 (by simp)
  obtain ⟨xs, hxs⟩ := map_of (pss := pss) (g := g) fun i hi => h (i + 1) (Nat.succ_lt_succ hi)
  exact ⟨x :: xs, by rw [List.map_cons, ← hxs]; exact congrArg (· :: pss) hx⟩
theorem Shp.int_inv {t : TypeId} {k : IntKind} {pvs : List PV} (ht : P.underlying t = some (.int k)) (h : Shp P t pvs) : ∃ n : Int, pvs = [.v (.int k n)] ∧ (Lit.int k n).wf = true := by
 cases h with
 | int h1 h2 => rw [ht] at h1; cases h1; exact ⟨_, rfl, h2⟩
 | bool h1 => rw [ht] at h1; cases h1
 | string h1 => rw [ht] at h1; cases h1
 | slice h1 => rw [ht] at h1; cases h1
 | struct h1 => rw [ht] at h1; cases h1
theorem Shp.string_inv {t : TypeId} {pvs : List PV} (ht : P.underlying t = some .string) (h : Shp P t pvs) : ∃ s : ByteArray, pvs = [.v (.string s)] ∧ s.size ≤ reachBytes := by
 cases h with
 | int h1 => rw [ht] at h1; cases h1
 | bool h1 => rw [ht] at h1; cases h1
 | string h1 h2 => exact ⟨_, rfl, h2⟩
 | slice h1 => rw [ht] at h1; cases h1
 | struct h1 => rw [ht] at h1; cases h1
theorem Shp.slice_inv {t e : TypeId} {pvs : List PV} (ht : P.underlying t = some (.slice e)) (h : Shp P t pvs) : ∃ pss : List (List PV), pvs = [.fz e pss.length pss.flatten] ∧ pss.length ≤ reachBytes ∧ ∀ i (h : i < pss.length), Shp P e pss[i] := by
 cases h with
 | int h1 => rw [ht] at h1; cases h1
 | bool h1 => rw [ht] at h1; cases h1
 | string h1 => rw [ht] at h1; cases h1
 | slice h1 h2 h3 => rw [ht] at h1; cases h1; exact ⟨_, rfl, h2, h3⟩
 | struct h1 => rw [ht] at h1; cases h1
theorem Shp.struct_inv {t : TypeId} {fs : Array Field} {pvs : List PV} (ht : P.underlying t = some (.struct fs)) (h : Shp P t pvs) : ∃ pss : List (List PV), pvs = pss.flatten ∧ pss.length = fs.size ∧ ∀ i (h : i < pss.length) (h' : i < fs.size), Shp P fs[i].type pss[i] := by
 cases h with
 | int h1 => rw [ht] at h1; cases h1
 | bool h1 => rw [ht] at h1; cases h1
 | string h1 => rw [ht] at h1; cases h1
 | slice h1 => rw [ht] at h1; cases h1
 | struct h1 h2 h3 => rw [ht] at h1; cases h1; exact ⟨_, rfl, h2, h3⟩
theorem flatten_single {α : Type} (f : α → PV) (l : List α) : (l.map fun x => [f x]).flatten = l.map f := by
 induction l with
 | nil => rfl
 | cons a l ih => simp [ih]
def litOf : Value → DataW Unit
 | .int k n => .lit (.int k n)
 | _ => .nil
def numOf : Value → Int
 | .int _ n => n
 | _ => 0
theorem tabWorld {W : World} {laid : List (String × DataW Unit)} {name : String} {cells : List Value} {g0 n : Nat} (hm : laidMet P laid W) (hmem : (name, DataW.agg (cells.map litOf)) ∈ laid) (hg : P.globalNamed name = some g0) {t e : TypeId} (hgt : (P.globals[g0]?).map (·.type) = some t)
  (ht : P.underlying t = some (.array n e)) (he : P.underlying e = some (.int .u8)) (hce : P.cellsOf e = 1) (hct : P.cellsOf t = n) (hz : (DataW.agg (cells.map litOf) : DataW Unit) = Lib.tabData .u8 (cells.map numOf)) (hz2 : ((cells.map numOf).map fun z => Value.int .u8 z) = cells) :
  ∃ ct fr, W.heap[g0]? = some (.cells cells.toArray ct fr) := by
 obtain ⟨g, t', cs, fuel, p, h1, h2, h3, h4⟩ := Lib.laidMet.reads hm hmem
 rw [hg] at h1; cases h1
 rw [hgt] at h2; cases h2
 rw [hz] at h4
 have hcs := Lib.cells_of_tab ht he hce hct h4
 rw [hz2] at hcs
 unfold World.var? at h3
 rw [hg] at h3
 simp only [Option.bind_some] at h3
 split at h3
 ·rename_i c t fr hb
  cases h3
  exact ⟨t, fr, by rw [hb, ← hcs]⟩
 ·cases h3
structure LaidAt (hp : Array Obj) : Prop where
 bru : ∃ ct fr, hp[glBru]? = some (.cells bruCells.toArray ct fr)
 space : ∃ ct fr, hp[glSpace]? = some (.cells spaceCells.toArray ct fr)
theorem LaidAt.at_ {hp : Array Obj} (h : LaidAt hp) {k : Nat} {z : Zr} (hz : glZ k = some z) : ∃ ct fr, hp[k]? = some (.cells z.cs.toArray ct fr) := by
 rcases glZ_cases hz with ⟨rfl, rfl⟩ | ⟨rfl, rfl⟩
 ·exact h.bru
 ·exact h.space
theorem GlOk.laid {hp : Array Obj} (h : LaidAt hp) : GlOk hp glN := glOk_mem fun k z hz => by
 obtain ⟨ct, fr, h1⟩ := h.at_ hz
 exact ⟨_, _, _, h1, by simp, by simp⟩
theorem glBytes {k : Nat} {z : Zr} (h : glZ k = some z) : z.cs.all isU8 = true := by
 rcases glZ_cases h with ⟨_, rfl⟩ | ⟨_, rfl⟩
 ·show bruCells.all isU8 = true
  kernel_rfl
 ·show spaceCells.all isU8 = true
  kernel_rfl
theorem BytesAt.laid {hp : Array Obj} (h : LaidAt hp) : BytesAt hp := by
 intro b hb ccs ct' fr' hc c hm
 obtain ⟨z, hz⟩ := Option.isSome_iff_exists.1 hb
 obtain ⟨ct, fr, h1⟩ := h.at_ hz
 rw [h1] at hc
 cases hc
 exact List.all_eq_true.1 (glBytes hz) c hm
end Go.Den
/- The seat's functions: their code is that of the program. -/
namespace Go.Den
open IrD Go.Proofs
def glS : Nat → Bool := fun g => g == glBru || g == glSpace
theorem glS_z : ∀ g, glS g = true → (glZ g).isSome = true := fun g h => by
 have : g = glBru ∨ g = glSpace := by simpa [glS] using h
 rcases this with rfl | rfl <;> rfl
theorem glS_of : ∀ k z, glZ k = some z → glS k = true := fun k z h => by
 rcases glZ_cases h with ⟨rfl, _⟩ | ⟨rfl, _⟩ <;> rfl
theorem follows : Tryd.prog.follows .mixedOrders = true := by kernel_rfl
theorem cf5 : cFunc Tryd.prog Tryd.f5 = some ir5 := by kernel_rfl
theorem co5 : ir5.body.ok glS ir5.ntmps = true := by kernel_rfl
theorem cn5 : (Tryd.f5.name == "runtime.NumGoroutine") = false := by kernel_rfl
theorem cf13 : cFunc Tryd.prog Tryd.f13 = some ir13 := by kernel_rfl
theorem co13 : ir13.body.ok glS ir13.ntmps = true := by kernel_rfl
theorem cn13 : (Tryd.f13.name == "runtime.NumGoroutine") = false := by kernel_rfl
theorem cf23 : cFunc Tryd.prog Tryd.f23 = some ir23 := by kernel_rfl
theorem co23 : ir23.body.ok glS ir23.ntmps = true := by kernel_rfl
theorem cn23 : (Tryd.f23.name == "runtime.NumGoroutine") = false := by kernel_rfl
theorem cf24 : cFunc Tryd.prog Tryd.f24 = some ir24 := by kernel_rfl
theorem co24 : ir24.body.ok glS ir24.ntmps = true := by kernel_rfl
theorem cn24 : (Tryd.f24.name == "runtime.NumGoroutine") = false := by kernel_rfl
theorem cf25 : cFunc Tryd.prog Tryd.f25 = some ir25 := by kernel_rfl
theorem co25 : ir25.body.ok glS ir25.ntmps = true := by kernel_rfl
theorem cn25 : (Tryd.f25.name == "runtime.NumGoroutine") = false := by kernel_rfl
theorem cf26 : cFunc Tryd.prog Tryd.f26 = some ir26 := by kernel_rfl
theorem co26 : ir26.body.ok glS ir26.ntmps = true := by kernel_rfl
theorem cn26 : (Tryd.f26.name == "runtime.NumGoroutine") = false := by kernel_rfl
theorem cf27 : cFunc Tryd.prog Tryd.f27 = some ir27 := by kernel_rfl
theorem co27 : ir27.body.ok glS ir27.ntmps = true := by kernel_rfl
theorem cn27 : (Tryd.f27.name == "runtime.NumGoroutine") = false := by kernel_rfl
theorem cf28 : cFunc Tryd.prog Tryd.f28 = some ir28 := by kernel_rfl
theorem co28 : ir28.body.ok glS ir28.ntmps = true := by kernel_rfl
theorem cn28 : (Tryd.f28.name == "runtime.NumGoroutine") = false := by kernel_rfl
theorem cf34 : cFunc Tryd.prog Tryd.f34 = some ir34 := by kernel_rfl
theorem co34 : ir34.body.ok glS ir34.ntmps = true := by kernel_rfl
theorem cn34 : (Tryd.f34.name == "runtime.NumGoroutine") = false := by kernel_rfl
theorem cf35 : cFunc Tryd.prog Tryd.f35 = some ir35 := by kernel_rfl
theorem co35 : ir35.body.ok glS ir35.ntmps = true := by kernel_rfl
theorem cn35 : (Tryd.f35.name == "runtime.NumGoroutine") = false := by kernel_rfl
theorem cf41 : cFunc Tryd.prog Tryd.f41 = some ir41 := by kernel_rfl
theorem co41 : ir41.body.ok glS ir41.ntmps = true := by kernel_rfl
theorem cn41 : (Tryd.f41.name == "runtime.NumGoroutine") = false := by kernel_rfl
theorem cf42 : cFunc Tryd.prog Tryd.f42 = some ir42 := by kernel_rfl
theorem co42 : ir42.body.ok glS ir42.ntmps = true := by kernel_rfl
theorem cn42 : (Tryd.f42.name == "runtime.NumGoroutine") = false := by kernel_rfl
theorem cf43 : cFunc Tryd.prog Tryd.f43 = some ir43 := by kernel_rfl
theorem co43 : ir43.body.ok glS ir43.ntmps = true := by kernel_rfl
theorem cn43 : (Tryd.f43.name == "runtime.NumGoroutine") = false := by kernel_rfl
theorem cf44 : cFunc Tryd.prog Tryd.f44 = some ir44 := by kernel_rfl
theorem co44 : ir44.body.ok glS ir44.ntmps = true := by kernel_rfl
theorem cn44 : (Tryd.f44.name == "runtime.NumGoroutine") = false := by kernel_rfl
theorem cf45 : cFunc Tryd.prog Tryd.f45 = some ir45 := by kernel_rfl
theorem co45 : ir45.body.ok glS ir45.ntmps = true := by kernel_rfl
theorem cn45 : (Tryd.f45.name == "runtime.NumGoroutine") = false := by kernel_rfl
theorem cf46 : cFunc Tryd.prog Tryd.f46 = some ir46 := by kernel_rfl
theorem co46 : ir46.body.ok glS ir46.ntmps = true := by kernel_rfl
theorem cn46 : (Tryd.f46.name == "runtime.NumGoroutine") = false := by kernel_rfl
theorem cf47 : cFunc Tryd.prog Tryd.f47 = some ir47 := by kernel_rfl
theorem co47 : ir47.body.ok glS ir47.ntmps = true := by kernel_rfl
theorem cn47 : (Tryd.f47.name == "runtime.NumGoroutine") = false := by kernel_rfl
theorem cf48 : cFunc Tryd.prog Tryd.f48 = some ir48 := by kernel_rfl
theorem co48 : ir48.body.ok glS ir48.ntmps = true := by kernel_rfl
theorem cn48 : (Tryd.f48.name == "runtime.NumGoroutine") = false := by kernel_rfl
theorem cf49 : cFunc Tryd.prog Tryd.f49 = some ir49 := by kernel_rfl
theorem co49 : ir49.body.ok glS ir49.ntmps = true := by kernel_rfl
theorem cn49 : (Tryd.f49.name == "runtime.NumGoroutine") = false := by kernel_rfl
theorem cf50 : cFunc Tryd.prog Tryd.f50 = some ir50 := by kernel_rfl
theorem co50 : ir50.body.ok glS ir50.ntmps = true := by kernel_rfl
theorem cn50 : (Tryd.f50.name == "runtime.NumGoroutine") = false := by kernel_rfl
theorem cf51 : cFunc Tryd.prog Tryd.f51 = some ir51 := by kernel_rfl
theorem co51 : ir51.body.ok glS ir51.ntmps = true := by kernel_rfl
theorem cn51 : (Tryd.f51.name == "runtime.NumGoroutine") = false := by kernel_rfl
theorem cf52 : cFunc Tryd.prog Tryd.f52 = some ir52 := by kernel_rfl
theorem co52 : ir52.body.ok glS ir52.ntmps = true := by kernel_rfl
theorem cn52 : (Tryd.f52.name == "runtime.NumGoroutine") = false := by kernel_rfl
theorem cf53 : cFunc Tryd.prog Tryd.f53 = some ir53 := by kernel_rfl
theorem co53 : ir53.body.ok glS ir53.ntmps = true := by kernel_rfl
theorem cn53 : (Tryd.f53.name == "runtime.NumGoroutine") = false := by kernel_rfl
theorem cf54 : cFunc Tryd.prog Tryd.f54 = some ir54 := by kernel_rfl
theorem co54 : ir54.body.ok glS ir54.ntmps = true := by kernel_rfl
theorem cn54 : (Tryd.f54.name == "runtime.NumGoroutine") = false := by kernel_rfl
theorem cf55 : cFunc Tryd.prog Tryd.f55 = some ir55 := by kernel_rfl
theorem co55 : ir55.body.ok glS ir55.ntmps = true := by kernel_rfl
theorem cn55 : (Tryd.f55.name == "runtime.NumGoroutine") = false := by kernel_rfl
theorem cf56 : cFunc Tryd.prog Tryd.f56 = some ir56 := by kernel_rfl
theorem co56 : ir56.body.ok glS ir56.ntmps = true := by kernel_rfl
theorem cn56 : (Tryd.f56.name == "runtime.NumGoroutine") = false := by kernel_rfl
theorem cf57 : cFunc Tryd.prog Tryd.f57 = some ir57 := by kernel_rfl
theorem co57 : ir57.body.ok glS ir57.ntmps = true := by kernel_rfl
theorem cn57 : (Tryd.f57.name == "runtime.NumGoroutine") = false := by kernel_rfl
theorem cf58 : cFunc Tryd.prog Tryd.f58 = some ir58 := by kernel_rfl
theorem co58 : ir58.body.ok glS ir58.ntmps = true := by kernel_rfl
theorem cn58 : (Tryd.f58.name == "runtime.NumGoroutine") = false := by kernel_rfl
theorem cf59 : cFunc Tryd.prog Tryd.f59 = some ir59 := by kernel_rfl
theorem co59 : ir59.body.ok glS ir59.ntmps = true := by kernel_rfl
theorem cn59 : (Tryd.f59.name == "runtime.NumGoroutine") = false := by kernel_rfl
theorem cf63 : cFunc Tryd.prog Tryd.f63 = some ir63 := by kernel_rfl
theorem co63 : ir63.body.ok glS ir63.ntmps = true := by kernel_rfl
theorem cn63 : (Tryd.f63.name == "runtime.NumGoroutine") = false := by kernel_rfl
theorem cf64 : cFunc Tryd.prog Tryd.f64 = some ir64 := by kernel_rfl
theorem co64 : ir64.body.ok glS ir64.ntmps = true := by kernel_rfl
theorem cn64 : (Tryd.f64.name == "runtime.NumGoroutine") = false := by kernel_rfl
theorem cf65 : cFunc Tryd.prog Tryd.f65 = some ir65 := by kernel_rfl
theorem co65 : ir65.body.ok glS ir65.ntmps = true := by kernel_rfl
theorem cn65 : (Tryd.f65.name == "runtime.NumGoroutine") = false := by kernel_rfl
theorem cf66 : cFunc Tryd.prog Tryd.f66 = some ir66 := by kernel_rfl
theorem co66 : ir66.body.ok glS ir66.ntmps = true := by kernel_rfl
theorem cn66 : (Tryd.f66.name == "runtime.NumGoroutine") = false := by kernel_rfl
theorem cf67 : cFunc Tryd.prog Tryd.f67 = some ir67 := by kernel_rfl
theorem co67 : ir67.body.ok glS ir67.ntmps = true := by kernel_rfl
theorem cn67 : (Tryd.f67.name == "runtime.NumGoroutine") = false := by kernel_rfl
theorem cf68 : cFunc Tryd.prog Tryd.f68 = some ir68 := by kernel_rfl
theorem co68 : ir68.body.ok glS ir68.ntmps = true := by kernel_rfl
theorem cn68 : (Tryd.f68.name == "runtime.NumGoroutine") = false := by kernel_rfl
theorem cf69 : cFunc Tryd.prog Tryd.f69 = some ir69 := by kernel_rfl
theorem co69 : ir69.body.ok glS ir69.ntmps = true := by kernel_rfl
theorem cn69 : (Tryd.f69.name == "runtime.NumGoroutine") = false := by kernel_rfl
theorem cf70 : cFunc Tryd.prog Tryd.f70 = some ir70 := by kernel_rfl
theorem co70 : ir70.body.ok glS ir70.ntmps = true := by kernel_rfl
theorem cn70 : (Tryd.f70.name == "runtime.NumGoroutine") = false := by kernel_rfl
theorem cf71 : cFunc Tryd.prog Tryd.f71 = some ir71 := by kernel_rfl
theorem co71 : ir71.body.ok glS ir71.ntmps = true := by kernel_rfl
theorem cn71 : (Tryd.f71.name == "runtime.NumGoroutine") = false := by kernel_rfl
theorem cf73 : cFunc Tryd.prog Tryd.f73 = some ir73 := by kernel_rfl
theorem co73 : ir73.body.ok glS ir73.ntmps = true := by kernel_rfl
theorem cn73 : (Tryd.f73.name == "runtime.NumGoroutine") = false := by kernel_rfl
theorem cf74 : cFunc Tryd.prog Tryd.f74 = some ir74 := by kernel_rfl
theorem co74 : ir74.body.ok glS ir74.ntmps = true := by kernel_rfl
theorem cn74 : (Tryd.f74.name == "runtime.NumGoroutine") = false := by kernel_rfl
theorem cf75 : cFunc Tryd.prog Tryd.f75 = some ir75 := by kernel_rfl
theorem co75 : ir75.body.ok glS ir75.ntmps = true := by kernel_rfl
theorem cn75 : (Tryd.f75.name == "runtime.NumGoroutine") = false := by kernel_rfl
theorem cf76 : cFunc Tryd.prog Tryd.f76 = some ir76 := by kernel_rfl
theorem co76 : ir76.body.ok glS ir76.ntmps = true := by kernel_rfl
theorem cn76 : (Tryd.f76.name == "runtime.NumGoroutine") = false := by kernel_rfl
theorem cf77 : cFunc Tryd.prog Tryd.f77 = some ir77 := by kernel_rfl
theorem co77 : ir77.body.ok glS ir77.ntmps = true := by kernel_rfl
theorem cn77 : (Tryd.f77.name == "runtime.NumGoroutine") = false := by kernel_rfl
theorem cf78 : cFunc Tryd.prog Tryd.f78 = some ir78 := by kernel_rfl
theorem co78 : ir78.body.ok glS ir78.ntmps = true := by kernel_rfl
theorem cn78 : (Tryd.f78.name == "runtime.NumGoroutine") = false := by kernel_rfl
theorem cf79 : cFunc Tryd.prog Tryd.f79 = some ir79 := by kernel_rfl
theorem co79 : ir79.body.ok glS ir79.ntmps = true := by kernel_rfl
theorem cn79 : (Tryd.f79.name == "runtime.NumGoroutine") = false := by kernel_rfl
theorem cf80 : cFunc Tryd.prog Tryd.f80 = some ir80 := by kernel_rfl
theorem co80 : ir80.body.ok glS ir80.ntmps = true := by kernel_rfl
theorem cn80 : (Tryd.f80.name == "runtime.NumGoroutine") = false := by kernel_rfl
theorem cf81 : cFunc Tryd.prog Tryd.f81 = some ir81 := by kernel_rfl
theorem co81 : ir81.body.ok glS ir81.ntmps = true := by kernel_rfl
theorem cn81 : (Tryd.f81.name == "runtime.NumGoroutine") = false := by kernel_rfl
theorem cf82 : cFunc Tryd.prog Tryd.f82 = some ir82 := by kernel_rfl
theorem co82 : ir82.body.ok glS ir82.ntmps = true := by kernel_rfl
theorem cn82 : (Tryd.f82.name == "runtime.NumGoroutine") = false := by kernel_rfl
theorem cf83 : cFunc Tryd.prog Tryd.f83 = some ir83 := by kernel_rfl
theorem co83 : ir83.body.ok glS ir83.ntmps = true := by kernel_rfl
theorem cn83 : (Tryd.f83.name == "runtime.NumGoroutine") = false := by kernel_rfl
theorem cf84 : cFunc Tryd.prog Tryd.f84 = some ir84 := by kernel_rfl
theorem co84 : ir84.body.ok glS ir84.ntmps = true := by kernel_rfl
theorem cn84 : (Tryd.f84.name == "runtime.NumGoroutine") = false := by kernel_rfl
theorem cf85 : cFunc Tryd.prog Tryd.f85 = some ir85 := by kernel_rfl
theorem co85 : ir85.body.ok glS ir85.ntmps = true := by kernel_rfl
theorem cn85 : (Tryd.f85.name == "runtime.NumGoroutine") = false := by kernel_rfl
theorem cf86 : cFunc Tryd.prog Tryd.f86 = some ir86 := by kernel_rfl
theorem co86 : ir86.body.ok glS ir86.ntmps = true := by kernel_rfl
theorem cn86 : (Tryd.f86.name == "runtime.NumGoroutine") = false := by kernel_rfl
theorem cf87 : cFunc Tryd.prog Tryd.f87 = some ir87 := by kernel_rfl
theorem co87 : ir87.body.ok glS ir87.ntmps = true := by kernel_rfl
theorem cn87 : (Tryd.f87.name == "runtime.NumGoroutine") = false := by kernel_rfl
theorem cf88 : cFunc Tryd.prog Tryd.f88 = some ir88 := by kernel_rfl
theorem co88 : ir88.body.ok glS ir88.ntmps = true := by kernel_rfl
theorem cn88 : (Tryd.f88.name == "runtime.NumGoroutine") = false := by kernel_rfl
theorem cf89 : cFunc Tryd.prog Tryd.f89 = some ir89 := by kernel_rfl
theorem co89 : ir89.body.ok glS ir89.ntmps = true := by kernel_rfl
theorem cn89 : (Tryd.f89.name == "runtime.NumGoroutine") = false := by kernel_rfl
theorem cf90 : cFunc Tryd.prog Tryd.f90 = some ir90 := by kernel_rfl
theorem co90 : ir90.body.ok glS ir90.ntmps = true := by kernel_rfl
theorem cn90 : (Tryd.f90.name == "runtime.NumGoroutine") = false := by kernel_rfl
theorem cf91 : cFunc Tryd.prog Tryd.f91 = some ir91 := by kernel_rfl
theorem co91 : ir91.body.ok glS ir91.ntmps = true := by kernel_rfl
theorem cn91 : (Tryd.f91.name == "runtime.NumGoroutine") = false := by kernel_rfl
theorem cf92 : cFunc Tryd.prog Tryd.f92 = some ir92 := by kernel_rfl
theorem co92 : ir92.body.ok glS ir92.ntmps = true := by kernel_rfl
theorem cn92 : (Tryd.f92.name == "runtime.NumGoroutine") = false := by kernel_rfl
theorem cf93 : cFunc Tryd.prog Tryd.f93 = some ir93 := by kernel_rfl
theorem co93 : ir93.body.ok glS ir93.ntmps = true := by kernel_rfl
theorem cn93 : (Tryd.f93.name == "runtime.NumGoroutine") = false := by kernel_rfl
theorem cf94 : cFunc Tryd.prog Tryd.f94 = some ir94 := by kernel_rfl
theorem co94 : ir94.body.ok glS ir94.ntmps = true := by kernel_rfl
theorem cn94 : (Tryd.f94.name == "runtime.NumGoroutine") = false := by kernel_rfl
theorem cf95 : cFunc Tryd.prog Tryd.f95 = some ir95 := by kernel_rfl
theorem co95 : ir95.body.ok glS ir95.ntmps = true := by kernel_rfl
theorem cn95 : (Tryd.f95.name == "runtime.NumGoroutine") = false := by kernel_rfl
theorem cf96 : cFunc Tryd.prog Tryd.f96 = some ir96 := by kernel_rfl
theorem co96 : ir96.body.ok glS ir96.ntmps = true := by kernel_rfl
theorem cn96 : (Tryd.f96.name == "runtime.NumGoroutine") = false := by kernel_rfl
theorem cf97 : cFunc Tryd.prog Tryd.f97 = some ir97 := by kernel_rfl
theorem co97 : ir97.body.ok glS ir97.ntmps = true := by kernel_rfl
theorem cn97 : (Tryd.f97.name == "runtime.NumGoroutine") = false := by kernel_rfl
theorem cf98 : cFunc Tryd.prog Tryd.f98 = some ir98 := by kernel_rfl
theorem co98 : ir98.body.ok glS ir98.ntmps = true := by kernel_rfl
theorem cn98 : (Tryd.f98.name == "runtime.NumGoroutine") = false := by kernel_rfl
theorem cf99 : cFunc Tryd.prog Tryd.f99 = some ir99 := by kernel_rfl
theorem co99 : ir99.body.ok glS ir99.ntmps = true := by kernel_rfl
theorem cn99 : (Tryd.f99.name == "runtime.NumGoroutine") = false := by kernel_rfl
theorem cf100 : cFunc Tryd.prog Tryd.f100 = some ir100 := by kernel_rfl
theorem co100 : ir100.body.ok glS ir100.ntmps = true := by kernel_rfl
theorem cn100 : (Tryd.f100.name == "runtime.NumGoroutine") = false := by kernel_rfl
theorem cf101 : cFunc Tryd.prog Tryd.f101 = some ir101 := by kernel_rfl
theorem co101 : ir101.body.ok glS ir101.ntmps = true := by kernel_rfl
theorem cn101 : (Tryd.f101.name == "runtime.NumGoroutine") = false := by kernel_rfl
theorem cf104 : cFunc Tryd.prog Tryd.f104 = some ir104 := by kernel_rfl
theorem co104 : ir104.body.ok glS ir104.ntmps = true := by kernel_rfl
theorem cn104 : (Tryd.f104.name == "runtime.NumGoroutine") = false := by kernel_rfl
theorem cf105 : cFunc Tryd.prog Tryd.f105 = some ir105 := by kernel_rfl
theorem co105 : ir105.body.ok glS ir105.ntmps = true := by kernel_rfl
theorem cn105 : (Tryd.f105.name == "runtime.NumGoroutine") = false := by kernel_rfl
theorem cf106 : cFunc Tryd.prog Tryd.f106 = some ir106 := by kernel_rfl
theorem co106 : ir106.body.ok glS ir106.ntmps = true := by kernel_rfl
theorem cn106 : (Tryd.f106.name == "runtime.NumGoroutine") = false := by kernel_rfl
theorem cf107 : cFunc Tryd.prog Tryd.f107 = some ir107 := by kernel_rfl
theorem co107 : ir107.body.ok glS ir107.ntmps = true := by kernel_rfl
theorem cn107 : (Tryd.f107.name == "runtime.NumGoroutine") = false := by kernel_rfl
theorem ok_FD : FOk glS Tryd.prog FD := by
 intro f fn h
 unfold FD at h
 split at h
 ·cases h; exact ⟨_, Tryd.func5, cn5, cf5, co5⟩
 ·cases h; exact ⟨_, Tryd.func13, cn13, cf13, co13⟩
 ·cases h; exact ⟨_, Tryd.func23, cn23, cf23, co23⟩
 ·cases h; exact ⟨_, Tryd.func24, cn24, cf24, co24⟩
 ·cases h; exact ⟨_, Tryd.func25, cn25, cf25, co25⟩
 ·cases h; exact ⟨_, Tryd.func26, cn26, cf26, co26⟩
 ·cases h; exact ⟨_, Tryd.func27, cn27, cf27, co27⟩
 ·cases h; exact ⟨_, Tryd.func28, cn28, cf28, co28⟩
 ·cases h; exact ⟨_, Tryd.func34, cn34, cf34, co34⟩
 ·cases h; exact ⟨_, Tryd.func35, cn35, cf35, co35⟩
 ·cases h; exact ⟨_, Tryd.func41, cn41, cf41, co41⟩
 ·cases h; exact ⟨_, Tryd.func42, cn42, cf42, co42⟩
 ·cases h; exact ⟨_, Tryd.func43, cn43, cf43, co43⟩
 ·cases h; exact ⟨_, Tryd.func44, cn44, cf44, co44⟩
 ·cases h; exact ⟨_, Tryd.func45, cn45, cf45, co45⟩
 ·cases h; exact ⟨_, Tryd.func46, cn46, cf46, co46⟩
 ·cases h; exact ⟨_, Tryd.func47, cn47, cf47, co47⟩
 ·cases h; exact ⟨_, Tryd.func48, cn48, cf48, co48⟩
 ·cases h; exact ⟨_, Tryd.func49, cn49, cf49, co49⟩
 ·cases h; exact ⟨_, Tryd.func50, cn50, cf50, co50⟩
 ·cases h; exact ⟨_, Tryd.func51, cn51, cf51, co51⟩
 ·cases h; exact ⟨_, Tryd.func52, cn52, cf52, co52⟩
 ·cases h; exact ⟨_, Tryd.func53, cn53, cf53, co53⟩
 ·cases h; exact ⟨_, Tryd.func54, cn54, cf54, co54⟩
 ·cases h; exact ⟨_, Tryd.func55, cn55, cf55, co55⟩
 ·cases h; exact ⟨_, Tryd.func56, cn56, cf56, co56⟩
 ·cases h; exact ⟨_, Tryd.func57, cn57, cf57, co57⟩
 ·cases h; exact ⟨_, Tryd.func58, cn58, cf58, co58⟩
 ·cases h; exact ⟨_, Tryd.func59, cn59, cf59, co59⟩
 ·cases h; exact ⟨_, Tryd.func63, cn63, cf63, co63⟩
 ·cases h; exact ⟨_, Tryd.func64, cn64, cf64, co64⟩
 ·cases h; exact ⟨_, Tryd.func65, cn65, cf65, co65⟩
 ·cases h; exact ⟨_, Tryd.func66, cn66, cf66, co66⟩
 ·cases h; exact ⟨_, Tryd.func67, cn67, cf67, co67⟩
 ·cases h; exact ⟨_, Tryd.func68, cn68, cf68, co68⟩
 ·cases h; exact ⟨_, Tryd.func69, cn69, cf69, co69⟩
 ·cases h; exact ⟨_, Tryd.func70, cn70, cf70, co70⟩
 ·cases h; exact ⟨_, Tryd.func71, cn71, cf71, co71⟩
 ·cases h; exact ⟨_, Tryd.func73, cn73, cf73, co73⟩
 ·cases h; exact ⟨_, Tryd.func74, cn74, cf74, co74⟩
 ·cases h; exact ⟨_, Tryd.func75, cn75, cf75, co75⟩
 ·cases h; exact ⟨_, Tryd.func76, cn76, cf76, co76⟩
 ·cases h; exact ⟨_, Tryd.func77, cn77, cf77, co77⟩
 ·cases h; exact ⟨_, Tryd.func78, cn78, cf78, co78⟩
 ·cases h; exact ⟨_, Tryd.func79, cn79, cf79, co79⟩
 ·cases h; exact ⟨_, Tryd.func80, cn80, cf80, co80⟩
 ·cases h; exact ⟨_, Tryd.func81, cn81, cf81, co81⟩
 ·cases h; exact ⟨_, Tryd.func82, cn82, cf82, co82⟩
 ·cases h; exact ⟨_, Tryd.func83, cn83, cf83, co83⟩
 ·cases h; exact ⟨_, Tryd.func84, cn84, cf84, co84⟩
 ·cases h; exact ⟨_, Tryd.func85, cn85, cf85, co85⟩
 ·cases h; exact ⟨_, Tryd.func86, cn86, cf86, co86⟩
 ·cases h; exact ⟨_, Tryd.func87, cn87, cf87, co87⟩
 ·cases h; exact ⟨_, Tryd.func88, cn88, cf88, co88⟩
 ·cases h; exact ⟨_, Tryd.func89, cn89, cf89, co89⟩
 ·cases h; exact ⟨_, Tryd.func90, cn90, cf90, co90⟩
 ·cases h; exact ⟨_, Tryd.func91, cn91, cf91, co91⟩
 ·cases h; exact ⟨_, Tryd.func92, cn92, cf92, co92⟩
 ·cases h; exact ⟨_, Tryd.func93, cn93, cf93, co93⟩
 ·cases h; exact ⟨_, Tryd.func94, cn94, cf94, co94⟩
 ·cases h; exact ⟨_, Tryd.func95, cn95, cf95, co95⟩
 ·cases h; exact ⟨_, Tryd.func96, cn96, cf96, co96⟩
 ·cases h; exact ⟨_, Tryd.func97, cn97, cf97, co97⟩
 ·cases h; exact ⟨_, Tryd.func98, cn98, cf98, co98⟩
 ·cases h; exact ⟨_, Tryd.func99, cn99, cf99, co99⟩
 ·cases h; exact ⟨_, Tryd.func100, cn100, cf100, co100⟩
 ·cases h; exact ⟨_, Tryd.func101, cn101, cf101, co101⟩
 ·cases h; exact ⟨_, Tryd.func104, cn104, cf104, co104⟩
 ·cases h; exact ⟨_, Tryd.func105, cn105, cf105, co105⟩
 ·cases h; exact ⟨_, Tryd.func106, cn106, cf106, co106⟩
 ·cases h; exact ⟨_, Tryd.func107, cn107, cf107, co107⟩
 ·cases h
theorem cf8 : cFunc Tryd.prog Tryd.f8 = some ir8 := by kernel_rfl
theorem co8 : ir8.body.ok glS ir8.ntmps = true := by kernel_rfl
theorem cn8 : (Tryd.f8.name == "runtime.NumGoroutine") = false := by kernel_rfl
theorem cf9 : cFunc Tryd.prog Tryd.f9 = some ir9 := by kernel_rfl
theorem co9 : ir9.body.ok glS ir9.ntmps = true := by kernel_rfl
theorem cn9 : (Tryd.f9.name == "runtime.NumGoroutine") = false := by kernel_rfl
theorem cf15 : cFunc Tryd.prog Tryd.f15 = some ir15 := by kernel_rfl
theorem co15 : ir15.body.ok glS ir15.ntmps = true := by kernel_rfl
theorem cn15 : (Tryd.f15.name == "runtime.NumGoroutine") = false := by kernel_rfl
theorem cf17 : cFunc Tryd.prog Tryd.f17 = some ir17 := by kernel_rfl
theorem co17 : ir17.body.ok glS ir17.ntmps = true := by kernel_rfl
theorem cn17 : (Tryd.f17.name == "runtime.NumGoroutine") = false := by kernel_rfl
theorem cf30 : cFunc Tryd.prog Tryd.f30 = some ir30 := by kernel_rfl
theorem co30 : ir30.body.ok glS ir30.ntmps = true := by kernel_rfl
theorem cn30 : (Tryd.f30.name == "runtime.NumGoroutine") = false := by kernel_rfl
theorem cf31 : cFunc Tryd.prog Tryd.f31 = some ir31 := by kernel_rfl
theorem co31 : ir31.body.ok glS ir31.ntmps = true := by kernel_rfl
theorem cn31 : (Tryd.f31.name == "runtime.NumGoroutine") = false := by kernel_rfl
theorem cf32 : cFunc Tryd.prog Tryd.f32 = some ir32 := by kernel_rfl
theorem co32 : ir32.body.ok glS ir32.ntmps = true := by kernel_rfl
theorem cn32 : (Tryd.f32.name == "runtime.NumGoroutine") = false := by kernel_rfl
theorem cf36 : cFunc Tryd.prog Tryd.f36 = some ir36 := by kernel_rfl
theorem co36 : ir36.body.ok glS ir36.ntmps = true := by kernel_rfl
theorem cn36 : (Tryd.f36.name == "runtime.NumGoroutine") = false := by kernel_rfl
theorem cf60 : cFunc Tryd.prog Tryd.f60 = some ir60 := by kernel_rfl
theorem co60 : ir60.body.ok glS ir60.ntmps = true := by kernel_rfl
theorem cn60 : (Tryd.f60.name == "runtime.NumGoroutine") = false := by kernel_rfl
theorem cf61 : cFunc Tryd.prog Tryd.f61 = some ir61 := by kernel_rfl
theorem co61 : ir61.body.ok glS ir61.ntmps = true := by kernel_rfl
theorem cn61 : (Tryd.f61.name == "runtime.NumGoroutine") = false := by kernel_rfl
theorem cf72 : cFunc Tryd.prog Tryd.f72 = some ir72 := by kernel_rfl
theorem co72 : ir72.body.ok glS ir72.ntmps = true := by kernel_rfl
theorem cn72 : (Tryd.f72.name == "runtime.NumGoroutine") = false := by kernel_rfl
theorem cf102 : cFunc Tryd.prog Tryd.f102 = some ir102 := by kernel_rfl
theorem co102 : ir102.body.ok glS ir102.ntmps = true := by kernel_rfl
theorem cn102 : (Tryd.f102.name == "runtime.NumGoroutine") = false := by kernel_rfl
def FA : FuncId → Option IFunc
 | 8 => some ir8
 | 9 => some ir9
 | 13 => some ir13
 | 15 => some ir15
 | 17 => some ir17
 | 30 => some ir30
 | 31 => some ir31
 | 32 => some ir32
 | 36 => some ir36
 | 41 => some ir41
 | 60 => some ir60
 | 61 => some ir61
 | 63 => some ir63
 | 65 => some ir65
 | 66 => some ir66
 | 72 => some ir72
 | 73 => some ir73
 | 74 => some ir74
 | 75 => some ir75
 | 76 => some ir76
 | 77 => some ir77
 | 78 => some ir78
 | 79 => some ir79
 | 80 => some ir80
 | 86 => some ir86
 | 87 => some ir87
 | 88 => some ir88
 | 89 => some ir89
 | 90 => some ir90
 | 91 => some ir91
 | 92 => some ir92
 | 93 => some ir93
 | 94 => some ir94
 | 95 => some ir95
 | 100 => some ir100
 | 101 => some ir101
 | 102 => some ir102
 | 104 => some ir104
 | 107 => some ir107
 | _ => none
theorem ok_FA : FOk glS Tryd.prog FA := by
 intro f fn h
 unfold FA at h
 split at h
 ·cases h; exact ⟨_, Tryd.func8, cn8, cf8, co8⟩
 ·cases h; exact ⟨_, Tryd.func9, cn9, cf9, co9⟩
 ·cases h; exact ⟨_, Tryd.func13, cn13, cf13, co13⟩
 ·cases h; exact ⟨_, Tryd.func15, cn15, cf15, co15⟩
 ·cases h; exact ⟨_, Tryd.func17, cn17, cf17, co17⟩
 ·cases h; exact ⟨_, Tryd.func30, cn30, cf30, co30⟩
 ·cases h; exact ⟨_, Tryd.func31, cn31, cf31, co31⟩
 ·cases h; exact ⟨_, Tryd.func32, cn32, cf32, co32⟩
 ·cases h; exact ⟨_, Tryd.func36, cn36, cf36, co36⟩
 ·cases h; exact ⟨_, Tryd.func41, cn41, cf41, co41⟩
 ·cases h; exact ⟨_, Tryd.func60, cn60, cf60, co60⟩
 ·cases h; exact ⟨_, Tryd.func61, cn61, cf61, co61⟩
 ·cases h; exact ⟨_, Tryd.func63, cn63, cf63, co63⟩
 ·cases h; exact ⟨_, Tryd.func65, cn65, cf65, co65⟩
 ·cases h; exact ⟨_, Tryd.func66, cn66, cf66, co66⟩
 ·cases h; exact ⟨_, Tryd.func72, cn72, cf72, co72⟩
 ·cases h; exact ⟨_, Tryd.func73, cn73, cf73, co73⟩
 ·cases h; exact ⟨_, Tryd.func74, cn74, cf74, co74⟩
 ·cases h; exact ⟨_, Tryd.func75, cn75, cf75, co75⟩
 ·cases h; exact ⟨_, Tryd.func76, cn76, cf76, co76⟩
 ·cases h; exact ⟨_, Tryd.func77, cn77, cf77, co77⟩
 ·cases h; exact ⟨_, Tryd.func78, cn78, cf78, co78⟩
 ·cases h; exact ⟨_, Tryd.func79, cn79, cf79, co79⟩
 ·cases h; exact ⟨_, Tryd.func80, cn80, cf80, co80⟩
 ·cases h; exact ⟨_, Tryd.func86, cn86, cf86, co86⟩
 ·cases h; exact ⟨_, Tryd.func87, cn87, cf87, co87⟩
 ·cases h; exact ⟨_, Tryd.func88, cn88, cf88, co88⟩
 ·cases h; exact ⟨_, Tryd.func89, cn89, cf89, co89⟩
 ·cases h; exact ⟨_, Tryd.func90, cn90, cf90, co90⟩
 ·cases h; exact ⟨_, Tryd.func91, cn91, cf91, co91⟩
 ·cases h; exact ⟨_, Tryd.func92, cn92, cf92, co92⟩
 ·cases h; exact ⟨_, Tryd.func93, cn93, cf93, co93⟩
 ·cases h; exact ⟨_, Tryd.func94, cn94, cf94, co94⟩
 ·cases h; exact ⟨_, Tryd.func95, cn95, cf95, co95⟩
 ·cases h; exact ⟨_, Tryd.func100, cn100, cf100, co100⟩
 ·cases h; exact ⟨_, Tryd.func101, cn101, cf101, co101⟩
 ·cases h; exact ⟨_, Tryd.func102, cn102, cf102, co102⟩
 ·cases h; exact ⟨_, Tryd.func104, cn104, cf104, co104⟩
 ·cases h; exact ⟨_, Tryd.func107, cn107, cf107, co107⟩
 ·cases h
theorem awake_run : saysTrue (den FA XO XO 300 (.func (.func 8) #[] #[]) [] (heapW glN [])) = true := by kernel_rfl
theorem eok : EOk glS Tryd.prog XA :=
 eok_awake glS_of Tryd.func8 cn8 (by kernel_rfl) fun hg => awake_calls (N := glN) (FA := FA) (n := 300) follows ok_FA glS_z Tryd.func8 cn8 (by kernel_rfl) awake_run hg
theorem xok : XOk glS Tryd.prog XN := by
 intro f g hf args H out H' σ w cargs hg hr hgl ha
 unfold XN at hf
 split at hf
 case isFalse => cases hf
 rename_i hf1
 subst hf1
 cases hf
 unfold xCount at hg
 split at hg
 case h_2 => cases hg
 rename_i s c
 cases hg
 obtain ⟨x, y, hc, h1, h2⟩ : ∃ x y, cargs.toList = [x, y] ∧ VR σ (.string s) x ∧ VR σ (.int .u8 c) y := by
  generalize cargs.toList = l at ha
  cases ha with
  | cons h1 ht => cases ht with
   | cons h2 ht => cases ht; exact ⟨_, _, rfl, h1, h2⟩
 have hx : x = .string s := by cases h1; rfl
 have hy : y = .int .u8 c := by cases h2; rfl
 subst hx hy
 have hca : cargs = #[.string s, .int .u8 c] := by rw [← Array.toList_inj, hc]
 subst hca
 refine ⟨.int .i64 (Lib.countByte s.data.toList c.toNat.toUInt8), w, ?_, ?_⟩
 ·rw [run_callFunc_extern Tryd.func110 (by kernel_rfl) (by kernel_rfl) (by kernel_rfl) (e := Extern.BytealgCount.count) (by kernel_rfl), Lib.run_countString]
  rfl
 ·exact ⟨_, σ, rfl, .int .., hr, .refl ..⟩
theorem extK_n : ExtK XN := by
 intro f g hf args H out H' hg
 unfold XN at hf
 split at hf
 case isFalse => cases hf
 cases hf
 unfold xCount at hg
 split at hg
 case h_2 => cases hg
 cases hg
 exact .refl _
#print axioms eok
end Go.Den
/- The seat: what its rows have in common. -/
namespace Go.Proofs.YtlcgnmdlggfelaaDoor
open Go Go.Den Go.ChangeShapes Go.WideShapes Go.RowKit
theorem own : ownKnob Tryd.prog.godebug = none := by kernel_rfl
theorem laidOut : laidOutB Tryd.prog = true := by kernel_rfl
theorem gSpace : Tryd.prog.globalNamed "strings.asciiSpace" = some glSpace := by kernel_rfl
theorem gSpaceT : (Tryd.prog.globals[glSpace]?).map (·.type) = some 145 := by kernel_rfl
theorem gBru : Tryd.prog.globalNamed "math/bits.deBruijn64tab" = some glBru := by kernel_rfl
theorem gBruT : (Tryd.prog.globals[glBru]?).map (·.type) = some 126 := by kernel_rfl
theorem u145 : Tryd.prog.underlying 145 = some (.array 256 5) := by kernel_rfl
theorem u126 : Tryd.prog.underlying 126 = some (.array 64 5) := by kernel_rfl
theorem u5 : Tryd.prog.underlying 5 = some (.int .u8) := by kernel_rfl
theorem c5 : Tryd.prog.cellsOf 5 = 1 := by kernel_rfl
theorem c145 : Tryd.prog.cellsOf 145 = 256 := by kernel_rfl
theorem c126 : Tryd.prog.cellsOf 126 = 64 := by kernel_rfl
theorem spaceLaid : (Rows.laid_strings_asciiSpace : DataW Unit) = .agg (spaceCells.map litOf) := by kernel_rfl
theorem bruLaid : (Rows.laid_math_bits_deBruijn64tab : DataW Unit) = .agg (bruCells.map litOf) := by kernel_rfl
def laid : List (String × DataW Unit) := [("math/bits.deBruijn64tab", Rows.laid_math_bits_deBruijn64tab), ("unicode.White_Space", Rows.laid_unicode_White_Space), ("strings.asciiSpace", Rows.laid_strings_asciiSpace)]
theorem laid_at {W : World} (h : laidMetH Tryd.prog laid W) : LaidAt W.heap := by
 have h' : laidMet Tryd.prog laid W := h
 exact ⟨tabWorld h' (by rw [← bruLaid]; simp [laid]) gBru gBruT u126 u5 c5 c126 (by kernel_rfl) (by kernel_rfl),
  tabWorld h' (by rw [← spaceLaid]; simp [laid]) gSpace gSpaceT u145 u5 c5 c145 (by kernel_rfl) (by kernel_rfl)⟩
noncomputable def laidWorld (os : Os) : World :=
 let N := (World.settled Tryd.prog os).heap.size
 let w0 := World.holding Tryd.prog os ⟨#[.cells ([9, 13, 1, 32, 133, 101, 160, 5760, 5600, 8192, 8202, 1, 8232, 8233, 1, 8239, 8287, 48, 12288, 12288, 1].map fun z => Value.int .u16 z).toArray 164, .cells #[.slice (some ⟨N, 0, none⟩) 7 7, .slice none 0 0, .int .i64 2] 161], #[], []⟩
 let put (h : Array Obj) (g : Nat) (cs : Array Value) : Array Obj := h.modify g fun
  | .cells _ t frozen => .cells cs t frozen
  | o => o
 { w0 with heap := put (put (put w0.heap glBru bruCells.toArray) glSpace spaceCells.toArray) 2 #[.pointer (some ⟨N + 1, 0, none⟩)] }
theorem laidWorld_met (os : Os) (args : Array Value) : laidMet Tryd.prog laid ((laidWorld os).forCall (fun _ _ => 0) ⟨#[], args, []⟩).memory :=
 laidMet_of_run' 10 (by kernel_rfl) (by kernel_rfl)
end Go.Proofs.YtlcgnmdlggfelaaDoor
/- The seat: flow code as an argument. -/
namespace Go.Proofs.YtlcgnmdlggfelaaDoor
open Go Go.Den Go.ChangeShapes Go.WideShapes Go.RowKit
theorem u3 : Tryd.prog.underlying 3 = some (.int .i64) := by kernel_rfl
theorem u4 : Tryd.prog.underlying 4 = some .bool := by kernel_rfl
theorem u9 : Tryd.prog.underlying 9 = some .string := by kernel_rfl
theorem u24 : Tryd.prog.underlying 24 = some (.slice 3) := by kernel_rfl
theorem u51 : Tryd.prog.underlying 51 = some (.slice 65) := by kernel_rfl
theorem u63 : Tryd.prog.underlying 63 = some (.slice 62) := by kernel_rfl
def fld (n : String) (t o b : Nat) : Field := { name := n, type := t, offset := o, embedded := false, tag := "", pkgPath := "", byteOffset := b }
def codeFields : Array Field := #[fld "Globals" 3 0 0, fld "Bodies" 51 1 8]
def bodyFields : Array Field := #[fld "Name" 9 0 0, fld "Registers" 3 1 16, fld "Arguments" 3 2 24, fld "Code" 63 3 32]
def insFields : Array Field := #[fld "Op" 3 0 0, fld "A" 3 1 8, fld "B" 3 2 16, fld "C" 3 3 24, fld "D" 3 4 32, fld "Text" 9 5 40, fld "List" 24 6 56]
theorem u53 : Tryd.prog.underlying 53 = some (.struct codeFields) := by kernel_rfl
theorem u65 : Tryd.prog.underlying 65 = some (.struct bodyFields) := by kernel_rfl
theorem u62 : Tryd.prog.underlying 62 = some (.struct insFields) := by kernel_rfl
theorem plain53 : plainT Tryd.prog 8 53 = true := by kernel_rfl
theorem plain3 : plainT Tryd.prog 2 3 = true := by kernel_rfl
theorem shp_str {pvs : List PV} (h : Shp Tryd.prog 9 pvs) : ∃ l : List UInt8, pvs = [pstr l] ∧ l.length ≤ reachBytes := by
 obtain ⟨s, rfl, hs⟩ := h.string_inv u9
 refine ⟨s.data.toList, ?_, ?_⟩
 ·simp [bstr]
 ·exact hs
theorem shp_intsL {pvs : List PV} (h : Shp Tryd.prog 24 pvs) : ∃ l : List Int, pvs = [ints 3 l] ∧ l.length ≤ reachBytes := by
 obtain ⟨pss, rfl, hl, h2⟩ := h.slice_inv u24
 obtain ⟨l, rfl⟩ := map_of (g := fun n : Int => [pin n]) fun i hi => by
  obtain ⟨n, hn, _⟩ := (h2 i hi).int_inv u3
  exact ⟨n, hn⟩
 exact ⟨l, by rw [flatten_single]; simp [ints], by simpa using hl⟩
def GoodI (i : FIns) : Prop := i.list.length ≤ reachBytes ∧ i.text.length ≤ reachBytes
theorem shp_ins {pvs : List PV} (h : Shp Tryd.prog 62 pvs) : ∃ i : FIns, pvs = encI i ∧ GoodI i := by
 obtain ⟨pss, rfl, hl, hi⟩ := h.struct_inv u62
 have hl7 : pss.length = 7 := hl
 obtain ⟨p0, p1, p2, p3, p4, p5, p6, rfl⟩ : ∃ p0 p1 p2 p3 p4 p5 p6, pss = [p0, p1, p2, p3, p4, p5, p6] := by
  match pss, hl7 with
  | [p0, p1, p2, p3, p4, p5, p6], _ => exact ⟨p0, p1, p2, p3, p4, p5, p6, rfl⟩
 obtain ⟨a0, h0, _⟩ := (hi 0 (by simp) (by decide)).int_inv u3
 obtain ⟨a1, h1, _⟩ := (hi 1 (by simp) (by decide)).int_inv u3
 obtain ⟨a2, h2, _⟩ := (hi 2 (by simp) (by decide)).int_inv u3
 obtain ⟨a3, h3, _⟩ := (hi 3 (by simp) (by decide)).int_inv u3
 obtain ⟨a4, h4, _⟩ := (hi 4 (by simp) (by decide)).int_inv u3
 obtain ⟨s, h5, g5⟩ := shp_str (hi 5 (by simp) (by decide))
 obtain ⟨l, h6, g6⟩ := shp_intsL (hi 6 (by simp) (by decide))
 simp only [List.getElem_cons_zero, List.getElem_cons_succ] at h0 h1 h2 h3 h4 h5 h6
 subst h0 h1 h2 h3 h4 h5 h6
 exact ⟨⟨a0, a1, a2, a3, a4, s, l⟩, rfl, g6, g5⟩
def GoodB (b : FBody) : Prop := b.code.length ≤ reachBytes ∧ b.name.length ≤ reachBytes ∧ ∀ i ∈ b.code, GoodI i
theorem shp_body {pvs : List PV} (h : Shp Tryd.prog 65 pvs) : ∃ b : FBody, pvs = encBo b ∧ GoodB b := by
 obtain ⟨pss, rfl, hl, hi⟩ := h.struct_inv u65
 have hl4 : pss.length = 4 := hl
 obtain ⟨p0, p1, p2, p3, rfl⟩ : ∃ p0 p1 p2 p3, pss = [p0, p1, p2, p3] := by
  match pss, hl4 with
  | [p0, p1, p2, p3], _ => exact ⟨p0, p1, p2, p3, rfl⟩
 obtain ⟨s, h0, g0⟩ := shp_str (hi 0 (by simp) (by decide))
 obtain ⟨a1, h1, _⟩ := (hi 1 (by simp) (by decide)).int_inv u3
 obtain ⟨a2, h2, _⟩ := (hi 2 (by simp) (by decide)).int_inv u3
 obtain ⟨qss, h3, g3, k3⟩ := (hi 3 (by simp) (by decide)).slice_inv u63
 obtain ⟨l, rfl⟩ := map_of (g := fun x : {i : FIns // GoodI i} => encI x.1) fun i hi => by
  obtain ⟨x, hx, gx⟩ := shp_ins (k3 i hi)
  exact ⟨⟨x, gx⟩, hx⟩
 simp only [List.getElem_cons_zero, List.getElem_cons_succ] at h0 h1 h2 h3
 subst h0 h1 h2 h3
 refine ⟨⟨s, a1, a2, l.map (·.1)⟩, ?_, ?_, g0, fun i hi => ?_⟩
 ·simp [encBo, recs, List.flatMap_def]
 ·simpa using g3
 ·obtain ⟨x, _, rfl⟩ := List.mem_map.1 hi
  exact x.2
theorem shp_code {pvs : List PV} (h : Shp Tryd.prog 53 pvs) : ∃ c : FCode, pvs = encC c ∧ ∀ b ∈ c.bodies, GoodB b := by
 obtain ⟨pss, rfl, hl, hi⟩ := h.struct_inv u53
 have hl2 : pss.length = 2 := hl
 obtain ⟨p0, p1, rfl⟩ : ∃ p0 p1, pss = [p0, p1] := by
  match pss, hl2 with
  | [p0, p1], _ => exact ⟨p0, p1, rfl⟩
 obtain ⟨a0, h0, _⟩ := (hi 0 (by simp) (by decide)).int_inv u3
 obtain ⟨qss, h1, g1, k1⟩ := (hi 1 (by simp) (by decide)).slice_inv u51
 obtain ⟨l, rfl⟩ := map_of (g := fun x : {b : FBody // GoodB b} => encBo x.1) fun i hi => by
  obtain ⟨x, hx, gx⟩ := shp_body (k1 i hi)
  exact ⟨⟨x, gx⟩, hx⟩
 simp only [List.getElem_cons_zero, List.getElem_cons_succ] at h0 h1
 subst h0 h1
 refine ⟨⟨a0, l.map (·.1)⟩, ?_, fun b hb => ?_⟩
 ·simp [encC, recs, List.flatMap_def]
 ·obtain ⟨x, _, rfl⟩ := List.mem_map.1 hb
  exact x.2
theorem holds_good {c : FCode} (h : ∀ b ∈ c.bodies, GoodB b) : Holds c := by
 intro b hb
 obtain ⟨h1, h2, h3⟩ := h b hb
 have hm : reachBytes ≤ 4611686018427387904 := by decide
 exact ⟨by unfold big; omega, by unfold big; omega, fun i hi => ⟨by have := (h3 i hi).1; unfold big; omega, by have := (h3 i hi).2; unfold big; omega⟩⟩
theorem rd_agg {ws : List Win} {v : Value} {pvs : List PV} (h : RdL ws pvs v.cells.toList) (hl : pvs.length ≠ 1) : RdV ws (.agg pvs) v := by
 have hlen := h.length
 cases v with
 | agg cs => exact .agg (by simpa [Value.cells] using hlen) fun i h1 h2 => by have := F2.idx h i h1 (by simpa [Value.cells] using h2); simpa [Value.cells] using this
 | _ => exact absurd (by simpa [Value.cells] using hlen) hl
end Go.Proofs.YtlcgnmdlggfelaaDoor
/- FlowValues: the card. -/
namespace Go.Proofs.YtlcgnmdlggfelaaDoor
open Go Go.Den Go.ChangeShapes Go.WideShapes Go.RowKit
set_option maxRecDepth 100000 in
theorem flowValues_lifted (os : Os) (started : os.Started) (H : Type) (enc : TypeId × Value → H) :
  ReturnsInHanded {} Tryd.checked os 5 .any (fun w args => (Rows.flowValuesSpec.pre enc Tryd.prog Tryd.f5 [] false w args ∧ laidMetH Tryd.prog laid w) ∧ sizedMet enc Tryd.prog Tryd.f5 (OpenSpec.ofChange Rows.flowValuesSpec) false w args)
   (Rows.flowValuesSpec.post enc Tryd.prog Tryd.f5 false true false false) := by
 refine returnsInHanded_of_change_and (C := Tryd.checked) (X := fun w _ => laidMetH Tryd.prog laid w) (fun _ _ _ hh h => h.of_heap hh) own started (by kernel_rfl) Tryd.func5
  (ChangeSpec.witness_shaped (enc := enc) (C := Tryd.checked) (os := os) (X := fun w _ => laidMetH Tryd.prog laid w) false (laidWorld os) #[.agg #[.int .i64 0, .slice none 0 0], .int .i64 0] 8 rfl (World.shaped_of_RefB (by kernel_rfl) (by kernel_rfl)) (by kernel_rfl) (by kernel_rfl) (by kernel_rfl) (laidWorld_met os _)) ?_
 intro W base args ds gs before hval hW _ hwt hL _
 have hLd := laid_at hL
 have hW' := hW
 obtain ⟨p, q, hA0, hV, _, _, _⟩ := hW
 have e5 : Tryd.f5.params.toList = [53, 3] := by rw [Tryd.params5]
 have hA : DataW.TrodAll enc Tryd.prog W 0 (fun _ => true) true [53, 3] args.toList ds p := by rw [← e5]; exact hA0
 obtain ⟨v, v', d, d', p1, p2, rfl, rfl, rfl, ⟨fuel, hd⟩, ⟨fuel', hd'⟩⟩ := trodAll_two hA
 have hwt' : ∀ n ∈ DataW.weightsEach Tryd.prog (Tryd.f5.params.toList ++ Rows.flowValuesSpec.plain.varTypes Tryd.prog) ([d, d'] ++ gs), n ≤ reachBytes := fun n hn => by
  have := List.all_eq_true.1 hwt n hn
  simpa using this
 rw [e5] at hwt'
 obtain ⟨ws, pvs, g1, g2, g3, _⟩ := got_of_trod (BytesAt.laid hLd) 8 plain53 (fun n hn => hwt' n (DataW.weights_mem_each (j := 0) (t := 53) (d := d) rfl rfl n hn)) hd
 obtain ⟨ws', pvs', g1', g2', g3', _⟩ := got_of_trod (BytesAt.laid hLd) 2 plain3 (fun n hn => hwt' n (DataW.weights_mem_each (j := 1) (t := 3) (d := d') rfl rfl n hn)) hd'
 obtain ⟨c, rfl, hgood⟩ := shp_code g3
 obtain ⟨n, rfl, _⟩ := g3'.int_inv u3
 have hv := rd_agg g1 (by simp)
 have hv' : v'.cells.toList = [v'] := by
  cases v' with
  | agg cs =>
   have h0 : Value.okWide Tryd.prog W .any base 3 (.agg cs) := hval 1 3 _ (by rw [Tryd.params5]; rfl) rfl
   simp [Value.okWide, Cell.okWide, Cell.ok] at h0
  | _ => rfl
 rw [hv'] at g1'
 have hws : ∀ w ∈ ws ++ ws', WinOk Tryd.prog W.heap (ws ++ ws') w := fun w hw => by
  rcases List.mem_append.1 hw with hw | hw
  ·exact (g2 w hw).mono fun x hx => List.mem_append_left _ hx
  ·exact (g2' w hw).mono fun x hx => List.mem_append_right _ hx
 refine (cls_calls (gl := glS) follows ok_FD eok xok extK_awake extK_n glS_z Tryd.func5 cn5 (by kernel_rfl) (flowValues_ok (c := c) (body := n) (holds_good hgood)) (GlOk.laid hLd) hws (args := #[v, v'])
  (.cons (hv.mono fun x hx => List.mem_append_left _ hx) (g1'.mono fun x hx => List.mem_append_right _ hx))).mono fun e w' he => ?_
 obtain ⟨r, rfl, ⟨ρ, ζ, σ, d2, hvp, hvr⟩, hst⟩ := he
 obtain ⟨rfl, _⟩ := hvp.v_inv
 cases hvr
 exact ⟨_, rfl, post_law rfl (by kernel_rfl) u4 laidOut (fun t ht => by
  rw [e5] at ht
  simp only [List.mem_cons, List.not_mem_nil, or_false] at ht
  rcases ht with rfl | rfl
  ·exact ⟨by kernel_rfl, of_decide_eq_true (by kernel_rfl)⟩
  ·exact ⟨by kernel_rfl, of_decide_eq_true (by kernel_rfl)⟩) (fun ds hd => by
  match ds, hd with
  | [d, d'], _ => rfl) hW' hst⟩
theorem flowValues_holds : Rows.FlowValuesSaid :=
 OpenClaim.holds_of_wide 5 Tryd.f5 rfl rfl rfl rfl rfl rfl rfl ⟨rfl, rfl, rfl, rfl, rfl⟩ rfl rfl rfl rfl rfl (by kernel_rfl) Tryd.func5 (by kernel_rfl)
  (of_decide_eq_true (by kernel_rfl)) (by unfold Func.isWrapper; rw [if_neg (of_decide_eq_false (by kernel_rfl))]; exact ⟨rfl, rfl⟩)
  (fun os started H enc _ => flowValues_lifted os started H enc)
theorem flowValues_card : Rows.FlowValuesCardSaid :=
 Claim7.holds_tied_plain_at .later [] [.data, .listed, .data] true (true, "7d213b5ec0c8da5a3bed999b6c06f129f3a4ff7488c2557ca8af4dd083725410") false
  flowValues_holds (fun _ h => by cases h) (by kernel_rfl) (fun _ h => by cases h) flowValues_row_tie rfl ⟨rfl, rfl⟩ (by kernel_rfl) rfl
  (fun f fn hf hfn => by
   obtain rfl : f = 5 := Option.some.inj ((show Tryd.prog.funcNamed "raddle/raddlelaw23.FlowValues" = some 5 by kernel_rfl).symm.trans hf) |>.symm
   obtain rfl : fn = Tryd.f5 := (Option.some.inj (Tryd.func5.symm.trans hfn)).symm
   exact ⟨by kernel_rfl, fun j t ht => by
    rw [Tryd.params5] at ht
    have h3 : t = 53 ∨ t = 3 := by
     rcases j with _ | _ | j
     ·left; simpa using ht.symm
     ·right; simpa using ht.symm
     ·simp at ht
    rcases h3 with rfl | rfl
    ·exact (show Tryd.prog.wantsStandIn 53 = false by kernel_rfl)
    ·exact (show Tryd.prog.wantsStandIn 3 = false by kernel_rfl)⟩)
  (by kernel_rfl)
#print axioms flowValues_card
end Go.Proofs.YtlcgnmdlggfelaaDoor
