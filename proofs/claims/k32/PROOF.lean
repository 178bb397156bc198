import PyProof.Rows.All
import Wide.All
import OpenK.AllK
import Wide.FinOn
import HandS.ForMost
import HandS.ForExc
import HandS.Defaults
import HandS.Property
import HandS.ClsMeth
import HandS.IsInst
import HandS.Head0
import HandS.Head1
import HandS.Head2
import HandS.HeadEnd
import HandS.HeadHook1
import HandS.HeadHook2
import HandS.HeadHook3
import HandS.HeadNt
import HandS.Wide
import HandS.Flt
import HandS.Flow
import HandS.MakeKwOnly
import HandS.Star
import HandS.Zip
import HandS.Conv
import HandS.Style
import HandS.SlotsOwn
import HandS.NoneIn
import HandS.More
import KE.GoesMore
import KE.GoesZip
import KE.GoesEnum
import PyProof.Draws
import HandS.Walk
import PyProof.ListRange
import PyProof.LongRange
import HandS.GenOver
import PyProof.GenQ
import HandS.GenList
import HandS.ForList
import HandS.Call
import HandS.RaiseMore
import PyProof.ReprRoads
import HandS.FStrTup
import PyProof.FitsInt
import HandS.Iter
import HandS.Comp
import PySem.Challenge.RW_timerwheels_k32_whole_journeys
set_option Elab.async false
set_option linter.all false
set_option maxRecDepth 100000
set_option maxHeartbeats 4000000
/-! Tw: a Hook of our own: facts by names, facts by Bools, defs at any address, tables with text keys -/
namespace Tw
open PySem PySem.Spec PyProof.Rows L2 He PySem.W

/-! ### addresses -/
/-- the getter of a property -/
def pa (K : Frag) (C : Addr) (f : PySem.Str) : Addr := match recIn K (ma K C f) "property" with
  | some (.ref g :: _) => g
  | _ => 0
/-- an item of a written dict -/
def dva (K : Frag) (d : Addr) (x : PySem.Str) : Addr := match nsIn K d x with
  | some (some (.ref a)) => a
  | _ => 0
/-! ### facts by Bools -/
def bProp (x f : PySem.Str) (K : Frag) : Bool := eqO (findIn K (.ref (ga K x)) f) (some (some (.ref (ma K (ga K x) f)))) &&
  (eqO (specialIn K (.ref (ma K (ga K x) f)) "__get__") (some (some (.builtin "property.__get__"))) && (decide (takesIn K (.ref (ma K (ga K x) f)) = some true) &&
    (match recIn K (ma K (ga K x) f) "property" with
      | some (.ref _ :: _) => true
      | _ => false)))
theorem prop_ok {K : Frag} {x f : PySem.Str} (h : bProp x f K = true) : PropOf K (ga K x) f (ma K (ga K x) f) (pa K (ga K x) f) := by
  obtain ⟨h1, h⟩ := ba h
  obtain ⟨h2, h⟩ := ba h
  obtain ⟨h3, h4⟩ := ba h
  refine ⟨eqO_ok h1, eqO_ok h2, of_decide_eq_true h3, ?_⟩
  unfold pa
  split at h4
  · rename_i g r e
    exact ⟨r, by rw [e]⟩
  · cases h4
def bFn (p : Frag → Addr) (K : Frag) : Bool := isFn K (.ref (p K)) && fnIn K (p K)
/-- what isinstance asks of a class -/
def bIsi (x : PySem.Str) (K : Frag) : Bool := eqO (findIn K (.ref (ga K x)) "__class__") (some (some (.builtin "object.__class__"))) &&
  (eqO (specialIn K (.builtin "object.__class__") "__get__") (some (some (.builtin "getset_descriptor.__get__"))) && (decide (takesIn K (.builtin "object.__class__") = some true) && decide (mroIn K (ga K x) (.type "object") = some true)))
structure IsiC (K : Frag) (C : Addr) : Prop where
  ca : findIn K (.ref C) "__class__" = some (some (.builtin "object.__class__"))
  cn : specialIn K (.builtin "object.__class__") "__get__" = some (some (.builtin "getset_descriptor.__get__"))
  ct : takesIn K (.builtin "object.__class__") = some true
  cm : mroIn K C (.type "object") = some true
theorem isi_ok {K : Frag} {x : PySem.Str} (h : bIsi x K = true) : IsiC K (ga K x) := by
  obtain ⟨h1, h⟩ := ba h
  obtain ⟨h2, h⟩ := ba h
  obtain ⟨h3, h4⟩ := ba h
  exact ⟨eqO_ok h1, eqO_ok h2, of_decide_eq_true h3, of_decide_eq_true h4⟩
/-- isinstance(an instance of x, y): what it answers -/
def bKit (t c : Frag → Value) (b : Bool) (K : Frag) : Bool := decide (kitOne K (t K) (c K) = some b)
theorem kit_ok {t c : Frag → Value} {b : Bool} {K : Frag} (h : bKit t c b K = true) : kitOne K (t K) (c K) = some b := of_decide_eq_true h
/-- a classmethod -/
def bCm (x m : PySem.Str) (K : Frag) : Bool := He5.wrapB K (ga K x) "classmethod" "classmethod.__get__" m && fnIn K (He5.wf K (ga K x) "classmethod" m)
theorem cm_ok {K : Frag} {x m : PySem.Str} (h : bCm x m K = true) : ClX.CMet K (ga K x) (.type "type") m (ma K (ga K x) m) (He5.wf K (ga K x) "classmethod" m) := by
  obtain ⟨h1, h2⟩ := ba h
  exact He5.cmet_of h1 h2
def bCread (x : PySem.Str) (K : Frag) : Bool := readsIn K (ga K x) (.type "type") && eqO (specialIn K (.ref (ga K x)) "__getattribute__") (some (some (.builtin "type.__getattribute__")))
theorem cread_ok {K : Frag} {x : PySem.Str} (h : bCread x K = true) : ClX.CRead K (ga K x) (.type "type") := by
  obtain ⟨h1, h2⟩ := ba h
  exact ⟨h1, eqO_ok h2⟩
/-- a tuple of texts, ints .. at an address -/
def bTup (p : Frag → Addr) (vs : List Dv) (K : Frag) : Bool := match K.lookup (p K) with
  | some ⟨.type c, _, .seq its _, _⟩ => decide (c = "tuple") && (decide (its.size ≤ sizeLine) && relAll (vs.map (Dv.v K)) its.toList)
  | _ => false
theorem tup_ok {K : Frag} {p : Frag → Addr} {vs : List Dv} (h : bTup p vs K = true) (H : Hp) : SqT K H (p K) (vs.map (Dv.v K)) := by
  unfold bTup at h
  split at h
  · rename_i c od its n sl q
    obtain ⟨h1, h2⟩ := ba h
    obtain ⟨h3, h4⟩ := ba h2
    exact .inr ⟨_, its, n, q, congrArg Value.type (of_decide_eq_true h1), rfl, of_decide_eq_true h3, relAll_ok h4⟩
  · cases h
/-- the written dict at p has at each of these keys an object -/
def bVal (p : Frag → Addr) (ks : List PySem.Str) (K : Frag) : Bool := ks.all fun x => eqO (nsIn K (p K) x) (some (some (.ref (dva K (p K) x))))
theorem val_ok {K : Frag} {p : Frag → Addr} {ks : List PySem.Str} (h : bVal p ks K = true) {x : PySem.Str} (hx : x ∈ ks) : nsIn K (p K) x = some (some (.ref (dva K (p K) x))) := eqO_ok (List.all_eq_true.mp h x hx)

/-! ### the Hook -/
abbrev AlM : Type := He.AlD × List (Option (List (Option (PySem.Str × Int))))
def obsM (fa : List Fa) (fb : List (Frag → Bool)) (fn : List He5.DefA) (ts : List He.Tab) (K : Frag) : AlM :=
  (((fa.all fun f => f.ok K) && ((fb.all fun f => f K) && fn.all fun d => d.ok K), fn.map fun d => He5.fnA K (d.at_ K)), ts.map fun t => dicW K (t.1 K))
def valM (fn : List He5.DefA) (ts : List He.Tab) (w : World) : AlM := ((true, fn.map He5.DefA.val), ts.map fun t => some (keysIn w.params t.2))
def SaysM (fa : List Fa) (fb : List (Frag → Bool)) (fn : List He5.DefA) (ts : List He.Tab) (w : World) (K : Frag) : Prop := obsM fa fb fn ts K = valM fn ts w
def obsMG (n : Nat) (fa : List Fa) (fb : List (Frag → Bool)) (fn : List He5.DefA) (ts : List He.Tab) (g : Addr → Option Obj) : AlM := obsM fa fb fn ts (frG g (He5.asA g n))
def hookM (n : Nat) (fa : List Fa) (fb : List (Frag → Bool)) (fn : List He5.DefA) (ts : List He.Tab) : Hook where
  α := AlM
  obs := fun s => obsMG n fa fb fn ts s.heap.get?
  val := fun w => valM fn ts w
  says := fun w h => ∃ K : Frag, K.In h ∧ SaysM fa fb fn ts w K
  of := fun _ _ e => ⟨_, frG_in, e⟩
  keeps := fun _ _ _ ⟨K, hK, c⟩ k => ⟨K, Frag.In.keeps hK k, c⟩
theorem obsMG_eq {n : Nat} {fa : List Fa} {fb : List (Frag → Bool)} {fn : List He5.DefA} {ts : List He.Tab} {g : Addr → Option Obj} {s : Shared} (h : ∀ a, g a = s.heap.get? a) : obsMG n fa fb fn ts g = (hookM n fa fb fn ts).obs s := by
  rw [show g = s.heap.get? from funext h]
  rfl
section
variable {fa : List Fa} {fb : List (Frag → Bool)} {fn : List He5.DefA} {ts : List He.Tab} {w : World} {K : Frag}
theorem SaysM.bits (c : SaysM fa fb fn ts w K) : (fa.all fun f => f.ok K) = true ∧ (fb.all fun f => f K) = true ∧ (fn.all fun d => d.ok K) = true := by
  have h : ((fa.all fun f => f.ok K) && ((fb.all fun f => f K) && fn.all fun d => d.ok K)) = true := congrArg (fun z : AlM => z.1.1) c
  obtain ⟨h1, h⟩ := ba h
  obtain ⟨h2, h3⟩ := ba h
  exact ⟨h1, h2, h3⟩
theorem SaysM.fact (c : SaysM fa fb fn ts w K) (i : Nat) {f : Fa} (h : fa[i]? = some f := by rfl) : f.ok K = true := List.all_eq_true.mp c.bits.1 f (List.mem_of_getElem? h)
theorem SaysM.bool (c : SaysM fa fb fn ts w K) (i : Nat) {f : Frag → Bool} (h : fb[i]? = some f := by rfl) : f K = true := List.all_eq_true.mp c.bits.2.1 f (List.mem_of_getElem? h)
theorem SaysM.def_ (c : SaysM fa fb fn ts w K) (i : Nat) {d : He5.DefA} (h : fn[i]? = some d := by rfl) : ∃ fd, FunD K d.name d.qual d.params d.body d.scope (d.dvs K) (d.kws K) (d.at_ K) fd := by
  have e : fn.map (fun d => He5.fnA K (d.at_ K)) = fn.map He5.DefA.val := congrArg (fun z : AlM => z.1.2) c
  have e2 : (fn.map fun d => He5.fnA K (d.at_ K))[i]? = (fn.map He5.DefA.val)[i]? := by rw [e]
  rw [List.getElem?_map, List.getElem?_map, h] at e2
  exact He5.DefA.funD (Option.some.inj e2) (List.all_eq_true.mp c.bits.2.2 d (List.mem_of_getElem? h))
theorem SaysM.tab (c : SaysM fa fb fn ts w K) (i : Nat) {t : He.Tab} (h : ts[i]? = some t := by rfl) : ∃ es n, KDict K w (t.1 K) es n := by
  have e : ts.map (fun t => dicW K (t.1 K)) = ts.map fun t => some (keysIn w.params t.2) := congrArg (fun z : AlM => z.2) c
  have e2 : (ts.map fun t => dicW K (t.1 K))[i]? = (ts.map fun t => some (keysIn w.params t.2))[i]? := by rw [e]
  rw [List.getElem?_map, List.getElem?_map, h] at e2
  exact dicW_ok (Option.some.inj e2)
end
end Tw
/-! Tw: the Hook over written addresses -/
namespace Tw
open PySem PySem.Spec PyProof.Rows L2 He PySem.W
def obsL (as : List Addr) (fa : List Fa) (fb : List (Frag → Bool)) (fn : List He5.DefA) (ts : List He.Tab) (g : Addr → Option Obj) : AlM := obsM fa fb fn ts (frG g as)
def hookL (as : List Addr) (fa : List Fa) (fb : List (Frag → Bool)) (fn : List He5.DefA) (ts : List He.Tab) : Hook where
  α := AlM
  obs := fun s => obsL as fa fb fn ts s.heap.get?
  val := fun w => valM fn ts w
  says := fun w h => ∃ K : Frag, K.In h ∧ SaysM fa fb fn ts w K
  of := fun _ _ e => ⟨_, frG_in, e⟩
  keeps := fun _ _ _ ⟨K, hK, c⟩ k => ⟨K, Frag.In.keeps hK k, c⟩
theorem obsL_eq {as : List Addr} {fa : List Fa} {fb : List (Frag → Bool)} {fn : List He5.DefA} {ts : List He.Tab} {g : Addr → Option Obj} {s : Shared} (h : ∀ a, g a = s.heap.get? a) : obsL as fa fb fn ts g = (hookL as fa fb fn ts).obs s := by
  rw [show g = s.heap.get? from funext h]
  rfl
/-- the written tuple at p has no names of its own -/
def bNod (p : Frag → Addr) (K : Frag) : Bool := match K.lookup (p K) with
  | some ⟨.type c, none, _, _⟩ => decide (c = "tuple")
  | _ => false
theorem nod_ok {K : Frag} {p : Frag → Addr} (h : bNod p K = true) : ∃ o, K.lookup (p K) = some o ∧ o.cls = .type "tuple" ∧ o.dict = none := by
  unfold bNod at h
  split at h
  · rename_i c d sl q
    exact ⟨_, q, congrArg Value.type (of_decide_eq_true h), rfl⟩
  · cases h
end Tw
/-! Hd: the head of this law: facts by names, one run -/
namespace Hd
open PySem PySem.Spec PyProof.Rows L2 He PySem.W Tw
def top (i : Nat) : Stmt := PySem.Challenge.pw_timerwheels_k32_whole_journeys.main.body.getD i (.Pass ⟨0, 0, 0, 0⟩)
abbrev s_is_switch : Stmt := top 11
def dd_is_switch : He5.DefA := { at_ := fun K => ga K "is_switch", name := "is_switch", qual := "is_switch", params := defArgs s_is_switch, body := defBody s_is_switch, scope := defScope s_is_switch, dfl := [], kwd := [] }
abbrev s_is_value : Stmt := top 12
def dd_is_value : He5.DefA := { at_ := fun K => ga K "is_value", name := "is_value", qual := "is_value", params := defArgs s_is_value, body := defBody s_is_value, scope := defScope s_is_value, dfl := [], kwd := [] }
abbrev s_book_of : Stmt := top 14
def dd_book_of : He5.DefA := { at_ := fun K => ga K "book_of", name := "book_of", qual := "book_of", params := defArgs s_book_of, body := defBody s_book_of, scope := defScope s_book_of, dfl := [], kwd := [] }
abbrev s_is_integer : Stmt := top 16
def dd_is_integer : He5.DefA := { at_ := fun K => ga K "is_integer", name := "is_integer", qual := "is_integer", params := defArgs s_is_integer, body := defBody s_is_integer, scope := defScope s_is_integer, dfl := [], kwd := [] }
abbrev s_is_count : Stmt := top 17
def dd_is_count : He5.DefA := { at_ := fun K => ga K "is_count", name := "is_count", qual := "is_count", params := defArgs s_is_count, body := defBody s_is_count, scope := defScope s_is_count, dfl := [], kwd := [] }
abbrev s_rounded : Stmt := top 19
def dd_rounded : He5.DefA := { at_ := fun K => ga K "rounded", name := "rounded", qual := "rounded", params := defArgs s_rounded, body := defBody s_rounded, scope := defScope s_rounded, dfl := [], kwd := [] }
abbrev s_spot_at : Stmt := top 20
def dd_spot_at : He5.DefA := { at_ := fun K => ga K "spot_at", name := "spot_at", qual := "spot_at", params := defArgs s_spot_at, body := defBody s_spot_at, scope := defScope s_spot_at, dfl := [], kwd := [] }
abbrev s_place : Stmt := top 21
def dd_place : He5.DefA := { at_ := fun K => ga K "place", name := "place", qual := "place", params := defArgs s_place, body := defBody s_place, scope := defScope s_place, dfl := [], kwd := [] }
abbrev s_visit_after : Stmt := top 22
def dd_visit_after : He5.DefA := { at_ := fun K => ga K "visit_after", name := "visit_after", qual := "visit_after", params := defArgs s_visit_after, body := defBody s_visit_after, scope := defScope s_visit_after, dfl := [], kwd := [] }
abbrev s_next_visit : Stmt := top 23
def dd_next_visit : He5.DefA := { at_ := fun K => ga K "next_visit", name := "next_visit", qual := "next_visit", params := defArgs s_next_visit, body := defBody s_next_visit, scope := defScope s_next_visit, dfl := [], kwd := [] }
abbrev s_is_visited : Stmt := top 25
def dd_is_visited : He5.DefA := { at_ := fun K => ga K "is_visited", name := "is_visited", qual := "is_visited", params := defArgs s_is_visited, body := defBody s_is_visited, scope := defScope s_is_visited, dfl := [], kwd := [] }
abbrev s_taken_out : Stmt := top 26
def dd_taken_out : He5.DefA := { at_ := fun K => ga K "taken_out", name := "taken_out", qual := "taken_out", params := defArgs s_taken_out, body := defBody s_taken_out, scope := defScope s_taken_out, dfl := [], kwd := [] }
abbrev s_level_order : Stmt := top 27
def dd_level_order : He5.DefA := { at_ := fun K => ga K "level_order", name := "level_order", qual := "level_order", params := defArgs s_level_order, body := defBody s_level_order, scope := defScope s_level_order, dfl := [], kwd := [] }
abbrev s_visited : Stmt := top 28
def dd_visited : He5.DefA := { at_ := fun K => ga K "visited", name := "visited", qual := "visited", params := defArgs s_visited, body := defBody s_visited, scope := defScope s_visited, dfl := [], kwd := [] }
abbrev s_skipped : Stmt := top 29
def dd_skipped : He5.DefA := { at_ := fun K => ga K "skipped", name := "skipped", qual := "skipped", params := defArgs s_skipped, body := defBody s_skipped, scope := defScope s_skipped, dfl := [], kwd := [] }
abbrev s_shifted : Stmt := top 30
def dd_shifted : He5.DefA := { at_ := fun K => ga K "shifted", name := "shifted", qual := "shifted", params := defArgs s_shifted, body := defBody s_shifted, scope := defScope s_shifted, dfl := [], kwd := [] }
abbrev s_followed : Stmt := top 31
def dd_followed : He5.DefA := { at_ := fun K => ga K "followed", name := "followed", qual := "followed", params := defArgs s_followed, body := defBody s_followed, scope := defScope s_followed, dfl := [], kwd := [] }
abbrev s_fire_tick : Stmt := top 33
def dd_fire_tick : He5.DefA := { at_ := fun K => ga K "fire_tick", name := "fire_tick", qual := "fire_tick", params := defArgs s_fire_tick, body := defBody s_fire_tick, scope := defScope s_fire_tick, dfl := [], kwd := [] }
abbrev s_moves : Stmt := top 34
def dd_moves : He5.DefA := { at_ := fun K => ga K "moves", name := "moves", qual := "moves", params := defArgs s_moves, body := defBody s_moves, scope := defScope s_moves, dfl := [], kwd := [] }
abbrev s_journey : Stmt := top 35
def dd_journey : He5.DefA := { at_ := fun K => ga K "journey", name := "journey", qual := "journey", params := defArgs s_journey, body := defBody s_journey, scope := defScope s_journey, dfl := [], kwd := [] }
abbrev s_is_within : Stmt := top 41
def dd_is_within : He5.DefA := { at_ := fun K => ga K "is_within", name := "is_within", qual := "is_within", params := defArgs s_is_within, body := defBody s_is_within, scope := defScope s_is_within, dfl := [], kwd := [] }
abbrev s_are_levels : Stmt := top 43
def dd_are_levels : He5.DefA := { at_ := fun K => ga K "are_levels", name := "are_levels", qual := "are_levels", params := defArgs s_are_levels, body := defBody s_are_levels, scope := defScope s_are_levels, dfl := [], kwd := [] }
abbrev s__law_begin : Stmt := top 46
def dd__law_begin : He5.DefA := { at_ := fun K => ga K "_law_begin", name := "_law_begin", qual := "_law_begin", params := defArgs s__law_begin, body := defBody s__law_begin, scope := defScope s__law_begin, dfl := [], kwd := [] }
abbrev s__law_mixed : Stmt := top 47
def dd__law_mixed : He5.DefA := { at_ := fun K => ga K "_law_mixed", name := "_law_mixed", qual := "_law_mixed", params := defArgs s__law_mixed, body := defBody s__law_mixed, scope := defScope s__law_mixed, dfl := [], kwd := [] }
abbrev s__law_draw : Stmt := top 48
def dd__law_draw : He5.DefA := { at_ := fun K => ga K "_law_draw", name := "_law_draw", qual := "_law_draw", params := defArgs s__law_draw, body := defBody s__law_draw, scope := defScope s__law_draw, dfl := [], kwd := [] }
abbrev s__law_span : Stmt := top 49
def dd__law_span : He5.DefA := { at_ := fun K => ga K "_law_span", name := "_law_span", qual := "_law_span", params := defArgs s__law_span, body := defBody s__law_span, scope := defScope s__law_span, dfl := [], kwd := [] }
abbrev s__law_draw_rows : Stmt := top 50
def dd__law_draw_rows : He5.DefA := { at_ := fun K => ga K "_law_draw_rows", name := "_law_draw_rows", qual := "_law_draw_rows", params := defArgs s__law_draw_rows, body := defBody s__law_draw_rows, scope := defScope s__law_draw_rows, dfl := [], kwd := [] }
abbrev s__law_draw_values : Stmt := top 51
def dd__law_draw_values : He5.DefA := { at_ := fun K => ga K "_law_draw_values", name := "_law_draw_values", qual := "_law_draw_values", params := defArgs s__law_draw_values, body := defBody s__law_draw_values, scope := defScope s__law_draw_values, dfl := [], kwd := [] }
abbrev s__law_wheel_of : Stmt := top 52
def dd__law_wheel_of : He5.DefA := { at_ := fun K => ga K "_law_wheel_of", name := "_law_wheel_of", qual := "_law_wheel_of", params := defArgs s__law_wheel_of, body := defBody s__law_wheel_of, scope := defScope s__law_wheel_of, dfl := [], kwd := [] }
abbrev s__law_made_wheel : Stmt := top 53
def dd__law_made_wheel : He5.DefA := { at_ := fun K => ga K "_law_made_wheel", name := "_law_made_wheel", qual := "_law_made_wheel", params := defArgs s__law_made_wheel, body := defBody s__law_made_wheel, scope := defScope s__law_made_wheel, dfl := [], kwd := [] }
abbrev s__law_made_book : Stmt := top 54
def dd__law_made_book : He5.DefA := { at_ := fun K => ga K "_law_made_book", name := "_law_made_book", qual := "_law_made_book", params := defArgs s__law_made_book, body := defBody s__law_made_book, scope := defScope s__law_made_book, dfl := [], kwd := [] }
abbrev s__law_turned : Stmt := top 55
def dd__law_turned : He5.DefA := { at_ := fun K => ga K "_law_turned", name := "_law_turned", qual := "_law_turned", params := defArgs s__law_turned, body := defBody s__law_turned, scope := defScope s__law_turned, dfl := [], kwd := [] }
abbrev s__law_belongs : Stmt := top 56
def dd__law_belongs : He5.DefA := { at_ := fun K => ga K "_law_belongs", name := "_law_belongs", qual := "_law_belongs", params := defArgs s__law_belongs, body := defBody s__law_belongs, scope := defScope s__law_belongs, dfl := [], kwd := [] }
abbrev s__law_spot_at : Stmt := top 57
def dd__law_spot_at : He5.DefA := { at_ := fun K => ga K "_law_spot_at", name := "_law_spot_at", qual := "_law_spot_at", params := defArgs s__law_spot_at, body := defBody s__law_spot_at, scope := defScope s__law_spot_at, dfl := [], kwd := [] }
abbrev s__law_next_right : Stmt := top 58
def dd__law_next_right : He5.DefA := { at_ := fun K => ga K "_law_next_right", name := "_law_next_right", qual := "_law_next_right", params := defArgs s__law_next_right, body := defBody s__law_next_right, scope := defScope s__law_next_right, dfl := [], kwd := [] }
abbrev s__law_far_right : Stmt := top 59
def dd__law_far_right : He5.DefA := { at_ := fun K => ga K "_law_far_right", name := "_law_far_right", qual := "_law_far_right", params := defArgs s__law_far_right, body := defBody s__law_far_right, scope := defScope s__law_far_right, dfl := [], kwd := [] }
abbrev s_law : Stmt := top 60
def dd_law : He5.DefA := { at_ := fun K => ga K "law", name := "law", qual := "law", params := defArgs s_law, body := defBody s_law, scope := defScope s_law, dfl := [], kwd := [] }
abbrev s_Level___init__ : Stmt := inClass (top 42) 0
def dd_Level___init__ : He5.DefA := { at_ := fun K => ma K (ga K "Level") "__init__", name := "__init__", qual := "Level.__init__", params := defArgs s_Level___init__, body := defBody s_Level___init__, scope := defScope s_Level___init__, dfl := [], kwd := [("span", .non)] }
abbrev s_Level_grain : Stmt := inClass (top 42) 1
def dd_Level_grain : He5.DefA := { at_ := fun K => pa K (ga K "Level") "grain", name := "grain", qual := "Level.grain", params := defArgs s_Level_grain, body := defBody s_Level_grain, scope := defScope s_Level_grain, dfl := [], kwd := [] }
abbrev s_Level_slots : Stmt := inClass (top 42) 2
def dd_Level_slots : He5.DefA := { at_ := fun K => pa K (ga K "Level") "slots", name := "slots", qual := "Level.slots", params := defArgs s_Level_slots, body := defBody s_Level_slots, scope := defScope s_Level_slots, dfl := [], kwd := [] }
abbrev s_Level_span : Stmt := inClass (top 42) 3
def dd_Level_span : He5.DefA := { at_ := fun K => pa K (ga K "Level") "span", name := "span", qual := "Level.span", params := defArgs s_Level_span, body := defBody s_Level_span, scope := defScope s_Level_span, dfl := [], kwd := [] }
abbrev s_Level___eq__ : Stmt := inClass (top 42) 4
def dd_Level___eq__ : He5.DefA := { at_ := fun K => ma K (ga K "Level") "__eq__", name := "__eq__", qual := "Level.__eq__", params := defArgs s_Level___eq__, body := defBody s_Level___eq__, scope := defScope s_Level___eq__, dfl := [], kwd := [] }
abbrev s_Wheel___init__ : Stmt := inClass (top 44) 0
def dd_Wheel___init__ : He5.DefA := { at_ := fun K => ma K (ga K "Wheel") "__init__", name := "__init__", qual := "Wheel.__init__", params := defArgs s_Wheel___init__, body := defBody s_Wheel___init__, scope := defScope s_Wheel___init__, dfl := [], kwd := [] }
abbrev s_Wheel_levels : Stmt := inClass (top 44) 1
def dd_Wheel_levels : He5.DefA := { at_ := fun K => pa K (ga K "Wheel") "levels", name := "levels", qual := "Wheel.levels", params := defArgs s_Wheel_levels, body := defBody s_Wheel_levels, scope := defScope s_Wheel_levels, dfl := [], kwd := [] }
abbrev s_Wheel_reach : Stmt := inClass (top 44) 2
def dd_Wheel_reach : He5.DefA := { at_ := fun K => pa K (ga K "Wheel") "reach", name := "reach", qual := "Wheel.reach", params := defArgs s_Wheel_reach, body := defBody s_Wheel_reach, scope := defScope s_Wheel_reach, dfl := [], kwd := [] }
abbrev s_Wheel___len__ : Stmt := inClass (top 44) 3
def dd_Wheel___len__ : He5.DefA := { at_ := fun K => ma K (ga K "Wheel") "__len__", name := "__len__", qual := "Wheel.__len__", params := defArgs s_Wheel___len__, body := defBody s_Wheel___len__, scope := defScope s_Wheel___len__, dfl := [], kwd := [] }
abbrev s_Wheel___getitem__ : Stmt := inClass (top 44) 4
def dd_Wheel___getitem__ : He5.DefA := { at_ := fun K => ma K (ga K "Wheel") "__getitem__", name := "__getitem__", qual := "Wheel.__getitem__", params := defArgs s_Wheel___getitem__, body := defBody s_Wheel___getitem__, scope := defScope s_Wheel___getitem__, dfl := [], kwd := [] }
abbrev s_Wheel___iter__ : Stmt := inClass (top 44) 5
def dd_Wheel___iter__ : He5.DefA := { at_ := fun K => ma K (ga K "Wheel") "__iter__", name := "__iter__", qual := "Wheel.__iter__", params := defArgs s_Wheel___iter__, body := defBody s_Wheel___iter__, scope := defScope s_Wheel___iter__, dfl := [], kwd := [] }
abbrev s_Wheel___contains__ : Stmt := inClass (top 44) 6
def dd_Wheel___contains__ : He5.DefA := { at_ := fun K => ma K (ga K "Wheel") "__contains__", name := "__contains__", qual := "Wheel.__contains__", params := defArgs s_Wheel___contains__, body := defBody s_Wheel___contains__, scope := defScope s_Wheel___contains__, dfl := [], kwd := [] }
abbrev s_Wheel___eq__ : Stmt := inClass (top 44) 7
def dd_Wheel___eq__ : He5.DefA := { at_ := fun K => ma K (ga K "Wheel") "__eq__", name := "__eq__", qual := "Wheel.__eq__", params := defArgs s_Wheel___eq__, body := defBody s_Wheel___eq__, scope := defScope s_Wheel___eq__, dfl := [], kwd := [] }
abbrev s_Wheel_level_of : Stmt := inClass (top 44) 8
def dd_Wheel_level_of : He5.DefA := { at_ := fun K => ma K (ga K "Wheel") "level_of", name := "level_of", qual := "Wheel.level_of", params := defArgs s_Wheel_level_of, body := defBody s_Wheel_level_of, scope := defScope s_Wheel_level_of, dfl := [], kwd := [] }
abbrev s_Book___init__ : Stmt := inClass (top 13) 0
def dd_Book___init__ : He5.DefA := { at_ := fun K => ma K (ga K "Book") "__init__", name := "__init__", qual := "Book.__init__", params := defArgs s_Book___init__, body := defBody s_Book___init__, scope := defScope s_Book___init__, dfl := [], kwd := [("rounding", .str "down"), ("action", .str "move"), ("order", .str "high"), ("due", .str "now"), ("zero", .str "one"), ("beyond", .str "refuse")] }
abbrev s_Book_rounding : Stmt := inClass (top 13) 1
def dd_Book_rounding : He5.DefA := { at_ := fun K => pa K (ga K "Book") "rounding", name := "rounding", qual := "Book.rounding", params := defArgs s_Book_rounding, body := defBody s_Book_rounding, scope := defScope s_Book_rounding, dfl := [], kwd := [] }
abbrev s_Book_action : Stmt := inClass (top 13) 2
def dd_Book_action : He5.DefA := { at_ := fun K => pa K (ga K "Book") "action", name := "action", qual := "Book.action", params := defArgs s_Book_action, body := defBody s_Book_action, scope := defScope s_Book_action, dfl := [], kwd := [] }
abbrev s_Book_order : Stmt := inClass (top 13) 3
def dd_Book_order : He5.DefA := { at_ := fun K => pa K (ga K "Book") "order", name := "order", qual := "Book.order", params := defArgs s_Book_order, body := defBody s_Book_order, scope := defScope s_Book_order, dfl := [], kwd := [] }
abbrev s_Book_due : Stmt := inClass (top 13) 4
def dd_Book_due : He5.DefA := { at_ := fun K => pa K (ga K "Book") "due", name := "due", qual := "Book.due", params := defArgs s_Book_due, body := defBody s_Book_due, scope := defScope s_Book_due, dfl := [], kwd := [] }
abbrev s_Book_zero : Stmt := inClass (top 13) 5
def dd_Book_zero : He5.DefA := { at_ := fun K => pa K (ga K "Book") "zero", name := "zero", qual := "Book.zero", params := defArgs s_Book_zero, body := defBody s_Book_zero, scope := defScope s_Book_zero, dfl := [], kwd := [] }
abbrev s_Book_beyond : Stmt := inClass (top 13) 6
def dd_Book_beyond : He5.DefA := { at_ := fun K => pa K (ga K "Book") "beyond", name := "beyond", qual := "Book.beyond", params := defArgs s_Book_beyond, body := defBody s_Book_beyond, scope := defScope s_Book_beyond, dfl := [], kwd := [] }
abbrev s_Book_text : Stmt := inClass (top 13) 7
def dd_Book_text : He5.DefA := { at_ := fun K => pa K (ga K "Book") "text", name := "text", qual := "Book.text", params := defArgs s_Book_text, body := defBody s_Book_text, scope := defScope s_Book_text, dfl := [], kwd := [] }
abbrev s_Book___eq__ : Stmt := inClass (top 13) 8
def dd_Book___eq__ : He5.DefA := { at_ := fun K => ma K (ga K "Book") "__eq__", name := "__eq__", qual := "Book.__eq__", params := defArgs s_Book___eq__, body := defBody s_Book___eq__, scope := defScope s_Book___eq__, dfl := [], kwd := [] }
abbrev s_Book___getitem__ : Stmt := inClass (top 13) 9
def dd_Book___getitem__ : He5.DefA := { at_ := fun K => ma K (ga K "Book") "__getitem__", name := "__getitem__", qual := "Book.__getitem__", params := defArgs s_Book___getitem__, body := defBody s_Book___getitem__, scope := defScope s_Book___getitem__, dfl := [], kwd := [] }
abbrev s_Book___iter__ : Stmt := inClass (top 13) 10
def dd_Book___iter__ : He5.DefA := { at_ := fun K => ma K (ga K "Book") "__iter__", name := "__iter__", qual := "Book.__iter__", params := defArgs s_Book___iter__, body := defBody s_Book___iter__, scope := defScope s_Book___iter__, dfl := [], kwd := [] }
abbrev s_Book___contains__ : Stmt := inClass (top 13) 11
def dd_Book___contains__ : He5.DefA := { at_ := fun K => ma K (ga K "Book") "__contains__", name := "__contains__", qual := "Book.__contains__", params := defArgs s_Book___contains__, body := defBody s_Book___contains__, scope := defScope s_Book___contains__, dfl := [], kwd := [] }
abbrev s_Book_from_text : Stmt := inClass (top 13) 13
def dd_Book_from_text : He5.DefA := { at_ := fun K => He5.wf K (ga K "Book") "classmethod" "from_text", name := "from_text", qual := "Book.from_text", params := defArgs s_Book_from_text, body := defBody s_Book_from_text, scope := defScope s_Book_from_text, dfl := [], kwd := [] }
def fa_0 : List (He.Fa) := [.free "len",
  .free "isinstance",
  .free "zip",
  .free "range",
  .free "enumerate",
  .free "list",
  .free "tuple",
  .free "int",
  .free "str",
  .free "abs",
  .free "max",
  .free "min",
  .free "all",
  .free "repr",
  .free "sorted",
  .free "bool",
  .free "set",
  .free "sum",
  .free "any",
  .free "type",
  .glo "SWITCHES",
  .glo "VALUES",
  .int "MOST_GRAIN" 1000,
  .int "MOST_SLOTS" 100,
  .int "MOST_TURNS" 4,
  .int "MOST_LEVELS" 5,
  .glo "is_switch",
  .glo "is_value",
  .glo "book_of",
  .glo "is_integer"]
def fa_1 : List (He.Fa) := [.glo "is_count",
  .glo "rounded",
  .glo "spot_at",
  .glo "place",
  .glo "visit_after",
  .glo "next_visit",
  .glo "is_visited",
  .glo "taken_out",
  .glo "level_order",
  .glo "visited",
  .glo "skipped",
  .glo "shifted",
  .glo "followed",
  .glo "fire_tick",
  .glo "moves",
  .glo "journey",
  .glo "is_within",
  .glo "are_levels",
  .glo "_law_begin",
  .glo "_law_mixed",
  .glo "_law_draw",
  .glo "_law_span",
  .glo "_law_draw_rows",
  .glo "_law_draw_values",
  .glo "_law_wheel_of",
  .glo "_law_made_wheel",
  .glo "_law_made_book",
  .glo "_law_turned",
  .glo "_law_belongs",
  .glo "_law_spot_at"]
def fa_2 : List (He.Fa) := [.glo "_law_next_right",
  .glo "_law_far_right",
  .glo "law",
  .glo "Level",
  .cls "Level",
  .mkr "Level",
  .noat "Level" "kept_grain",
  .noat "Level" "kept_slots",
  .noat "Level" "kept_span",
  .meth "Level" "__eq__",
  .glo "Wheel",
  .cls "Wheel",
  .mkr "Wheel",
  .noat "Wheel" "kept_levels",
  .meth "Wheel" "__len__",
  .meth "Wheel" "__getitem__",
  .meth "Wheel" "__iter__",
  .meth "Wheel" "__contains__",
  .meth "Wheel" "__eq__",
  .meth "Wheel" "level_of",
  .glo "Book",
  .cls "Book",
  .mkr "Book",
  .noat "Book" "kept_values",
  .meth "Book" "__eq__",
  .meth "Book" "__getitem__",
  .meth "Book" "__iter__",
  .meth "Book" "__contains__"]
def fa : List (He.Fa) := fa_0 ++ fa_1 ++ fa_2
def fb_0 : List (Frag → Bool) := [bTup (fun K => ga K "SWITCHES") [.str "rounding", .str "action", .str "order", .str "due", .str "zero", .str "beyond"],
  bVal (fun K => ga K "VALUES") ["rounding", "action", "order", "due", "zero", "beyond"],
  bTup (fun K => dva K (ga K "VALUES") "rounding") [.str "down", .str "up"],
  bTup (fun K => dva K (ga K "VALUES") "action") [.str "fire", .str "move"],
  bTup (fun K => dva K (ga K "VALUES") "order") [.str "high", .str "low"],
  bTup (fun K => dva K (ga K "VALUES") "due") [.str "now", .str "put"],
  bTup (fun K => dva K (ga K "VALUES") "zero") [.str "now", .str "one"],
  bTup (fun K => dva K (ga K "VALUES") "beyond") [.str "refuse", .str "last", .str "cut"],
  bIsi "Level",
  bKit (fun K => .ref (ga K "Level")) (fun K => .ref (ga K "Level")) true,
  bFn fun K => ma K (ga K "Level") "__init__",
  bProp "Level" "grain",
  bProp "Level" "slots",
  bProp "Level" "span",
  bFn fun K => ma K (ga K "Level") "__eq__",
  bIsi "Wheel",
  bKit (fun K => .ref (ga K "Wheel")) (fun K => .ref (ga K "Wheel")) true,
  bFn fun K => ma K (ga K "Wheel") "__init__",
  bProp "Wheel" "levels",
  bProp "Wheel" "reach",
  bFn fun K => ma K (ga K "Wheel") "__len__",
  bFn fun K => ma K (ga K "Wheel") "__getitem__",
  bFn fun K => ma K (ga K "Wheel") "__iter__",
  bFn fun K => ma K (ga K "Wheel") "__contains__",
  bFn fun K => ma K (ga K "Wheel") "__eq__",
  bFn fun K => ma K (ga K "Wheel") "level_of",
  bIsi "Book",
  bKit (fun K => .ref (ga K "Book")) (fun K => .ref (ga K "Book")) true,
  bFn fun K => ma K (ga K "Book") "__init__",
  bProp "Book" "rounding"]
def fb_1 : List (Frag → Bool) := [bProp "Book" "action",
  bProp "Book" "order",
  bProp "Book" "due",
  bProp "Book" "zero",
  bProp "Book" "beyond",
  bProp "Book" "text",
  bFn fun K => ma K (ga K "Book") "__eq__",
  bFn fun K => ma K (ga K "Book") "__getitem__",
  bFn fun K => ma K (ga K "Book") "__iter__",
  bFn fun K => ma K (ga K "Book") "__contains__",
  bCm "Book" "from_text",
  bCread "Book"]
def fb : List (Frag → Bool) := fb_0 ++ fb_1
def fn_0 : List (He5.DefA) := [dd_is_switch,
  dd_is_value,
  dd_book_of,
  dd_is_integer,
  dd_is_count,
  dd_rounded,
  dd_spot_at,
  dd_place,
  dd_visit_after,
  dd_next_visit,
  dd_is_visited,
  dd_taken_out,
  dd_level_order,
  dd_visited,
  dd_skipped,
  dd_shifted,
  dd_followed,
  dd_fire_tick,
  dd_moves,
  dd_journey,
  dd_is_within,
  dd_are_levels,
  dd__law_begin,
  dd__law_mixed,
  dd__law_draw,
  dd__law_span,
  dd__law_draw_rows,
  dd__law_draw_values,
  dd__law_wheel_of,
  dd__law_made_wheel]
def fn_1 : List (He5.DefA) := [dd__law_made_book,
  dd__law_turned,
  dd__law_belongs,
  dd__law_spot_at,
  dd__law_next_right,
  dd__law_far_right,
  dd_law,
  dd_Level___init__,
  dd_Level_grain,
  dd_Level_slots,
  dd_Level_span,
  dd_Level___eq__,
  dd_Wheel___init__,
  dd_Wheel_levels,
  dd_Wheel_reach,
  dd_Wheel___len__,
  dd_Wheel___getitem__,
  dd_Wheel___iter__,
  dd_Wheel___contains__,
  dd_Wheel___eq__,
  dd_Wheel_level_of,
  dd_Book___init__,
  dd_Book_rounding,
  dd_Book_action,
  dd_Book_order,
  dd_Book_due,
  dd_Book_zero,
  dd_Book_beyond,
  dd_Book_text,
  dd_Book___eq__]
def fn_2 : List (He5.DefA) := [dd_Book___getitem__,
  dd_Book___iter__,
  dd_Book___contains__,
  dd_Book_from_text]
def fn : List (He5.DefA) := fn_0 ++ fn_1 ++ fn_2
def ts_0 : List (He.Tab) := [((fun K => ga K "VALUES"), ["rounding", "action", "order", "due", "zero", "beyond"])]
def ts : List (He.Tab) := ts_0
abbrev R : PySem.W.OpenRow := PySem.W.OpenLaw.row PySem.Challenge.rw_timerwheels_k32_whole_journeys
def adr : List Addr := [3, 141, 142, 155, 162, 281, 292, 299, 306, 313, 320, 327, 334, 341, 348, 355, 362, 369, 376, 383, 390, 397, 404, 411, 418, 467, 476, 571, 580, 587, 594, 601, 608, 615, 622, 627, 634, 641, 648, 655, 662, 669, 676, 143, 144, 145, 146, 147, 148, 154, 161, 280, 291, 298, 305, 312, 319, 326, 333, 340, 347, 354, 361, 368, 375, 382, 389, 396, 403, 410, 417, 466, 475, 570, 579, 586, 593, 600, 607, 614, 621, 626, 633, 640, 647, 654, 661, 668, 675, 177, 185, 193, 201, 209, 217, 225, 233, 240, 247, 254, 261, 277, 433, 441, 449, 457, 464, 490, 498, 506, 513, 520, 527, 534, 541, 548, 176, 170, 184, 192, 200, 208, 216, 224, 232, 239, 246, 253, 260, 275, 432, 426, 440, 448, 456, 463, 489, 497, 505, 512, 519, 526, 533, 540, 547, 183, 191, 199, 207, 215, 223, 231, 274, 439, 447, 455, 496, 504, 2]
abbrev hk : PySem.W.Hook := hookL adr fa fb fn ts
def ob (s : PySem.W.SharedT) : AlM := obsL adr fa fb fn ts (HandSHeadRun.getT s)
theorem ob_eq (s : PySem.W.SharedT) : ob s = hk.obs s.abs := obsL_eq (HandSHeadRun.getT_eq s)
def loose : List PySem.Str := (["_wall", "__name__", "WheelError", "InvalidNumber", "InvalidText", "InvalidLevels", "InvalidSwitch", "TooLong", "SWITCHES", "VALUES", "is_switch", "is_value", "Book", "book_of", "is_integer"] : List PySem.Str) ++ (["is_count", "rounded", "spot_at", "place", "visit_after", "next_visit", "is_visited", "taken_out", "level_order", "visited", "skipped", "shifted", "followed", "fire_tick", "moves"] : List PySem.Str) ++ (["journey", "MOST_GRAIN", "MOST_SLOTS", "MOST_TURNS", "MOST_LEVELS", "is_within", "Level", "are_levels", "Wheel", "_law_begin", "_law_mixed", "_law_draw", "_law_span", "_law_draw_rows", "_law_draw_values"] : List PySem.Str) ++ (["_law_wheel_of", "_law_made_wheel", "_law_made_book", "_law_turned", "_law_belongs", "_law_spot_at", "_law_next_right", "_law_far_right"] : List PySem.Str)
theorem run0 (w : World) : HandSHeadRun.RunEq R (PySem.W.view R.prog [60]) hk ob 6146 loose (w.withFollow "special-get-raises" false) := by
  intro os
  kernel_rfl
theorem run1 (w : World) : HandSHeadRun.RunEq R (PySem.W.view R.prog [60]) hk ob 6146 loose (w.withFollow "special-get-raises" true) := by
  intro os
  kernel_rfl
theorem run (w : World) : HandSHeadRun.RunEq R (PySem.W.view R.prog [60]) hk ob 6146 loose w := byRow2 "special-get-raises" (P := fun w => HandSHeadRun.RunEq R (PySem.W.view R.prog [60]) hk ob 6146 loose w) run0 run1 w
structure Tx (K : Frag) (mg : PySem.Str → Option Value) (w : World) : Prop where
  ex : ∃ h : Heap, K.In h ∧ h.Ns mainGlobals mg
  says : SaysM fa fb fn ts w K
section
variable {K : Frag} {mg : PySem.Str → Option Value} {w : World}
theorem free_len (T : Tx K mg w) : mg "len" = none := by
  obtain ⟨h, X, G⟩ := T.ex
  exact He.free_ok X G (T.says.fact 0 rfl)
theorem free_isinstance (T : Tx K mg w) : mg "isinstance" = none := by
  obtain ⟨h, X, G⟩ := T.ex
  exact He.free_ok X G (T.says.fact 1 rfl)
theorem free_zip (T : Tx K mg w) : mg "zip" = none := by
  obtain ⟨h, X, G⟩ := T.ex
  exact He.free_ok X G (T.says.fact 2 rfl)
theorem free_range (T : Tx K mg w) : mg "range" = none := by
  obtain ⟨h, X, G⟩ := T.ex
  exact He.free_ok X G (T.says.fact 3 rfl)
theorem free_enumerate (T : Tx K mg w) : mg "enumerate" = none := by
  obtain ⟨h, X, G⟩ := T.ex
  exact He.free_ok X G (T.says.fact 4 rfl)
theorem free_list (T : Tx K mg w) : mg "list" = none := by
  obtain ⟨h, X, G⟩ := T.ex
  exact He.free_ok X G (T.says.fact 5 rfl)
theorem free_tuple (T : Tx K mg w) : mg "tuple" = none := by
  obtain ⟨h, X, G⟩ := T.ex
  exact He.free_ok X G (T.says.fact 6 rfl)
theorem free_int (T : Tx K mg w) : mg "int" = none := by
  obtain ⟨h, X, G⟩ := T.ex
  exact He.free_ok X G (T.says.fact 7 rfl)
theorem free_str (T : Tx K mg w) : mg "str" = none := by
  obtain ⟨h, X, G⟩ := T.ex
  exact He.free_ok X G (T.says.fact 8 rfl)
theorem free_abs (T : Tx K mg w) : mg "abs" = none := by
  obtain ⟨h, X, G⟩ := T.ex
  exact He.free_ok X G (T.says.fact 9 rfl)
theorem free_max (T : Tx K mg w) : mg "max" = none := by
  obtain ⟨h, X, G⟩ := T.ex
  exact He.free_ok X G (T.says.fact 10 rfl)
theorem free_min (T : Tx K mg w) : mg "min" = none := by
  obtain ⟨h, X, G⟩ := T.ex
  exact He.free_ok X G (T.says.fact 11 rfl)
theorem free_all (T : Tx K mg w) : mg "all" = none := by
  obtain ⟨h, X, G⟩ := T.ex
  exact He.free_ok X G (T.says.fact 12 rfl)
theorem free_repr (T : Tx K mg w) : mg "repr" = none := by
  obtain ⟨h, X, G⟩ := T.ex
  exact He.free_ok X G (T.says.fact 13 rfl)
theorem free_sorted (T : Tx K mg w) : mg "sorted" = none := by
  obtain ⟨h, X, G⟩ := T.ex
  exact He.free_ok X G (T.says.fact 14 rfl)
theorem free_bool (T : Tx K mg w) : mg "bool" = none := by
  obtain ⟨h, X, G⟩ := T.ex
  exact He.free_ok X G (T.says.fact 15 rfl)
theorem free_set (T : Tx K mg w) : mg "set" = none := by
  obtain ⟨h, X, G⟩ := T.ex
  exact He.free_ok X G (T.says.fact 16 rfl)
theorem free_sum (T : Tx K mg w) : mg "sum" = none := by
  obtain ⟨h, X, G⟩ := T.ex
  exact He.free_ok X G (T.says.fact 17 rfl)
theorem free_any (T : Tx K mg w) : mg "any" = none := by
  obtain ⟨h, X, G⟩ := T.ex
  exact He.free_ok X G (T.says.fact 18 rfl)
theorem free_type (T : Tx K mg w) : mg "type" = none := by
  obtain ⟨h, X, G⟩ := T.ex
  exact He.free_ok X G (T.says.fact 19 rfl)
theorem glo_SWITCHES (T : Tx K mg w) : mg "SWITCHES" = some (.ref (ga K "SWITCHES")) := by
  obtain ⟨h, X, G⟩ := T.ex
  exact He.glo_ok X G (T.says.fact 20 rfl)
theorem tup_SWITCHES (T : Tx K mg w) : ∀ H, SqT K H (ga K "SWITCHES") [V.str "rounding", V.str "action", V.str "order", V.str "due", V.str "zero", V.str "beyond"] := fun H => tup_ok (p := fun K => ga K "SWITCHES") (vs := [.str "rounding", .str "action", .str "order", .str "due", .str "zero", .str "beyond"]) ((T.says.bool 0 rfl)) H
theorem glo_VALUES (T : Tx K mg w) : mg "VALUES" = some (.ref (ga K "VALUES")) := by
  obtain ⟨h, X, G⟩ := T.ex
  exact He.glo_ok X G (T.says.fact 21 rfl)
theorem val_VALUES (T : Tx K mg w) : ∀ x, x ∈ (["rounding", "action", "order", "due", "zero", "beyond"] : List PySem.Str) → nsIn K (ga K "VALUES") x = some (some (.ref (dva K (ga K "VALUES") x))) := fun x hx => val_ok (p := fun K => ga K "VALUES") (ks := ["rounding", "action", "order", "due", "zero", "beyond"]) ((T.says.bool 1 rfl)) hx
theorem tup_VALUES_rounding (T : Tx K mg w) : ∀ H, SqT K H (dva K (ga K "VALUES") "rounding") [V.str "down", V.str "up"] := fun H => tup_ok (p := fun K => dva K (ga K "VALUES") "rounding") (vs := [.str "down", .str "up"]) ((T.says.bool 2 rfl)) H
theorem tup_VALUES_action (T : Tx K mg w) : ∀ H, SqT K H (dva K (ga K "VALUES") "action") [V.str "fire", V.str "move"] := fun H => tup_ok (p := fun K => dva K (ga K "VALUES") "action") (vs := [.str "fire", .str "move"]) ((T.says.bool 3 rfl)) H
theorem tup_VALUES_order (T : Tx K mg w) : ∀ H, SqT K H (dva K (ga K "VALUES") "order") [V.str "high", V.str "low"] := fun H => tup_ok (p := fun K => dva K (ga K "VALUES") "order") (vs := [.str "high", .str "low"]) ((T.says.bool 4 rfl)) H
theorem tup_VALUES_due (T : Tx K mg w) : ∀ H, SqT K H (dva K (ga K "VALUES") "due") [V.str "now", V.str "put"] := fun H => tup_ok (p := fun K => dva K (ga K "VALUES") "due") (vs := [.str "now", .str "put"]) ((T.says.bool 5 rfl)) H
theorem tup_VALUES_zero (T : Tx K mg w) : ∀ H, SqT K H (dva K (ga K "VALUES") "zero") [V.str "now", V.str "one"] := fun H => tup_ok (p := fun K => dva K (ga K "VALUES") "zero") (vs := [.str "now", .str "one"]) ((T.says.bool 6 rfl)) H
theorem tup_VALUES_beyond (T : Tx K mg w) : ∀ H, SqT K H (dva K (ga K "VALUES") "beyond") [V.str "refuse", V.str "last", V.str "cut"] := fun H => tup_ok (p := fun K => dva K (ga K "VALUES") "beyond") (vs := [.str "refuse", .str "last", .str "cut"]) ((T.says.bool 7 rfl)) H
theorem int_MOST_GRAIN (T : Tx K mg w) : ∃ t, mg "MOST_GRAIN" = some (.int 1000 t) := by
  obtain ⟨h, X, G⟩ := T.ex
  exact He.int_ok X G (T.says.fact 22 rfl)
theorem int_MOST_SLOTS (T : Tx K mg w) : ∃ t, mg "MOST_SLOTS" = some (.int 100 t) := by
  obtain ⟨h, X, G⟩ := T.ex
  exact He.int_ok X G (T.says.fact 23 rfl)
theorem int_MOST_TURNS (T : Tx K mg w) : ∃ t, mg "MOST_TURNS" = some (.int 4 t) := by
  obtain ⟨h, X, G⟩ := T.ex
  exact He.int_ok X G (T.says.fact 24 rfl)
theorem int_MOST_LEVELS (T : Tx K mg w) : ∃ t, mg "MOST_LEVELS" = some (.int 5 t) := by
  obtain ⟨h, X, G⟩ := T.ex
  exact He.int_ok X G (T.says.fact 25 rfl)
theorem glo_is_switch (T : Tx K mg w) : mg "is_switch" = some (.ref (ga K "is_switch")) := by
  obtain ⟨h, X, G⟩ := T.ex
  exact He.glo_ok X G (T.says.fact 26 rfl)
theorem d_is_switch (T : Tx K mg w) : ∃ fd, FunD K "is_switch" "is_switch" (defArgs s_is_switch) (defBody s_is_switch) (defScope s_is_switch) [] [] (ga K "is_switch") fd := T.says.def_ 0 (d := dd_is_switch) rfl
theorem glo_is_value (T : Tx K mg w) : mg "is_value" = some (.ref (ga K "is_value")) := by
  obtain ⟨h, X, G⟩ := T.ex
  exact He.glo_ok X G (T.says.fact 27 rfl)
theorem d_is_value (T : Tx K mg w) : ∃ fd, FunD K "is_value" "is_value" (defArgs s_is_value) (defBody s_is_value) (defScope s_is_value) [] [] (ga K "is_value") fd := T.says.def_ 1 (d := dd_is_value) rfl
theorem glo_book_of (T : Tx K mg w) : mg "book_of" = some (.ref (ga K "book_of")) := by
  obtain ⟨h, X, G⟩ := T.ex
  exact He.glo_ok X G (T.says.fact 28 rfl)
theorem d_book_of (T : Tx K mg w) : ∃ fd, FunD K "book_of" "book_of" (defArgs s_book_of) (defBody s_book_of) (defScope s_book_of) [] [] (ga K "book_of") fd := T.says.def_ 2 (d := dd_book_of) rfl
theorem glo_is_integer (T : Tx K mg w) : mg "is_integer" = some (.ref (ga K "is_integer")) := by
  obtain ⟨h, X, G⟩ := T.ex
  exact He.glo_ok X G (T.says.fact 29 rfl)
theorem d_is_integer (T : Tx K mg w) : ∃ fd, FunD K "is_integer" "is_integer" (defArgs s_is_integer) (defBody s_is_integer) (defScope s_is_integer) [] [] (ga K "is_integer") fd := T.says.def_ 3 (d := dd_is_integer) rfl
theorem glo_is_count (T : Tx K mg w) : mg "is_count" = some (.ref (ga K "is_count")) := by
  obtain ⟨h, X, G⟩ := T.ex
  exact He.glo_ok X G (T.says.fact 30 rfl)
theorem d_is_count (T : Tx K mg w) : ∃ fd, FunD K "is_count" "is_count" (defArgs s_is_count) (defBody s_is_count) (defScope s_is_count) [] [] (ga K "is_count") fd := T.says.def_ 4 (d := dd_is_count) rfl
theorem glo_rounded (T : Tx K mg w) : mg "rounded" = some (.ref (ga K "rounded")) := by
  obtain ⟨h, X, G⟩ := T.ex
  exact He.glo_ok X G (T.says.fact 31 rfl)
theorem d_rounded (T : Tx K mg w) : ∃ fd, FunD K "rounded" "rounded" (defArgs s_rounded) (defBody s_rounded) (defScope s_rounded) [] [] (ga K "rounded") fd := T.says.def_ 5 (d := dd_rounded) rfl
theorem glo_spot_at (T : Tx K mg w) : mg "spot_at" = some (.ref (ga K "spot_at")) := by
  obtain ⟨h, X, G⟩ := T.ex
  exact He.glo_ok X G (T.says.fact 32 rfl)
theorem d_spot_at (T : Tx K mg w) : ∃ fd, FunD K "spot_at" "spot_at" (defArgs s_spot_at) (defBody s_spot_at) (defScope s_spot_at) [] [] (ga K "spot_at") fd := T.says.def_ 6 (d := dd_spot_at) rfl
theorem glo_place (T : Tx K mg w) : mg "place" = some (.ref (ga K "place")) := by
  obtain ⟨h, X, G⟩ := T.ex
  exact He.glo_ok X G (T.says.fact 33 rfl)
theorem d_place (T : Tx K mg w) : ∃ fd, FunD K "place" "place" (defArgs s_place) (defBody s_place) (defScope s_place) [] [] (ga K "place") fd := T.says.def_ 7 (d := dd_place) rfl
theorem glo_visit_after (T : Tx K mg w) : mg "visit_after" = some (.ref (ga K "visit_after")) := by
  obtain ⟨h, X, G⟩ := T.ex
  exact He.glo_ok X G (T.says.fact 34 rfl)
theorem d_visit_after (T : Tx K mg w) : ∃ fd, FunD K "visit_after" "visit_after" (defArgs s_visit_after) (defBody s_visit_after) (defScope s_visit_after) [] [] (ga K "visit_after") fd := T.says.def_ 8 (d := dd_visit_after) rfl
theorem glo_next_visit (T : Tx K mg w) : mg "next_visit" = some (.ref (ga K "next_visit")) := by
  obtain ⟨h, X, G⟩ := T.ex
  exact He.glo_ok X G (T.says.fact 35 rfl)
theorem d_next_visit (T : Tx K mg w) : ∃ fd, FunD K "next_visit" "next_visit" (defArgs s_next_visit) (defBody s_next_visit) (defScope s_next_visit) [] [] (ga K "next_visit") fd := T.says.def_ 9 (d := dd_next_visit) rfl
theorem glo_is_visited (T : Tx K mg w) : mg "is_visited" = some (.ref (ga K "is_visited")) := by
  obtain ⟨h, X, G⟩ := T.ex
  exact He.glo_ok X G (T.says.fact 36 rfl)
theorem d_is_visited (T : Tx K mg w) : ∃ fd, FunD K "is_visited" "is_visited" (defArgs s_is_visited) (defBody s_is_visited) (defScope s_is_visited) [] [] (ga K "is_visited") fd := T.says.def_ 10 (d := dd_is_visited) rfl
theorem glo_taken_out (T : Tx K mg w) : mg "taken_out" = some (.ref (ga K "taken_out")) := by
  obtain ⟨h, X, G⟩ := T.ex
  exact He.glo_ok X G (T.says.fact 37 rfl)
theorem d_taken_out (T : Tx K mg w) : ∃ fd, FunD K "taken_out" "taken_out" (defArgs s_taken_out) (defBody s_taken_out) (defScope s_taken_out) [] [] (ga K "taken_out") fd := T.says.def_ 11 (d := dd_taken_out) rfl
theorem glo_level_order (T : Tx K mg w) : mg "level_order" = some (.ref (ga K "level_order")) := by
  obtain ⟨h, X, G⟩ := T.ex
  exact He.glo_ok X G (T.says.fact 38 rfl)
theorem d_level_order (T : Tx K mg w) : ∃ fd, FunD K "level_order" "level_order" (defArgs s_level_order) (defBody s_level_order) (defScope s_level_order) [] [] (ga K "level_order") fd := T.says.def_ 12 (d := dd_level_order) rfl
theorem glo_visited (T : Tx K mg w) : mg "visited" = some (.ref (ga K "visited")) := by
  obtain ⟨h, X, G⟩ := T.ex
  exact He.glo_ok X G (T.says.fact 39 rfl)
theorem d_visited (T : Tx K mg w) : ∃ fd, FunD K "visited" "visited" (defArgs s_visited) (defBody s_visited) (defScope s_visited) [] [] (ga K "visited") fd := T.says.def_ 13 (d := dd_visited) rfl
theorem glo_skipped (T : Tx K mg w) : mg "skipped" = some (.ref (ga K "skipped")) := by
  obtain ⟨h, X, G⟩ := T.ex
  exact He.glo_ok X G (T.says.fact 40 rfl)
theorem d_skipped (T : Tx K mg w) : ∃ fd, FunD K "skipped" "skipped" (defArgs s_skipped) (defBody s_skipped) (defScope s_skipped) [] [] (ga K "skipped") fd := T.says.def_ 14 (d := dd_skipped) rfl
theorem glo_shifted (T : Tx K mg w) : mg "shifted" = some (.ref (ga K "shifted")) := by
  obtain ⟨h, X, G⟩ := T.ex
  exact He.glo_ok X G (T.says.fact 41 rfl)
theorem d_shifted (T : Tx K mg w) : ∃ fd, FunD K "shifted" "shifted" (defArgs s_shifted) (defBody s_shifted) (defScope s_shifted) [] [] (ga K "shifted") fd := T.says.def_ 15 (d := dd_shifted) rfl
theorem glo_followed (T : Tx K mg w) : mg "followed" = some (.ref (ga K "followed")) := by
  obtain ⟨h, X, G⟩ := T.ex
  exact He.glo_ok X G (T.says.fact 42 rfl)
theorem d_followed (T : Tx K mg w) : ∃ fd, FunD K "followed" "followed" (defArgs s_followed) (defBody s_followed) (defScope s_followed) [] [] (ga K "followed") fd := T.says.def_ 16 (d := dd_followed) rfl
theorem glo_fire_tick (T : Tx K mg w) : mg "fire_tick" = some (.ref (ga K "fire_tick")) := by
  obtain ⟨h, X, G⟩ := T.ex
  exact He.glo_ok X G (T.says.fact 43 rfl)
theorem d_fire_tick (T : Tx K mg w) : ∃ fd, FunD K "fire_tick" "fire_tick" (defArgs s_fire_tick) (defBody s_fire_tick) (defScope s_fire_tick) [] [] (ga K "fire_tick") fd := T.says.def_ 17 (d := dd_fire_tick) rfl
theorem glo_moves (T : Tx K mg w) : mg "moves" = some (.ref (ga K "moves")) := by
  obtain ⟨h, X, G⟩ := T.ex
  exact He.glo_ok X G (T.says.fact 44 rfl)
theorem d_moves (T : Tx K mg w) : ∃ fd, FunD K "moves" "moves" (defArgs s_moves) (defBody s_moves) (defScope s_moves) [] [] (ga K "moves") fd := T.says.def_ 18 (d := dd_moves) rfl
theorem glo_journey (T : Tx K mg w) : mg "journey" = some (.ref (ga K "journey")) := by
  obtain ⟨h, X, G⟩ := T.ex
  exact He.glo_ok X G (T.says.fact 45 rfl)
theorem d_journey (T : Tx K mg w) : ∃ fd, FunD K "journey" "journey" (defArgs s_journey) (defBody s_journey) (defScope s_journey) [] [] (ga K "journey") fd := T.says.def_ 19 (d := dd_journey) rfl
theorem glo_is_within (T : Tx K mg w) : mg "is_within" = some (.ref (ga K "is_within")) := by
  obtain ⟨h, X, G⟩ := T.ex
  exact He.glo_ok X G (T.says.fact 46 rfl)
theorem d_is_within (T : Tx K mg w) : ∃ fd, FunD K "is_within" "is_within" (defArgs s_is_within) (defBody s_is_within) (defScope s_is_within) [] [] (ga K "is_within") fd := T.says.def_ 20 (d := dd_is_within) rfl
theorem glo_are_levels (T : Tx K mg w) : mg "are_levels" = some (.ref (ga K "are_levels")) := by
  obtain ⟨h, X, G⟩ := T.ex
  exact He.glo_ok X G (T.says.fact 47 rfl)
theorem d_are_levels (T : Tx K mg w) : ∃ fd, FunD K "are_levels" "are_levels" (defArgs s_are_levels) (defBody s_are_levels) (defScope s_are_levels) [] [] (ga K "are_levels") fd := T.says.def_ 21 (d := dd_are_levels) rfl
theorem glo__law_begin (T : Tx K mg w) : mg "_law_begin" = some (.ref (ga K "_law_begin")) := by
  obtain ⟨h, X, G⟩ := T.ex
  exact He.glo_ok X G (T.says.fact 48 rfl)
theorem d__law_begin (T : Tx K mg w) : ∃ fd, FunD K "_law_begin" "_law_begin" (defArgs s__law_begin) (defBody s__law_begin) (defScope s__law_begin) [] [] (ga K "_law_begin") fd := T.says.def_ 22 (d := dd__law_begin) rfl
theorem glo__law_mixed (T : Tx K mg w) : mg "_law_mixed" = some (.ref (ga K "_law_mixed")) := by
  obtain ⟨h, X, G⟩ := T.ex
  exact He.glo_ok X G (T.says.fact 49 rfl)
theorem d__law_mixed (T : Tx K mg w) : ∃ fd, FunD K "_law_mixed" "_law_mixed" (defArgs s__law_mixed) (defBody s__law_mixed) (defScope s__law_mixed) [] [] (ga K "_law_mixed") fd := T.says.def_ 23 (d := dd__law_mixed) rfl
theorem glo__law_draw (T : Tx K mg w) : mg "_law_draw" = some (.ref (ga K "_law_draw")) := by
  obtain ⟨h, X, G⟩ := T.ex
  exact He.glo_ok X G (T.says.fact 50 rfl)
theorem d__law_draw (T : Tx K mg w) : ∃ fd, FunD K "_law_draw" "_law_draw" (defArgs s__law_draw) (defBody s__law_draw) (defScope s__law_draw) [] [] (ga K "_law_draw") fd := T.says.def_ 24 (d := dd__law_draw) rfl
theorem glo__law_span (T : Tx K mg w) : mg "_law_span" = some (.ref (ga K "_law_span")) := by
  obtain ⟨h, X, G⟩ := T.ex
  exact He.glo_ok X G (T.says.fact 51 rfl)
theorem d__law_span (T : Tx K mg w) : ∃ fd, FunD K "_law_span" "_law_span" (defArgs s__law_span) (defBody s__law_span) (defScope s__law_span) [] [] (ga K "_law_span") fd := T.says.def_ 25 (d := dd__law_span) rfl
theorem glo__law_draw_rows (T : Tx K mg w) : mg "_law_draw_rows" = some (.ref (ga K "_law_draw_rows")) := by
  obtain ⟨h, X, G⟩ := T.ex
  exact He.glo_ok X G (T.says.fact 52 rfl)
theorem d__law_draw_rows (T : Tx K mg w) : ∃ fd, FunD K "_law_draw_rows" "_law_draw_rows" (defArgs s__law_draw_rows) (defBody s__law_draw_rows) (defScope s__law_draw_rows) [] [] (ga K "_law_draw_rows") fd := T.says.def_ 26 (d := dd__law_draw_rows) rfl
theorem glo__law_draw_values (T : Tx K mg w) : mg "_law_draw_values" = some (.ref (ga K "_law_draw_values")) := by
  obtain ⟨h, X, G⟩ := T.ex
  exact He.glo_ok X G (T.says.fact 53 rfl)
theorem d__law_draw_values (T : Tx K mg w) : ∃ fd, FunD K "_law_draw_values" "_law_draw_values" (defArgs s__law_draw_values) (defBody s__law_draw_values) (defScope s__law_draw_values) [] [] (ga K "_law_draw_values") fd := T.says.def_ 27 (d := dd__law_draw_values) rfl
theorem glo__law_wheel_of (T : Tx K mg w) : mg "_law_wheel_of" = some (.ref (ga K "_law_wheel_of")) := by
  obtain ⟨h, X, G⟩ := T.ex
  exact He.glo_ok X G (T.says.fact 54 rfl)
theorem d__law_wheel_of (T : Tx K mg w) : ∃ fd, FunD K "_law_wheel_of" "_law_wheel_of" (defArgs s__law_wheel_of) (defBody s__law_wheel_of) (defScope s__law_wheel_of) [] [] (ga K "_law_wheel_of") fd := T.says.def_ 28 (d := dd__law_wheel_of) rfl
theorem glo__law_made_wheel (T : Tx K mg w) : mg "_law_made_wheel" = some (.ref (ga K "_law_made_wheel")) := by
  obtain ⟨h, X, G⟩ := T.ex
  exact He.glo_ok X G (T.says.fact 55 rfl)
theorem d__law_made_wheel (T : Tx K mg w) : ∃ fd, FunD K "_law_made_wheel" "_law_made_wheel" (defArgs s__law_made_wheel) (defBody s__law_made_wheel) (defScope s__law_made_wheel) [] [] (ga K "_law_made_wheel") fd := T.says.def_ 29 (d := dd__law_made_wheel) rfl
theorem glo__law_made_book (T : Tx K mg w) : mg "_law_made_book" = some (.ref (ga K "_law_made_book")) := by
  obtain ⟨h, X, G⟩ := T.ex
  exact He.glo_ok X G (T.says.fact 56 rfl)
theorem d__law_made_book (T : Tx K mg w) : ∃ fd, FunD K "_law_made_book" "_law_made_book" (defArgs s__law_made_book) (defBody s__law_made_book) (defScope s__law_made_book) [] [] (ga K "_law_made_book") fd := T.says.def_ 30 (d := dd__law_made_book) rfl
theorem glo__law_turned (T : Tx K mg w) : mg "_law_turned" = some (.ref (ga K "_law_turned")) := by
  obtain ⟨h, X, G⟩ := T.ex
  exact He.glo_ok X G (T.says.fact 57 rfl)
theorem d__law_turned (T : Tx K mg w) : ∃ fd, FunD K "_law_turned" "_law_turned" (defArgs s__law_turned) (defBody s__law_turned) (defScope s__law_turned) [] [] (ga K "_law_turned") fd := T.says.def_ 31 (d := dd__law_turned) rfl
theorem glo__law_belongs (T : Tx K mg w) : mg "_law_belongs" = some (.ref (ga K "_law_belongs")) := by
  obtain ⟨h, X, G⟩ := T.ex
  exact He.glo_ok X G (T.says.fact 58 rfl)
theorem d__law_belongs (T : Tx K mg w) : ∃ fd, FunD K "_law_belongs" "_law_belongs" (defArgs s__law_belongs) (defBody s__law_belongs) (defScope s__law_belongs) [] [] (ga K "_law_belongs") fd := T.says.def_ 32 (d := dd__law_belongs) rfl
theorem glo__law_spot_at (T : Tx K mg w) : mg "_law_spot_at" = some (.ref (ga K "_law_spot_at")) := by
  obtain ⟨h, X, G⟩ := T.ex
  exact He.glo_ok X G (T.says.fact 59 rfl)
theorem d__law_spot_at (T : Tx K mg w) : ∃ fd, FunD K "_law_spot_at" "_law_spot_at" (defArgs s__law_spot_at) (defBody s__law_spot_at) (defScope s__law_spot_at) [] [] (ga K "_law_spot_at") fd := T.says.def_ 33 (d := dd__law_spot_at) rfl
theorem glo__law_next_right (T : Tx K mg w) : mg "_law_next_right" = some (.ref (ga K "_law_next_right")) := by
  obtain ⟨h, X, G⟩ := T.ex
  exact He.glo_ok X G (T.says.fact 60 rfl)
theorem d__law_next_right (T : Tx K mg w) : ∃ fd, FunD K "_law_next_right" "_law_next_right" (defArgs s__law_next_right) (defBody s__law_next_right) (defScope s__law_next_right) [] [] (ga K "_law_next_right") fd := T.says.def_ 34 (d := dd__law_next_right) rfl
theorem glo__law_far_right (T : Tx K mg w) : mg "_law_far_right" = some (.ref (ga K "_law_far_right")) := by
  obtain ⟨h, X, G⟩ := T.ex
  exact He.glo_ok X G (T.says.fact 61 rfl)
theorem d__law_far_right (T : Tx K mg w) : ∃ fd, FunD K "_law_far_right" "_law_far_right" (defArgs s__law_far_right) (defBody s__law_far_right) (defScope s__law_far_right) [] [] (ga K "_law_far_right") fd := T.says.def_ 35 (d := dd__law_far_right) rfl
theorem glo_law (T : Tx K mg w) : mg "law" = some (.ref (ga K "law")) := by
  obtain ⟨h, X, G⟩ := T.ex
  exact He.glo_ok X G (T.says.fact 62 rfl)
theorem d_law (T : Tx K mg w) : ∃ fd, FunD K "law" "law" (defArgs s_law) (defBody s_law) (defScope s_law) [] [] (ga K "law") fd := T.says.def_ 36 (d := dd_law) rfl
theorem glo_Level (T : Tx K mg w) : mg "Level" = some (.ref (ga K "Level")) := by
  obtain ⟨h, X, G⟩ := T.ex
  exact He.glo_ok X G (T.says.fact 63 rfl)
theorem cls_Level (T : Tx K mg w) : Cls K (ga K "Level") := by
  obtain ⟨h, X, G⟩ := T.ex
  exact He.cls_ok (T.says.fact 64 rfl)
theorem mk_Level (T : Tx K mg w) : Mk K (ga K "Level") (ma K (ga K "Level") "__init__") := by
  obtain ⟨h, X, G⟩ := T.ex
  exact He.mkr_ok (T.says.fact 65 rfl)
theorem isi_Level (T : Tx K mg w) : IsiC K (ga K "Level") := isi_ok ((T.says.bool 8 rfl))
theorem kit_Level (T : Tx K mg w) : kitOne K (.ref (ga K "Level")) (.ref (ga K "Level")) = some true := kit_ok (t := fun K => .ref (ga K "Level")) (c := fun K => .ref (ga K "Level")) ((T.says.bool 9 rfl))
theorem na_Level_kept_grain (T : Tx K mg w) : NoAttr K (ga K "Level") "kept_grain" := by
  obtain ⟨h, X, G⟩ := T.ex
  exact He.noat_ok (T.says.fact 66 rfl)
theorem na_Level_kept_slots (T : Tx K mg w) : NoAttr K (ga K "Level") "kept_slots" := by
  obtain ⟨h, X, G⟩ := T.ex
  exact He.noat_ok (T.says.fact 67 rfl)
theorem na_Level_kept_span (T : Tx K mg w) : NoAttr K (ga K "Level") "kept_span" := by
  obtain ⟨h, X, G⟩ := T.ex
  exact He.noat_ok (T.says.fact 68 rfl)
theorem fq_Level___init__ (T : Tx K mg w) : isFn K (.ref (ma K (ga K "Level") "__init__")) = true ∧ fnIn K (ma K (ga K "Level") "__init__") = true := He.ba ((T.says.bool 10 rfl))
theorem d_Level___init__ (T : Tx K mg w) : ∃ fd, FunD K "__init__" "Level.__init__" (defArgs s_Level___init__) (defBody s_Level___init__) (defScope s_Level___init__) [] [("span", V.non)] (ma K (ga K "Level") "__init__") fd := T.says.def_ 37 (d := dd_Level___init__) rfl
theorem pr_Level_grain (T : Tx K mg w) : PropOf K (ga K "Level") "grain" (ma K (ga K "Level") "grain") (pa K (ga K "Level") "grain") := prop_ok ((T.says.bool 11 rfl))
theorem d_Level_grain (T : Tx K mg w) : ∃ fd, FunD K "grain" "Level.grain" (defArgs s_Level_grain) (defBody s_Level_grain) (defScope s_Level_grain) [] [] (pa K (ga K "Level") "grain") fd := T.says.def_ 38 (d := dd_Level_grain) rfl
theorem pr_Level_slots (T : Tx K mg w) : PropOf K (ga K "Level") "slots" (ma K (ga K "Level") "slots") (pa K (ga K "Level") "slots") := prop_ok ((T.says.bool 12 rfl))
theorem d_Level_slots (T : Tx K mg w) : ∃ fd, FunD K "slots" "Level.slots" (defArgs s_Level_slots) (defBody s_Level_slots) (defScope s_Level_slots) [] [] (pa K (ga K "Level") "slots") fd := T.says.def_ 39 (d := dd_Level_slots) rfl
theorem pr_Level_span (T : Tx K mg w) : PropOf K (ga K "Level") "span" (ma K (ga K "Level") "span") (pa K (ga K "Level") "span") := prop_ok ((T.says.bool 13 rfl))
theorem d_Level_span (T : Tx K mg w) : ∃ fd, FunD K "span" "Level.span" (defArgs s_Level_span) (defBody s_Level_span) (defScope s_Level_span) [] [] (pa K (ga K "Level") "span") fd := T.says.def_ 40 (d := dd_Level_span) rfl
theorem me_Level___eq__ (T : Tx K mg w) : Meth K (ga K "Level") "__eq__" (ma K (ga K "Level") "__eq__") := by
  obtain ⟨h, X, G⟩ := T.ex
  exact He.meth_ok (T.says.fact 69 rfl)
theorem fq_Level___eq__ (T : Tx K mg w) : isFn K (.ref (ma K (ga K "Level") "__eq__")) = true ∧ fnIn K (ma K (ga K "Level") "__eq__") = true := He.ba ((T.says.bool 14 rfl))
theorem d_Level___eq__ (T : Tx K mg w) : ∃ fd, FunD K "__eq__" "Level.__eq__" (defArgs s_Level___eq__) (defBody s_Level___eq__) (defScope s_Level___eq__) [] [] (ma K (ga K "Level") "__eq__") fd := T.says.def_ 41 (d := dd_Level___eq__) rfl
theorem glo_Wheel (T : Tx K mg w) : mg "Wheel" = some (.ref (ga K "Wheel")) := by
  obtain ⟨h, X, G⟩ := T.ex
  exact He.glo_ok X G (T.says.fact 70 rfl)
theorem cls_Wheel (T : Tx K mg w) : Cls K (ga K "Wheel") := by
  obtain ⟨h, X, G⟩ := T.ex
  exact He.cls_ok (T.says.fact 71 rfl)
theorem mk_Wheel (T : Tx K mg w) : Mk K (ga K "Wheel") (ma K (ga K "Wheel") "__init__") := by
  obtain ⟨h, X, G⟩ := T.ex
  exact He.mkr_ok (T.says.fact 72 rfl)
theorem isi_Wheel (T : Tx K mg w) : IsiC K (ga K "Wheel") := isi_ok ((T.says.bool 15 rfl))
theorem kit_Wheel (T : Tx K mg w) : kitOne K (.ref (ga K "Wheel")) (.ref (ga K "Wheel")) = some true := kit_ok (t := fun K => .ref (ga K "Wheel")) (c := fun K => .ref (ga K "Wheel")) ((T.says.bool 16 rfl))
theorem na_Wheel_kept_levels (T : Tx K mg w) : NoAttr K (ga K "Wheel") "kept_levels" := by
  obtain ⟨h, X, G⟩ := T.ex
  exact He.noat_ok (T.says.fact 73 rfl)
theorem fq_Wheel___init__ (T : Tx K mg w) : isFn K (.ref (ma K (ga K "Wheel") "__init__")) = true ∧ fnIn K (ma K (ga K "Wheel") "__init__") = true := He.ba ((T.says.bool 17 rfl))
theorem d_Wheel___init__ (T : Tx K mg w) : ∃ fd, FunD K "__init__" "Wheel.__init__" (defArgs s_Wheel___init__) (defBody s_Wheel___init__) (defScope s_Wheel___init__) [] [] (ma K (ga K "Wheel") "__init__") fd := T.says.def_ 42 (d := dd_Wheel___init__) rfl
theorem pr_Wheel_levels (T : Tx K mg w) : PropOf K (ga K "Wheel") "levels" (ma K (ga K "Wheel") "levels") (pa K (ga K "Wheel") "levels") := prop_ok ((T.says.bool 18 rfl))
theorem d_Wheel_levels (T : Tx K mg w) : ∃ fd, FunD K "levels" "Wheel.levels" (defArgs s_Wheel_levels) (defBody s_Wheel_levels) (defScope s_Wheel_levels) [] [] (pa K (ga K "Wheel") "levels") fd := T.says.def_ 43 (d := dd_Wheel_levels) rfl
theorem pr_Wheel_reach (T : Tx K mg w) : PropOf K (ga K "Wheel") "reach" (ma K (ga K "Wheel") "reach") (pa K (ga K "Wheel") "reach") := prop_ok ((T.says.bool 19 rfl))
theorem d_Wheel_reach (T : Tx K mg w) : ∃ fd, FunD K "reach" "Wheel.reach" (defArgs s_Wheel_reach) (defBody s_Wheel_reach) (defScope s_Wheel_reach) [] [] (pa K (ga K "Wheel") "reach") fd := T.says.def_ 44 (d := dd_Wheel_reach) rfl
theorem me_Wheel___len__ (T : Tx K mg w) : Meth K (ga K "Wheel") "__len__" (ma K (ga K "Wheel") "__len__") := by
  obtain ⟨h, X, G⟩ := T.ex
  exact He.meth_ok (T.says.fact 74 rfl)
theorem fq_Wheel___len__ (T : Tx K mg w) : isFn K (.ref (ma K (ga K "Wheel") "__len__")) = true ∧ fnIn K (ma K (ga K "Wheel") "__len__") = true := He.ba ((T.says.bool 20 rfl))
theorem d_Wheel___len__ (T : Tx K mg w) : ∃ fd, FunD K "__len__" "Wheel.__len__" (defArgs s_Wheel___len__) (defBody s_Wheel___len__) (defScope s_Wheel___len__) [] [] (ma K (ga K "Wheel") "__len__") fd := T.says.def_ 45 (d := dd_Wheel___len__) rfl
theorem me_Wheel___getitem__ (T : Tx K mg w) : Meth K (ga K "Wheel") "__getitem__" (ma K (ga K "Wheel") "__getitem__") := by
  obtain ⟨h, X, G⟩ := T.ex
  exact He.meth_ok (T.says.fact 75 rfl)
theorem fq_Wheel___getitem__ (T : Tx K mg w) : isFn K (.ref (ma K (ga K "Wheel") "__getitem__")) = true ∧ fnIn K (ma K (ga K "Wheel") "__getitem__") = true := He.ba ((T.says.bool 21 rfl))
theorem d_Wheel___getitem__ (T : Tx K mg w) : ∃ fd, FunD K "__getitem__" "Wheel.__getitem__" (defArgs s_Wheel___getitem__) (defBody s_Wheel___getitem__) (defScope s_Wheel___getitem__) [] [] (ma K (ga K "Wheel") "__getitem__") fd := T.says.def_ 46 (d := dd_Wheel___getitem__) rfl
theorem me_Wheel___iter__ (T : Tx K mg w) : Meth K (ga K "Wheel") "__iter__" (ma K (ga K "Wheel") "__iter__") := by
  obtain ⟨h, X, G⟩ := T.ex
  exact He.meth_ok (T.says.fact 76 rfl)
theorem fq_Wheel___iter__ (T : Tx K mg w) : isFn K (.ref (ma K (ga K "Wheel") "__iter__")) = true ∧ fnIn K (ma K (ga K "Wheel") "__iter__") = true := He.ba ((T.says.bool 22 rfl))
theorem d_Wheel___iter__ (T : Tx K mg w) : ∃ fd, FunD K "__iter__" "Wheel.__iter__" (defArgs s_Wheel___iter__) (defBody s_Wheel___iter__) (defScope s_Wheel___iter__) [] [] (ma K (ga K "Wheel") "__iter__") fd := T.says.def_ 47 (d := dd_Wheel___iter__) rfl
theorem me_Wheel___contains__ (T : Tx K mg w) : Meth K (ga K "Wheel") "__contains__" (ma K (ga K "Wheel") "__contains__") := by
  obtain ⟨h, X, G⟩ := T.ex
  exact He.meth_ok (T.says.fact 77 rfl)
theorem fq_Wheel___contains__ (T : Tx K mg w) : isFn K (.ref (ma K (ga K "Wheel") "__contains__")) = true ∧ fnIn K (ma K (ga K "Wheel") "__contains__") = true := He.ba ((T.says.bool 23 rfl))
theorem d_Wheel___contains__ (T : Tx K mg w) : ∃ fd, FunD K "__contains__" "Wheel.__contains__" (defArgs s_Wheel___contains__) (defBody s_Wheel___contains__) (defScope s_Wheel___contains__) [] [] (ma K (ga K "Wheel") "__contains__") fd := T.says.def_ 48 (d := dd_Wheel___contains__) rfl
theorem me_Wheel___eq__ (T : Tx K mg w) : Meth K (ga K "Wheel") "__eq__" (ma K (ga K "Wheel") "__eq__") := by
  obtain ⟨h, X, G⟩ := T.ex
  exact He.meth_ok (T.says.fact 78 rfl)
theorem fq_Wheel___eq__ (T : Tx K mg w) : isFn K (.ref (ma K (ga K "Wheel") "__eq__")) = true ∧ fnIn K (ma K (ga K "Wheel") "__eq__") = true := He.ba ((T.says.bool 24 rfl))
theorem d_Wheel___eq__ (T : Tx K mg w) : ∃ fd, FunD K "__eq__" "Wheel.__eq__" (defArgs s_Wheel___eq__) (defBody s_Wheel___eq__) (defScope s_Wheel___eq__) [] [] (ma K (ga K "Wheel") "__eq__") fd := T.says.def_ 49 (d := dd_Wheel___eq__) rfl
theorem me_Wheel_level_of (T : Tx K mg w) : Meth K (ga K "Wheel") "level_of" (ma K (ga K "Wheel") "level_of") := by
  obtain ⟨h, X, G⟩ := T.ex
  exact He.meth_ok (T.says.fact 79 rfl)
theorem fq_Wheel_level_of (T : Tx K mg w) : isFn K (.ref (ma K (ga K "Wheel") "level_of")) = true ∧ fnIn K (ma K (ga K "Wheel") "level_of") = true := He.ba ((T.says.bool 25 rfl))
theorem d_Wheel_level_of (T : Tx K mg w) : ∃ fd, FunD K "level_of" "Wheel.level_of" (defArgs s_Wheel_level_of) (defBody s_Wheel_level_of) (defScope s_Wheel_level_of) [] [] (ma K (ga K "Wheel") "level_of") fd := T.says.def_ 50 (d := dd_Wheel_level_of) rfl
theorem glo_Book (T : Tx K mg w) : mg "Book" = some (.ref (ga K "Book")) := by
  obtain ⟨h, X, G⟩ := T.ex
  exact He.glo_ok X G (T.says.fact 80 rfl)
theorem cls_Book (T : Tx K mg w) : Cls K (ga K "Book") := by
  obtain ⟨h, X, G⟩ := T.ex
  exact He.cls_ok (T.says.fact 81 rfl)
theorem mk_Book (T : Tx K mg w) : Mk K (ga K "Book") (ma K (ga K "Book") "__init__") := by
  obtain ⟨h, X, G⟩ := T.ex
  exact He.mkr_ok (T.says.fact 82 rfl)
theorem isi_Book (T : Tx K mg w) : IsiC K (ga K "Book") := isi_ok ((T.says.bool 26 rfl))
theorem kit_Book (T : Tx K mg w) : kitOne K (.ref (ga K "Book")) (.ref (ga K "Book")) = some true := kit_ok (t := fun K => .ref (ga K "Book")) (c := fun K => .ref (ga K "Book")) ((T.says.bool 27 rfl))
theorem na_Book_kept_values (T : Tx K mg w) : NoAttr K (ga K "Book") "kept_values" := by
  obtain ⟨h, X, G⟩ := T.ex
  exact He.noat_ok (T.says.fact 83 rfl)
theorem fq_Book___init__ (T : Tx K mg w) : isFn K (.ref (ma K (ga K "Book") "__init__")) = true ∧ fnIn K (ma K (ga K "Book") "__init__") = true := He.ba ((T.says.bool 28 rfl))
theorem d_Book___init__ (T : Tx K mg w) : ∃ fd, FunD K "__init__" "Book.__init__" (defArgs s_Book___init__) (defBody s_Book___init__) (defScope s_Book___init__) [] [("rounding", V.str "down"), ("action", V.str "move"), ("order", V.str "high"), ("due", V.str "now"), ("zero", V.str "one"), ("beyond", V.str "refuse")] (ma K (ga K "Book") "__init__") fd := T.says.def_ 51 (d := dd_Book___init__) rfl
theorem pr_Book_rounding (T : Tx K mg w) : PropOf K (ga K "Book") "rounding" (ma K (ga K "Book") "rounding") (pa K (ga K "Book") "rounding") := prop_ok ((T.says.bool 29 rfl))
theorem d_Book_rounding (T : Tx K mg w) : ∃ fd, FunD K "rounding" "Book.rounding" (defArgs s_Book_rounding) (defBody s_Book_rounding) (defScope s_Book_rounding) [] [] (pa K (ga K "Book") "rounding") fd := T.says.def_ 52 (d := dd_Book_rounding) rfl
theorem pr_Book_action (T : Tx K mg w) : PropOf K (ga K "Book") "action" (ma K (ga K "Book") "action") (pa K (ga K "Book") "action") := prop_ok ((T.says.bool 30 rfl))
theorem d_Book_action (T : Tx K mg w) : ∃ fd, FunD K "action" "Book.action" (defArgs s_Book_action) (defBody s_Book_action) (defScope s_Book_action) [] [] (pa K (ga K "Book") "action") fd := T.says.def_ 53 (d := dd_Book_action) rfl
theorem pr_Book_order (T : Tx K mg w) : PropOf K (ga K "Book") "order" (ma K (ga K "Book") "order") (pa K (ga K "Book") "order") := prop_ok ((T.says.bool 31 rfl))
theorem d_Book_order (T : Tx K mg w) : ∃ fd, FunD K "order" "Book.order" (defArgs s_Book_order) (defBody s_Book_order) (defScope s_Book_order) [] [] (pa K (ga K "Book") "order") fd := T.says.def_ 54 (d := dd_Book_order) rfl
theorem pr_Book_due (T : Tx K mg w) : PropOf K (ga K "Book") "due" (ma K (ga K "Book") "due") (pa K (ga K "Book") "due") := prop_ok ((T.says.bool 32 rfl))
theorem d_Book_due (T : Tx K mg w) : ∃ fd, FunD K "due" "Book.due" (defArgs s_Book_due) (defBody s_Book_due) (defScope s_Book_due) [] [] (pa K (ga K "Book") "due") fd := T.says.def_ 55 (d := dd_Book_due) rfl
theorem pr_Book_zero (T : Tx K mg w) : PropOf K (ga K "Book") "zero" (ma K (ga K "Book") "zero") (pa K (ga K "Book") "zero") := prop_ok ((T.says.bool 33 rfl))
theorem d_Book_zero (T : Tx K mg w) : ∃ fd, FunD K "zero" "Book.zero" (defArgs s_Book_zero) (defBody s_Book_zero) (defScope s_Book_zero) [] [] (pa K (ga K "Book") "zero") fd := T.says.def_ 56 (d := dd_Book_zero) rfl
theorem pr_Book_beyond (T : Tx K mg w) : PropOf K (ga K "Book") "beyond" (ma K (ga K "Book") "beyond") (pa K (ga K "Book") "beyond") := prop_ok ((T.says.bool 34 rfl))
theorem d_Book_beyond (T : Tx K mg w) : ∃ fd, FunD K "beyond" "Book.beyond" (defArgs s_Book_beyond) (defBody s_Book_beyond) (defScope s_Book_beyond) [] [] (pa K (ga K "Book") "beyond") fd := T.says.def_ 57 (d := dd_Book_beyond) rfl
theorem pr_Book_text (T : Tx K mg w) : PropOf K (ga K "Book") "text" (ma K (ga K "Book") "text") (pa K (ga K "Book") "text") := prop_ok ((T.says.bool 35 rfl))
theorem d_Book_text (T : Tx K mg w) : ∃ fd, FunD K "text" "Book.text" (defArgs s_Book_text) (defBody s_Book_text) (defScope s_Book_text) [] [] (pa K (ga K "Book") "text") fd := T.says.def_ 58 (d := dd_Book_text) rfl
theorem me_Book___eq__ (T : Tx K mg w) : Meth K (ga K "Book") "__eq__" (ma K (ga K "Book") "__eq__") := by
  obtain ⟨h, X, G⟩ := T.ex
  exact He.meth_ok (T.says.fact 84 rfl)
theorem fq_Book___eq__ (T : Tx K mg w) : isFn K (.ref (ma K (ga K "Book") "__eq__")) = true ∧ fnIn K (ma K (ga K "Book") "__eq__") = true := He.ba ((T.says.bool 36 rfl))
theorem d_Book___eq__ (T : Tx K mg w) : ∃ fd, FunD K "__eq__" "Book.__eq__" (defArgs s_Book___eq__) (defBody s_Book___eq__) (defScope s_Book___eq__) [] [] (ma K (ga K "Book") "__eq__") fd := T.says.def_ 59 (d := dd_Book___eq__) rfl
theorem me_Book___getitem__ (T : Tx K mg w) : Meth K (ga K "Book") "__getitem__" (ma K (ga K "Book") "__getitem__") := by
  obtain ⟨h, X, G⟩ := T.ex
  exact He.meth_ok (T.says.fact 85 rfl)
theorem fq_Book___getitem__ (T : Tx K mg w) : isFn K (.ref (ma K (ga K "Book") "__getitem__")) = true ∧ fnIn K (ma K (ga K "Book") "__getitem__") = true := He.ba ((T.says.bool 37 rfl))
theorem d_Book___getitem__ (T : Tx K mg w) : ∃ fd, FunD K "__getitem__" "Book.__getitem__" (defArgs s_Book___getitem__) (defBody s_Book___getitem__) (defScope s_Book___getitem__) [] [] (ma K (ga K "Book") "__getitem__") fd := T.says.def_ 60 (d := dd_Book___getitem__) rfl
theorem me_Book___iter__ (T : Tx K mg w) : Meth K (ga K "Book") "__iter__" (ma K (ga K "Book") "__iter__") := by
  obtain ⟨h, X, G⟩ := T.ex
  exact He.meth_ok (T.says.fact 86 rfl)
theorem fq_Book___iter__ (T : Tx K mg w) : isFn K (.ref (ma K (ga K "Book") "__iter__")) = true ∧ fnIn K (ma K (ga K "Book") "__iter__") = true := He.ba ((T.says.bool 38 rfl))
theorem d_Book___iter__ (T : Tx K mg w) : ∃ fd, FunD K "__iter__" "Book.__iter__" (defArgs s_Book___iter__) (defBody s_Book___iter__) (defScope s_Book___iter__) [] [] (ma K (ga K "Book") "__iter__") fd := T.says.def_ 61 (d := dd_Book___iter__) rfl
theorem me_Book___contains__ (T : Tx K mg w) : Meth K (ga K "Book") "__contains__" (ma K (ga K "Book") "__contains__") := by
  obtain ⟨h, X, G⟩ := T.ex
  exact He.meth_ok (T.says.fact 87 rfl)
theorem fq_Book___contains__ (T : Tx K mg w) : isFn K (.ref (ma K (ga K "Book") "__contains__")) = true ∧ fnIn K (ma K (ga K "Book") "__contains__") = true := He.ba ((T.says.bool 39 rfl))
theorem d_Book___contains__ (T : Tx K mg w) : ∃ fd, FunD K "__contains__" "Book.__contains__" (defArgs s_Book___contains__) (defBody s_Book___contains__) (defScope s_Book___contains__) [] [] (ma K (ga K "Book") "__contains__") fd := T.says.def_ 62 (d := dd_Book___contains__) rfl
theorem cm_Book_from_text (T : Tx K mg w) : ClX.CMet K (ga K "Book") (.type "type") "from_text" (ma K (ga K "Book") "from_text") (He5.wf K (ga K "Book") "classmethod" "from_text") := cm_ok ((T.says.bool 40 rfl))
theorem cr_Book (T : Tx K mg w) : ClX.CRead K (ga K "Book") (.type "type") := cread_ok ((T.says.bool 41 rfl))
theorem d_Book_from_text (T : Tx K mg w) : ∃ fd, FunD K "from_text" "Book.from_text" (defArgs s_Book_from_text) (defBody s_Book_from_text) (defScope s_Book_from_text) [] [] (He5.wf K (ga K "Book") "classmethod" "from_text") fd := T.says.def_ 63 (d := dd_Book_from_text) rfl
end
def spLaw (K : Frag) : Sp := fun vs H Q _ => ∃ (a : Addr) (ns : List Int), vs = [.ref a] ∧ SqL K H a (ns.map V.int) ∧ ns.length ≤ 63 ∧ ∀ H', Q (.bl true) H'
end Hd
section
open PySem PySem.W PySem.Calls PyProof.Rows
theorem Hd.holds {k : Nat} {CX : L2.CXT} (hCX : ∀ (H : L2.Hp) (s : Shared) (e : Value) (s' : Shared), CX [] H s (fun _ _ _ => False) e s' → False) (hr : L2.Room k callerA)
    (F : ∀ (K : Frag) (mg : PySem.Str → Option Value) (w : World) (base : Heap) (fd : FuncData), Hd.Tx K mg w → L2.FunD K "law" "law" (L2.defArgs Hd.s_law) (L2.defBody Hd.s_law) (L2.defScope Hd.s_law) [] [] (He.ga K "law") fd →
      L2.FnOk (PySem.Challenge.rw_timerwheels_k32_whole_journeys).prog w K mg base CX k (He.ga K "law") fd ["_law_script"] (Hd.spLaw K)) : PySem.Challenge.rw_timerwheels_k32_whole_journeys.Holds := by
  w_on; o_law
  refine HandSHeadRun.head_any (r := OpenLaw.row PySem.Challenge.rw_timerwheels_k32_whole_journeys) (q := view (OpenLaw.row PySem.Challenge.rw_timerwheels_k32_whole_journeys).prog [60]) (H := Hd.hk) (ob := Hd.ob) (M := 6146) (loose := Hd.loose) (d := HandSHeadRun.topDef (OpenLaw.row PySem.Challenge.rw_timerwheels_k32_whole_journeys).prog 60) (kwd := []) Hd.ob_eq
    (by kernel_rfl) (fun s => by kernel_rfl) Hd.run (by kernel_rfl) (by kernel_rfl) (by kernel_rfl) (by rfl) (by first | assumption | decide +kernel) (by decide +kernel) ⟨rfl, rfl, rfl, rfl, rfl, by decide +kernel⟩ ?hw ?hc
  case hw => w_witness2
  case hc =>
    refine L2.walk_ofE (l := PySem.Challenge.rw_timerwheels_k32_whole_journeys) (n := 63) (k := k) (x := "_law_script") (CX := CX) rfl (by decide) (by kernel_rfl) hr ?F hCX
    intro w mg fa h Y G hmg0
    obtain ⟨K, KX, c⟩ := Y
    have hmg : mg ("law" : PySem.Str) = some (.ref fa) := by
      have e : (HandSHeadRun.topDef (OpenLaw.row PySem.Challenge.rw_timerwheels_k32_whole_journeys).prog 60).name = ("law" : PySem.Str) := by kernel_rfl
      rw [← e]
      exact hmg0
    have T : Hd.Tx K mg w := ⟨⟨h, KX, G⟩, c⟩
    have e := hmg.symm.trans (Hd.glo_law T)
    cases e
    obtain ⟨fd, D⟩ := Hd.d_law T
    have b := L2.FunD.bindsA (ps := ["_law_script"]) D fun _ _ _ _ _ _ us hl => match us, hl with | [_], _ => rfl
    exact ⟨K, fd, Hd.spLaw K, KX, fun s v => b s [v] rfl, fun H a ns hl _ hS => ⟨a, ns, rfl, hS, hl, fun _ => rfl⟩, fun base _ _ => F K mg w base fd T D⟩
end
/-! Tw: rules of our own beside the hand layer's -/
namespace Tw
open PySem PySem.Spec PyProof.Rows L2

theorem Same.new {H : Hp} {p : Addr} {o : HO} (h : H p = none) : Same H (upd H p o) := fun a u e => by
  rw [upd_ne (ne_of_none e h)]
  exact e
theorem Same.tup {K : PySem.W.Frag} {H H' : Hp} {a : Addr} {xs : List V} (e : Same H H') (h : SqT K H a xs) : SqT K H' a xs := by
  rcases h with (h | ⟨o, h⟩) | h
  · exact .inl (.inl (e _ _ h))
  · exact .inl (.inr ⟨o, e _ _ h⟩)
  · exact .inr h

section
variable {P : Program} {w : World} {K : PySem.W.Frag} {mg : Str → Option Value} {base : Heap} {CX : CXT} {k : Nat} {f : Addr} {fd : FuncData} {ps : List Str} {sp : Sp}
theorem fnR_of (F : FnOk P w K mg base CX k f fd ps sp) (b : Binds K fd ps []) : FnR P w K mg base CX k f sp :=
  (F.raw b .nil).imp fun vs H Q E h => by
    show sp (vs ++ []) H Q E
    rw [List.append_nil]
    exact h
end

/-- a def of the module, called: its promise at the arguments -/
def tFn (sp : Sp) (E : XK) (t : TA) : TE := fun σ H Q => t σ H fun vs H1 => sp vs H1 Q E
section
variable {X : Cx} {CX : CXT} {k : Nat} {f C g : Addr} {sp : Sp} {E : XK} {x m : Str} {e o : Expr} {es : List Expr} {ta te : TE} {t : TA} {p pos apos : Pos}
theorem pe_fn (F : FnR X.prog X.w X.K X.mg X.base CX k f sp) (hr : Room k X.A) (hg : Gl X x) (hm : X.mg x = some (.ref f)) (hk : PySem.W.keepIn X.K (.ref f) = true) (hx : Passes CX X E) (ha : PA X (e :: es) t)
    (hdb : (x == ("__debug__" : Str)) = false := by decide) (he : starEach (e :: es) X.env = (false, eval e X.env) :: starEach es X.env := by rfl)
    (hpl : (backTo pos (starEach es X.env)).any (·.1) = false := by rfl) : PE X (.Call (.Name x p) (e :: es) [] pos) (tFn sp E t) := ⟨fun pins s σ H Q I h =>
  wpAny_Call_Name_kw (ld_glob I hg hm (PySem.W.callWith_K (h₀ := X.base) I.ok.mod.kin hk
    (thn (ha.run pos pins s σ H _ I h) fun us s1 ⟨vs, H1, I1, r, q⟩ => ⟨I1.kIn, wpAny_call (run_fnR F hr hx I1 r q)⟩) he hpl) hdb)⟩
theorem pe_fn0 (F : FnR X.prog X.w X.K X.mg X.base CX k f sp) (hr : Room k X.A) (hg : Gl X x) (hm : X.mg x = some (.ref f)) (hk : PySem.W.keepIn X.K (.ref f) = true) (hx : Passes CX X E)
    (hdb : (x == ("__debug__" : Str)) = false := by decide) : PE X (.Call (.Name x p) [] [] pos) (tFn sp E tNil) := ⟨fun pins s σ H Q I h =>
  wpAny_Call_Name_kw (ld_glob I hg hm (PySem.W.callWith_K0 I.kIn hk (wpAny_call (run_fnR (us := []) (vs := []) F hr hx I .nil h))) hdb)⟩

/-- len(o), o of a class with its own __len__ -/
def rLenO (C : Addr) (sp : Sp) (E : XK) : List V → Hp → VK → Prop := fun xs H Q => ∃ a dx fs, xs = [.ref a] ∧ H a = some (.ins C dx fs) ∧
  sp [.ref a] H (fun v H' => ∃ n : Int, v = .int n ∧ 0 ≤ n ∧ n < 2 ^ 63 ∧ Q (.int n) H') E
theorem call_lenO (hs : PySem.W.findIn X.K (.ref C) "__len__" = some (some (.ref g))) (hf : PySem.W.isFn X.K (.ref g) = true) (F : FnR X.prog X.w X.K X.mg X.base CX k g sp) (hr : Room (k + 1) X.A) (hx : Passes CX X E) :
    CallR X (.builtin "len") (rLenO C sp E) := by
  intro pins s σ H xs us Q I r h
  obtain ⟨a, dx, fs, rfl, ea, q⟩ := h
  obtain ⟨u, rfl, ru⟩ := r.one
  cases (show u = Value.ref a from ru)
  obtain ⟨mA, O, _⟩ := ins_get I.hok ea
  obtain ⟨od, J, _⟩ := O.look
  obtain ⟨m, hF⟩ := I.fr
  refine PySem.W.len_K hF I.ok.mod.kin J hs hf (wpAny_mono (wpAny_call (SlX.run_at (us := [.ref a]) (ws := [.ref a]) F hr.in1 I.env0.in1 hx I (.cons rfl .nil) q)) (fun w s' z => ?_) fun _ _ x => x)
  obtain ⟨z', H', I', rz, n, ez, h0, h1, qz⟩ := z
  subst ez
  obtain ⟨t, e⟩ := (show ∃ t, w = Value.int n t from rz)
  subst e
  exact ⟨⟨h0, h1⟩, .int n, H', I'.tok _, ⟨_, rfl⟩, qz⟩

/-- o[i], o of a class with its own __getitem__ -/
def rIxO (C : Addr) (sp : Sp) (E : XK) : R2 := fun x y H Q => ∃ a dx fs, x = .ref a ∧ H a = some (.ins C dx fs) ∧ sp [.ref a, y] H Q E
theorem pe_ixO {a b : Expr} {tb : TE} (hs : PySem.W.findIn X.K (.ref C) "__getitem__" = some (some (.ref g))) (hf : PySem.W.isFn X.K (.ref g) = true) (hn : PySem.W.fnIn X.K g = true) (F : FnR X.prog X.w X.K X.mg X.base CX k g sp) (hr : Room (k + 1) X.A) (hx : Passes CX X E)
    (ha : PE X a ta) (hb : PE X b tb) (hsl : ∀ u v, subscripted b true u v = runValue (.builtin "lifetime.subscript" ⟨[u, v], []⟩) := by intro _ _; with_unfolding_all rfl) : PE X (.Subscript a b pos) (tOp (rIxO C sp E) ta tb) := by
  refine ⟨fun pins s σ H Q I h => ?_⟩
  refine Subscript_ (binT ha hb I h fun v u s2 x y H2 I2 rx ry q => ?_)
  obtain ⟨c, dx, fs, rfl, ec, q⟩ := q
  cases (show v = Value.ref c from rx)
  obtain ⟨mA, O, _⟩ := ins_get I2.hok ec
  obtain ⟨od, J, _⟩ := O.look
  obtain ⟨m, hF⟩ := I2.fr
  refine PySem.W.sub_K hF I2.ok.mod.kin J hs hn hf (wpAny_call (SlX.run_at (us := [.ref c, u]) (ws := [.ref c, y]) F hr.in1 I2.env0.in1 hx I2 (.cons rfl (.cons ry .nil)) q)) (hsl _ _)
/-! tracked sequences, read -/
def rIxLH : R2 := fun x y H Q => ∃ p xs i v, x = .ref p ∧ y = .int i ∧ H p = some (.lst xs) ∧ atI xs i = some v ∧ Q v H
def rIxTH : R2 := fun x y H Q => ∃ p xs i v, x = .ref p ∧ y = .int i ∧ H p = some (.tup xs) ∧ atI xs i = some v ∧ Q v H
theorem ix_lstH : IxR X rIxLH := fun value slice pins s σ H x y v u Q I rx ry ⟨p, xs, i, z, e1, e2, h, e3, q⟩ hs => ix_list value slice pins s σ H x y v u Q I rx ry ⟨p, xs, i, z, e1, e2, SqL.of h, e3, q⟩ hs
theorem ix_tupH : IxR X rIxTH := fun value slice pins s σ H x y v u Q I rx ry ⟨p, xs, i, z, e1, e2, h, e3, q⟩ hs => ix_tup value slice pins s σ H x y v u Q I rx ry ⟨p, xs, i, z, e1, e2, SqT.of h, e3, q⟩ hs
def rLenLH : List V → Hp → VK → Prop := fun xs H Q => ∃ p ys, xs = [.ref p] ∧ H p = some (.lst ys) ∧ Q (.int ys.length) H
def rLenTH : List V → Hp → VK → Prop := fun xs H Q => ∃ p ys, xs = [.ref p] ∧ H p = some (.tup ys) ∧ Q (.int ys.length) H
theorem call_lenL : CallR X (.builtin "len") rLenLH := fun pins s σ H xs us Q I r ⟨p, ys, e, h, q⟩ => call_len_seq pins s σ H xs us Q I r ⟨p, ys, e, .inl (SqL.of h), q⟩
theorem call_lenT : CallR X (.builtin "len") rLenTH := fun pins s σ H xs us Q I r ⟨p, ys, e, h, q⟩ => call_len_seq pins s σ H xs us Q I r ⟨p, ys, e, .inr (SqT.of h), q⟩
/-- what the promise says of its first argument: an instance of C -/
def InsAt (C : Addr) (sp : Sp) : Prop := ∀ vs H Q E, sp vs H Q E → ∃ (a dx : Addr) (fs : List (Str × V)) (r : List V), vs = .ref a :: r ∧ H a = some (.ins C dx fs)
/-- o.f, a property -/
theorem pe_propF {f : Str} {pr : Addr} (he : PE X e ta) (c : Cls X.K C) (hp : PropOf X.K C f pr g) (F : FnR X.prog X.w X.K X.mg X.base CX k g sp) (hr : Room (k + 1) X.A) (hx : Passes CX X.nox E) (hi : InsAt C sp)
    (hab : attributeBase e f X.env (eval e X.env) = eval e X.env := by rfl) : PE X (.Attribute e f pos) (tFn sp E (tCons ta tNil)) := by
  refine ⟨fun pins s σ H Q I h => attr_of hab (thn (he.run pins s σ H _ I h) fun u s1 ⟨x, H1, I1, rx, q⟩ => ?_)⟩
  obtain ⟨a, dx, fs, r, e1, ea⟩ := hi _ _ _ _ q
  cases e1
  cases (show u = Value.ref a from rx)
  obtain ⟨mA, O, _⟩ := ins_get I1.hok ea
  obtain ⟨od, J, _⟩ := O.look
  obtain ⟨rest, hrec⟩ := hp.rec_
  have hc : (PySem.W.clsIn X.K C).isSome = true := by
    obtain ⟨cd, hc, _⟩ := PySem.W.any_some c.hd
    rw [hc]
    rfl
  have I2 := I1.tok (s1.toks + 1)
  refine PySem.W.get_bind I1.kIn J (PySem.W.plainGet_of (c.get f)).1 (PySem.W.findObj_data hc hp.at_ hp.get hp.tak) (PySem.W.plainGet_of (c.get f)).2
    (wpAny_call (PySem.W.prop_get (s := { s1 with toks := s1.toks + 1 }) I2.kIn hrec (codeAny_mono (F X.A.in1 X.stack _ H1 [.ref a] [.ref a] Q E hr.in1 I2.env0.in1 (.cons rfl .nil) q) fun r s' hq => ?_)))
  cases r with
  | error er => exact False.elim (hx pins σ H1 _ er s' (I2.wish _) hq)
  | ok fl =>
    cases fl with
    | ret u =>
      obtain ⟨v, H', I3, rv, q3⟩ := I2.after hq
      show wpAny _ _ (handedOut u) _ _ _
      rw [PySem.W.handedOut_of (handed_of rv)]
      exact wpAny_pure ⟨v, H', I3, rv, q3⟩
    | next => exact False.elim hq
    | brk => exact False.elim hq
    | cont => exact False.elim hq
/-- o[i] -/
theorem pe_ixF {a b : Expr} {tb : TE} (hs : PySem.W.findIn X.K (.ref C) "__getitem__" = some (some (.ref g))) (hf : PySem.W.isFn X.K (.ref g) = true) (hn : PySem.W.fnIn X.K g = true) (F : FnR X.prog X.w X.K X.mg X.base CX k g sp) (hr : Room (k + 1) X.A) (hx : Passes CX X E) (hi : InsAt C sp)
    (ha : PE X a ta) (hb : PE X b tb) (hsl : ∀ u v, subscripted b true u v = runValue (.builtin "lifetime.subscript" ⟨[u, v], []⟩) := by intro _ _; with_unfolding_all rfl) : PE X (.Subscript a b pos) (tFn sp E (tCons ta (tCons tb tNil))) := by
  refine ⟨fun pins s σ H Q I h => Subscript_ (binT ha hb I h fun v u s2 x y H2 I2 rx ry q => ?_)⟩
  obtain ⟨c, dx, fs, r, e1, ec⟩ := hi _ _ _ _ q
  cases e1
  cases (show v = Value.ref c from rx)
  obtain ⟨mA, O, _⟩ := ins_get I2.hok ec
  obtain ⟨od, J, _⟩ := O.look
  obtain ⟨m, hF⟩ := I2.fr
  exact PySem.W.sub_K hF I2.ok.mod.kin J hs hn hf (wpAny_call (SlX.run_at (us := [.ref c, u]) (ws := [.ref c, y]) F hr.in1 I2.env0.in1 hx I2 (.cons rfl (.cons ry .nil)) q)) (hsl _ _)
/-- len(o) -/
def rLenF (sp : Sp) (E : XK) : List V → Hp → VK → Prop := fun xs H Q => sp xs H (fun v H' => ∃ n : Int, v = .int n ∧ 0 ≤ n ∧ n < 2 ^ 63 ∧ Q (.int n) H') E
theorem call_lenF (hs : PySem.W.findIn X.K (.ref C) "__len__" = some (some (.ref g))) (hf : PySem.W.isFn X.K (.ref g) = true) (F : FnR X.prog X.w X.K X.mg X.base CX k g sp) (hr : Room (k + 1) X.A) (hx : Passes CX X E) (hi : InsAt C sp)
    (h1 : ∀ vs H Q E, sp vs H Q E → vs.length = 1) : CallR X (.builtin "len") (rLenF sp E) := by
  intro pins s σ H xs us Q I r h
  obtain ⟨a, dx, fs, r1, e1, ea⟩ := hi _ _ _ _ h
  have hl := h1 _ _ _ _ h
  subst e1
  have er : r1 = [] := List.eq_nil_of_length_eq_zero (Nat.succ.inj hl)
  subst er
  exact call_lenO hs hf F hr hx pins s σ H _ us Q I r ⟨a, dx, fs, rfl, ea, h⟩
end
end Tw
/-! Tw: more rules -/
namespace Tw
open PySem PySem.Spec PyProof.Rows L2 StX
section
variable {X : Cx} {CX : CXT} {k : Nat} {f C : Addr} {sp : Sp} {E : XK} {x : Str} {p pos : Pos}
/-- C(), no arguments -/
theorem pe_makeR0 (M : Mk X.K C f) (F : FnR X.prog X.w X.K X.mg X.base CX k f sp) (hr : Room (k + 1) X.A) (hg : Gl X x) (hm : X.mg x = some (.ref C)) (hx : Passes CX X E)
    (hdb : (x == ("__debug__" : Str)) = false := by decide) : PE X (.Call (.Name x p) [] [] pos) (tMakeR C sp E tNil) := ⟨fun pins s σ H Q I h =>
  wpAny_Call_Name_kw (ld_glob I hg hm (PySem.W.callWith_K0 I.kIn M.kp (run_makeR (us := []) (vs := []) M F hr hx I .nil h)) hdb)⟩
end
end Tw
namespace Tw
open PySem PySem.Spec PyProof.Rows L2
theorem ul {k : Nat} {A : Around} (hr : Room k A) : A.units + 64 < cLine := by have := hr.un; omega
end Tw
/-! Tw: enumerate(tuple); zip(tuple, list) -/
namespace Tw
open PySem PySem.Spec PyProof.Rows L2 PySem.W
open AutoSeq1 (wpAny_loadPart')

theorem enumT_new (t : Addr) (items : Array Value) :
    Meets (Builtin.«enumerate.__new__» ⟨[.type "enumerate", .ref t], []⟩) (fun _ R s => s.heap.IsTuple t items ∧
      R (.ok (.ret (.ref (s.heap.push { cls := .type "tuple_iterator", data := .fields #[.ref t, .int 0 0] }).objs.size)))
        { s with heap := (s.heap.push { cls := .type "tuple_iterator", data := .fields #[.ref t, .int 0 0] }).push { cls := .type "enumerate", data := .fields #[.none, .bool false, .ref s.heap.objs.size, rawInt 0, .none, .none] } }) := by
  refine .of_wp fun prog w A R s h => ?_
  obtain ⟨hp, g, d, tk, os⟩ := s
  obtain ⟨hT, h⟩ := h
  have hT' : Heap.IsTuple (Shared.heap ⟨hp, g, d, tk, os⟩) t items := hT
  obtain ⟨⟨oc, od, odt, osl⟩, ho, hc, n, hd⟩ := id hT
  dsimp only at hc hd
  subst hc hd
  have hsub := sub_enumerate
  wp_walk using wpAny_loadPart' ho
  refine wpAny_stack_any fun st => wpAny_pure ?_
  split
  · rename_i c _ _ _ _ _
    cases (c == Value.type "enumerate") <;> (wp_walk using wpAny_loadPart' ho, wpAny_pyIter_tuple hT'; exact ⟨_, rfl, h⟩)
  · wp_walk using wpAny_loadPart' ho, wpAny_pyIter_tuple hT'
    exact ⟨_, rfl, h⟩

section
variable {prog : Program} {w : World} {A : Around} {E : Value → Shared → Prop} {s : Shared}
theorem enumT_call {t : Addr} {items : Array Value} {Q : Value → Shared → Prop} (hT : s.heap.IsTuple t items)
    (h : ∀ h', IsEnum h' (s.heap.objs.size + 1) s.heap.objs.size 0 .none → h'.IsTupleIter s.heap.objs.size t 0 → (∀ b o, s.heap.get? b = some o → h'.get? b = some o) → Q (.ref (s.heap.objs.size + 1)) { s with heap := h' }) :
    wpAny (model prog w) A (call (.type "enumerate") [.ref t]) Q E s := by
  refine callType_new F.called_enumerate (by decide) (F.typeCall_enumerate_1 _) (F.newCall_enumerate_1 _) (fun obj => F.args_object_init_2 obj _) F.entry_enumerate_new (enumT_new t items) ⟨hT, ?_⟩
  generalize e1 : s.heap.push { cls := .type "tuple_iterator", data := .fields #[.ref t, .int 0 0] } = h1
  have g0 : h1.get? s.heap.objs.size = some { cls := .type "tuple_iterator", data := .fields #[.ref t, .int 0 0] } := by rw [← e1]; exact Heap.get?_push_size _ rfl
  have z1 : h1.objs.size = s.heap.objs.size + 1 := by rw [← e1, Heap.size_push]
  have k1 : ∀ b o, s.heap.get? b = some o → h1.get? b = some o := fun b o e => by rw [← e1]; exact Heap.get?_push_of_some _ e
  show _ ∧ _
  rw [z1]
  have g1 : IsEnum (h1.push { cls := .type "enumerate", data := .fields #[.none, .bool false, .ref s.heap.objs.size, rawInt 0, .none, .none] }) (s.heap.objs.size + 1) s.heap.objs.size 0 .none := by
    rw [← z1]; exact Heap.get?_push_size _ rfl
  exact ⟨⟨_, g1, rfl⟩, h _ g1 ⟨_, Heap.get?_push_of_some _ g0, rfl, by rfl⟩ fun b o e => Heap.get?_push_of_some _ (k1 b o e)⟩
end

/-- the turns of enumerate over the tuple at a -/
def ItEn (K : PySem.W.Frag) (a : Addr) : It where
  go := fun i H => ∃ (xs : List V) (x : V), SqT K H a xs ∧ xs[i]? = some x
  yld := fun i H v H' => ∃ T x, v = .ref T ∧ H T = none ∧ H' = upd H T (.tup [.int (i : Nat), x]) ∧ ∀ xs, SqT K H a xs → xs[i]? = some x
  stop := fun i H => ∃ xs : List V, SqT K H a xs ∧ xs.length ≤ i

theorem two_mem {a b c : Addr} (h : c ∈ [a, b]) : c = a ∨ c = b := by simpa using h
theorem turn_enT {P : Program} {w : World} {K : PySem.W.Frag} {elts : List Expr} {kk : Nat} {tpos : Pos} (a e it : Addr) :
    Turn P w K (.Tuple elts kk tpos) (ItEn K a) [e, it] e (fun i h => (∃ old, IsEnum h e it ((i : Nat) : Int) old) ∧ h.IsTupleIter it a i ∧ e ≠ it ∧ a ≠ it ∧ a ≠ e) := by
  refine ⟨by simp, ?_, ?_, ?_, ?_, ?_⟩
  · intro i h st b hb
    obtain ⟨⟨old, he⟩, ⟨o, ho, hc, hd⟩, _, _⟩ := st
    rcases two_mem hb with z | z
    · subst z
      exact ⟨_, he, fun v q => nomatch q⟩
    · subst z
      exact ⟨o, ho, fun v q => by rw [hd] at q; cases q⟩
  · intro i h h' st k
    obtain ⟨⟨old, he⟩, hi, hne⟩ := st
    exact ⟨⟨old, k e (by simp) _ he⟩, hi.at fun o q => k it (by simp) o q, hne⟩
  · intro X hP hw hK hc i pins s σ H E I hf st hg
    subst hP hw hK
    obtain ⟨⟨old, he⟩, hit, hne, hai, hae⟩ := st
    obtain ⟨xs, x, hq, hx⟩ := hg
    obtain ⟨its, rv, p, hz⟩ := I.tuple hq
    obtain ⟨u, hu, ru⟩ := rv.get hx
    have hel : e < s.heap.objs.size := Heap.lt_size he
    have hil : it < s.heap.objs.size := by obtain ⟨_, q, _⟩ := hit; exact Heap.lt_size q
    have hlt : i < its.toArray.size := by
      have := (List.getElem?_eq_some_iff.mp hu).1
      simpa using this
    have hd0 : X.A.in1.handled = none := I.ok.hd hc
    refine wpAny_pyNext_enum_itemD (Draws.tuple hd0 it a hai its.toArray) he ⟨hit, p⟩ hlt hne (by simp [hne, Ne.symm hae]) fun y h' tk hy ho hst' hT hsz hk => ?_
    have ey : y = u := by
      have e1 : its.toArray[i]? = some y := hy
      have e2 : its.toArray[i]? = some u := by simpa using hu
      rw [e1] at e2
      exact Option.some.inj e2
    subst ey
    refine ⟨_, rfl, wpAny_letOwnedTupleGo_enum (s := { s with heap := h', toks := tk + 1 }) ho fun h'' he' sb => ?_⟩
    have hT2 := (sb.2 _ (Nat.ne_of_gt hel)).trans hT
    have new : ObjOk X.prog X.w (upd H s.heap.objs.size (.tup [.int (i : Nat), x])) h'' s.heap.objs.size (.tup [.int (i : Nat), x]) :=
      ⟨by show 2 ≤ sizeLine; decide, [.int i tk, y], .cons ⟨_, rfl⟩ (.cons ru .nil), ⟨_, hT2, rfl, _, rfl⟩⟩
    have I1 : Inv X pins σ (upd H s.heap.objs.size (.tup [.int (i : Nat), x])) { s with heap := h'', toks := tk + 1 } :=
      I.turnedNew (ch := [e, it]) (fun b ob hb q => (sb.2 b fun z => hb (by simp [z])).trans (hk b ob (fun z => hb (by simp [z])) (fun z => hb (by simp [z])) q)) hf (Nat.le_refl _) new
    refine ⟨.ref s.heap.objs.size, _, I1, rfl, ⟨_, x, rfl, I.hok.fresh (Nat.le_refl _), rfl, fun ys hy => by rw [I.tuple_inj hy hq]; exact hx⟩, ⟨⟨y, ?_⟩, hst'.1.at fun o q => (sb.2 it (Ne.symm hne)).trans q, hne, hai, hae⟩, fun b hb => ?_⟩
    · have e1 : ((i + 1 : Nat) : Int) = (i : Int) + 1 := by omega
      rw [e1]
      exact he'
    · have hb' : b < s.heap.objs.size := by rcases two_mem hb with z | z <;> (rw [z]; assumption)
      rw [upd_ne (Nat.ne_of_lt hb')]
      exact (hf b hb).1
  · intro X hP hw hK hc i pins s σ H E I hf st hg
    subst hP hw hK
    obtain ⟨⟨old, he⟩, hit, hne, hai, hae⟩ := st
    obtain ⟨xs, hq, hx⟩ := hg
    obtain ⟨its, rv, p, hz⟩ := I.tuple hq
    obtain ⟨f0, f1, f2, f3, f4, f5⟩ := hf it (by simp)
    have hl := rv.length
    have hd0 : X.A.in1.handled = none := I.ok.hd hc
    have D : Draws X.prog X.w X.A.in1 it [it, a] i (fun _ _ => False) (fun j h => j = i ∧ h.IsTupleIter it a i ∧ h.IsTuple a its.toArray) := by
      refine ⟨fun _ _ st => let ⟨o, ho, _⟩ := st.2.1; ⟨o, ho⟩, fun _ _ _ st hk => ⟨st.1, st.2.1.at fun o e => hk it (by simp) o e, st.2.2.at fun o e => hk a (by simp) o e⟩, fun j s Q E hj st _ => absurd st.1 (Nat.ne_of_lt hj), fun s Q E st hE => ?_⟩
      exact RZ.nextOf_tuple_end hd0 st.2.1 st.2.2 (Array.getElem?_eq_none (by simp; omega)) hE
    exact wpAny_pyNext_enum_endD D he ⟨rfl, hit, p⟩ fun h' eb => ⟨rfl, I.turned (t' := s.toks) (fun b o hb q => eb b o hb q) f0 f1 f3 f4 f5⟩
  · intro A i s Q E st h
    obtain ⟨⟨_, he⟩, _⟩ := st
    exact wpAny_pyIter_enum he h
def iEnT (K : PySem.W.Frag) (ta : TA) : TI := fun σ H R => ta σ H fun vs H1 => ∃ a xs, vs = [.ref a] ∧ SqT K H1 a xs ∧ R (ItEn K a) H1
/-- for i, x in enumerate(t), t a tuple -/
theorem pi_enT {X : Cx} {e : Expr} {ta : TA} {p pos tpos : Pos} {elts : List Expr} {kk : Nat} (hg : Gl X "enumerate") (hm : X.mg "enumerate" = none) (ha : PA X [e] ta)
    (hs : starEach [e] X.env = [(false, eval e X.env)] := by rfl) : PI X (.Tuple elts kk tpos) (.Call (.Name "enumerate" p) [e] [] pos) (iEnT X.K ta) := by
  refine ⟨fun pins s σ H R I h => Call_ (ld_blt I hg hm boot_enumerate (PyProof.Rows.callWith_type1 (thn (ha.run pos pins s σ H _ I h) fun us s1 ⟨vs, H1, I1, r1, q1⟩ => ?_) hs rfl))⟩
  obtain ⟨a, xs, rfl, hq, q⟩ := q1
  obtain ⟨u, rfl, ru⟩ := r1.one
  cases (show u = Value.ref a from ru)
  obtain ⟨its, rv, p', hz⟩ := I1.tuple hq
  have hal : a < s1.heap.objs.size := by obtain ⟨_, ho, _⟩ := id p'; exact Heap.lt_size ho
  refine enumT_call p' fun h' he hit hk => wpAny_pyIter_enum he ?_
  have I2 : Inv X pins σ H1 { s1 with heap := h' } := I1.kept (t' := s1.toks) hk
  refine ⟨s1.heap.objs.size + 1, [s1.heap.objs.size + 1, s1.heap.objs.size], _, _, H1, rfl, I2, turn_enT a (s1.heap.objs.size + 1) s1.heap.objs.size, ⟨⟨.none, he⟩, hit, Nat.succ_ne_self _, Nat.ne_of_lt hal, Nat.ne_of_lt (Nat.lt_succ_of_lt hal)⟩, fun b hb => ?_, q⟩
  have hle : s1.heap.objs.size ≤ b := by
    rcases two_mem hb with z | z
    · exact z ▸ Nat.le_succ _
    · exact z ▸ Nat.le_refl _
  exact I1.fpOk hle (I1.hok.fresh hle)
/-- the loop over it: the body leaves, or goes to the next turn -/
theorem for_enT {K : PySem.W.Frag} {a : Addr} {xs : List V} {g : TG} {tb : TS} {D : Ends} {σ : L2.St} {H : Hp} (Pv : Nat → L2.St → Hp → Prop) (h0 : Pv 0 σ H) (hq : ∀ i σ H, Pv i σ H → SqT K H a xs)
    (hs : ∀ (i : Nat) (x : V) (T : Addr) (σ : L2.St) (H : Hp), xs[i]? = some x → Pv i σ H → H T = none → g (.ref T) σ (upd H T (.tup [.int (i : Nat), x])) fun σ2 H2 => tb { D with nx := Pv (i + 1), ct := Pv (i + 1), bk := D.nx } σ2 H2)
    (hd : ∀ σ H, Pv xs.length σ H → D.nx σ H) :
    ∃ W : Nat → Nat → L2.St → Hp → Prop, (∃ m, W 0 m σ H) ∧ ∀ i m σ H, W i m σ H →
      ((ItEn K a).stop i H ∧ D.nx σ H) ∨ ((ItEn K a).go i H ∧ ∃ N : L2.St → Hp → Prop, (∀ σ' H', N σ' H' → ∃ m', m' < m ∧ W (i + 1) m' σ' H') ∧ ∀ v H', (ItEn K a).yld i H v H' → g v σ H' fun σ2 H2 => tb { D with nx := N, ct := N, bk := D.nx } σ2 H2) := by
  refine ⟨fun i m σ H => m = xs.length - i ∧ i ≤ xs.length ∧ Pv i σ H, ⟨xs.length, rfl, Nat.zero_le _, h0⟩, ?_⟩
  rintro i m σ H ⟨rfl, hi, p⟩
  have qx := hq i σ H p
  by_cases hlt : i < xs.length
  · have hx : xs[i]? = some xs[i] := List.getElem?_eq_getElem hlt
    refine .inr ⟨⟨xs, _, qx, hx⟩, Pv (i + 1), fun σ' H' p' => ⟨xs.length - (i + 1), by omega, rfl, hlt, p'⟩, fun v H' y => ?_⟩
    obtain ⟨T, x', rfl, hT, rfl, f1⟩ := y
    exact hs i x' T σ H (f1 xs qx) p hT
  · obtain rfl : i = xs.length := by omega
    exact .inl ⟨⟨xs, qx, Nat.le_refl _⟩, hd σ H p⟩

/-! ### zip(tuple, list) -/
def ItZm (K : PySem.W.Frag) (a b : Addr) : It where
  go := fun i H => ∃ (xs ys : List V) (x y : V), SqT K H a xs ∧ SqL K H b ys ∧ xs[i]? = some x ∧ ys[i]? = some y
  yld := fun i H v H' => ∃ T x y, v = .ref T ∧ H T = none ∧ H' = upd H T (.tup [x, y]) ∧ (∀ xs, SqT K H a xs → xs[i]? = some x) ∧ ∀ ys, SqL K H b ys → ys[i]? = some y
  stop := fun i H => ∃ xs ys : List V, SqT K H a xs ∧ SqL K H b ys ∧ i = xs.length ∧ i = ys.length
theorem turn_zm {P : Program} {w : World} {K : PySem.W.Frag} {elts : List Expr} {kk : Nat} {tpos : Pos} {a b z TI TO i1 i2 : Addr} (S : ZipSep2 z TI TO i1 i2 [i1, a] [i2, b]) (ha : a ≠ i1) (hb : b ≠ i2) :
    Turn P w K (.Tuple elts kk tpos) (ItZm K a b) [z, TI, TO, i1, i2] z
      (fun i h => IsZip h z TI TO .none ∧ IsTupOf2 h TI (.ref i1) (.ref i2) ∧ (∃ x y, IsTupOf2 h TO x y) ∧ h.IsTupleIter i1 a i ∧ h.IsListIter i2 b i) := by
  have five : ∀ {c : Addr}, c ∈ [z, TI, TO, i1, i2] → c = z ∨ c = TI ∨ c = TO ∨ c = i1 ∨ c = i2 := fun h => by simpa using h
  refine ⟨by simp, ?_, ?_, ?_, ?_, ?_⟩
  · intro i h st c hc
    obtain ⟨hz, hTI, ⟨x, y, hTO⟩, ⟨o1, e1, _, d1⟩, ⟨o2, e2, _, d2⟩⟩ := st
    rcases five hc with q | q | q | q | q <;> subst q
    · exact ⟨_, hz, fun v q => nomatch q⟩
    · exact ⟨_, hTI, fun v q => nomatch q⟩
    · exact ⟨_, hTO, fun v q => nomatch q⟩
    · exact ⟨o1, e1, fun v q => by rw [d1] at q; cases q⟩
    · exact ⟨o2, e2, fun v q => by rw [d2] at q; cases q⟩
  · intro i h h' st k
    obtain ⟨hz, hTI, ⟨x, y, hTO⟩, h1, h2⟩ := st
    exact ⟨k z (by simp) _ hz, k TI (by simp) _ hTI, ⟨x, y, k TO (by simp) _ hTO⟩, h1.at fun o q => k i1 (by simp) o q, h2.at fun o q => k i2 (by simp) o q⟩
  · intro X hP hw hK hc i pins s σ H E I hf st hg
    subst hP hw hK
    obtain ⟨hz, hTI, ⟨x0, y0, hTO⟩, h1, h2⟩ := st
    obtain ⟨xs, ys, x, y, hqx, hqy, hx, hy⟩ := hg
    obtain ⟨its, rv, p, _⟩ := I.tuple hqx
    obtain ⟨its2, rv2, p2, _⟩ := I.list hqy
    obtain ⟨u, hu, ru⟩ := rv.get hx
    obtain ⟨u2, hu2, ru2⟩ := rv2.get hy
    have hzl : z < s.heap.objs.size := Heap.lt_size hz
    have hd0 : X.A.in1.handled = none := I.ok.hd hc
    have l1 : i < its.toArray.size := by have := (List.getElem?_eq_some_iff.mp hu).1; simpa using this
    have l2 : i < its2.toArray.size := by have := (List.getElem?_eq_some_iff.mp hu2).1; simpa using this
    refine wpAny_pyNext_zipD2_item S (Draws.tuple hd0 i1 a ha its.toArray) (Draws.list hd0 i2 b hb its2.toArray) hz hTI hTO ⟨h1, p⟩ ⟨h2, p2.isList⟩ l1 l2 fun x1 x2 h' tk y1 y2 z' TO' s1' s2' hT hsz hk => ?_
    have ey1 : x1 = u := by
      have e1 : its.toArray[i]? = some x1 := y1
      have e2 : its.toArray[i]? = some u := by simpa using hu
      rw [e1] at e2
      exact Option.some.inj e2
    have ey2 : x2 = u2 := by
      have e1 : its2.toArray[i]? = some x2 := y2
      have e2 : its2.toArray[i]? = some u2 := by simpa using hu2
      rw [e1] at e2
      exact Option.some.inj e2
    subst ey1 ey2
    refine ⟨_, rfl, wpAny_letOwnedTupleGo_zip (s := { s with heap := h', toks := tk }) z' fun h'' z'' sb => ?_⟩
    have hT2 := (sb.2 _ (Nat.ne_of_gt hzl)).trans hT
    have new : ObjOk X.prog X.w (upd H s.heap.objs.size (.tup [x, y])) h'' s.heap.objs.size (.tup [x, y]) :=
      ⟨by show 2 ≤ sizeLine; decide, [x1, x2], .cons ru (.cons ru2 .nil), ⟨_, hT2, rfl, _, rfl⟩⟩
    have I1 : Inv X pins σ (upd H s.heap.objs.size (.tup [x, y])) { s with heap := h'', toks := tk } :=
      I.turnedNew (ch := [z, TI, TO, i1, i2]) (fun c o hb' q => (sb.2 c fun q' => hb' (by simp [q'])).trans (hk c o (fun q' => hb' (by simp [q'])) (fun q' => hb' (by simp [q'])) (fun q' => hb' (by simp [q'])) (fun q' => hb' (by simp [q'])) q)) hf (Nat.le_refl _) new
    refine ⟨.ref s.heap.objs.size, _, I1, rfl, ⟨_, x, y, rfl, I.hok.fresh (Nat.le_refl _), rfl, fun l hl => by rw [I.tuple_inj hl hqx]; exact hx, fun l hl => by rw [I.list_inj hl hqy]; exact hy⟩, ⟨z'', ?_, ⟨x1, x2, ?_⟩, ?_, ?_⟩, fun c hcm => ?_⟩
    · exact (sb.2 _ S.TIz).trans (hk _ _ S.TIz S.TITO S.TIi1 S.TIi2 hTI)
    · exact (sb.2 _ S.TOz).trans TO'
    · exact s1'.1.at fun o q => (sb.2 _ S.zi1.symm).trans q
    · exact s2'.1.at fun o q => (sb.2 _ S.zi2.symm).trans q
    · have hlt : c < s.heap.objs.size := by
        rcases five hcm with q | q | q | q | q <;> subst q
        · exact hzl
        · exact Heap.lt_size hTI
        · exact Heap.lt_size hTO
        · obtain ⟨_, e1, _⟩ := h1; exact Heap.lt_size e1
        · obtain ⟨_, e1, _⟩ := h2; exact Heap.lt_size e1
      rw [upd_ne (Nat.ne_of_lt hlt)]
      exact (hf c hcm).1
  · intro X hP hw hK hc i pins s σ H E I hf st hg
    subst hP hw hK
    obtain ⟨hz, hTI, ⟨x0, y0, hTO⟩, h1, h2⟩ := st
    obtain ⟨xs, ys, hqx, hqy, e1, e2⟩ := hg
    obtain ⟨its, rv, p, _⟩ := I.tuple hqx
    obtain ⟨its2, rv2, p2, _⟩ := I.list hqy
    have l1 := rv.length
    have l2 := rv2.length
    have hd0 : X.A.in1.handled = none := I.ok.hd hc
    refine wpAny_pyNext_zipD2_end S (Draws.tuple hd0 i1 a ha its.toArray) (Draws.list hd0 i2 b hb its2.toArray) hz hTI hTO ⟨h1, p⟩ ⟨h2, p2.isList⟩ (by simp; omega) (by simp; omega) (.inl (by simp; omega)) fun h' tk hk => ⟨rfl, I.turnedL (t' := tk) (ch := [z, TI, TO, i1, i2]) (fun c o hb' q =>
      hk c o (fun q' => hb' (by simp [q'])) (fun q' => hb' (by simp [q'])) (fun q' => hb' (by simp [q'])) (fun q' => hb' (by simp [q'])) q) hf⟩
  · exact fun A i s Q E st h => wpAny_pyIter_zip st.1 h
theorem nmem2 {x p q : Nat} (h1 : x ≠ p) (h2 : x ≠ q) : x ∉ [p, q] := by simp [h1, h2]
theorem zsep (n a b : Nat) (ha : a < n) (hb : b < n) : ZipSep2 (n + 4) (n + 2) (n + 3) n (n + 1) [n, a] [n + 1, b] := by
  have h1 : ∀ k, 0 < k → n + k ≠ n := fun k hk => by omega
  have h2 : ∀ k j, k ≠ j → n + k ≠ n + j := fun k j hk => by omega
  have h3 : ∀ k, n + k ≠ a := fun k => by omega
  have h4 : ∀ k, n + k ≠ b := fun k => by omega
  exact ⟨h2 2 4 (by decide), h2 3 4 (by decide), h2 2 3 (by decide), h1 2 (by decide), by simp, nmem2 (h1 4 (by decide)) (h3 4), nmem2 (h1 3 (by decide)) (h3 3), h2 2 1 (by decide), by simp,
    nmem2 (h2 4 1 (by decide)) (h4 4), nmem2 (h2 3 1 (by decide)) (h4 3), nmem2 (h1 1 (by decide)).symm (h4 0), nmem2 (h1 1 (by decide)) (h3 1)⟩
def iZm (K : PySem.W.Frag) (ta : TA) : TI := fun σ H R => ta σ H fun vs H1 => ∃ a b xs ys, vs = [.ref a, .ref b] ∧ SqT K H1 a xs ∧ SqL K H1 b ys ∧ R (ItZm K a b) H1
/-- for x, y in zip(t, l), t a tuple, l a list -/
theorem pi_zm {X : Cx} {e e2 : Expr} {ta : TA} {p pos tpos : Pos} {elts : List Expr} {kk : Nat} (hg : Gl X "zip") (hm : X.mg "zip" = none) (ha : PA X [e, e2] ta)
    (hs : starEach [e, e2] X.env = (false, eval e X.env) :: starEach [e2] X.env := by rfl) (hpl : (backTo pos (starEach [e2] X.env)).any (·.1) = false := by rfl) :
    PI X (.Tuple elts kk tpos) (.Call (.Name "zip" p) [e, e2] [] pos) (iZm X.K ta) := by
  refine ⟨fun pins s σ H R I h => Call_ (ld_blt I hg hm PyProof.Rows.boot_zip (PyProof.Rows.callWith_type1 (thn (ha.run pos pins s σ H _ I h) fun us s1 ⟨vs, H1, I1, r1, q1⟩ => ?_) hs hpl))⟩
  obtain ⟨a, b, xs, ys, rfl, hqx, hqy, q⟩ := q1
  obtain ⟨u, u2, rfl, ru, ru2⟩ := Vals.two r1
  cases (show u = Value.ref a from ru)
  cases (show u2 = Value.ref b from ru2)
  obtain ⟨its, rv, p1, _⟩ := I1.tuple hqx
  obtain ⟨its2, rv2, p2, _⟩ := I1.list hqy
  have hal : a < s1.heap.objs.size := by obtain ⟨_, ho, _⟩ := id p1; exact Heap.lt_size ho
  have hbl : b < s1.heap.objs.size := p2.lt
  refine zip_begins2 (begins_tuple a its.toArray) (begins_list b its2.toArray) p1 p2.isList fun h' hz hTI hTO g1 g2 hsz hk => wpAny_pyIter_zip hz ?_
  have I2 : Inv X pins σ H1 { s1 with heap := h' } := I1.kept (t' := s1.toks) hk
  have S := zsep s1.heap.objs.size a b hal hbl
  have hab : a ≠ s1.heap.objs.size := Nat.ne_of_lt hal
  have hbb : b ≠ s1.heap.objs.size + 1 := Nat.ne_of_lt (Nat.lt_succ_of_lt hbl)
  refine ⟨s1.heap.objs.size + 4, [s1.heap.objs.size + 4, s1.heap.objs.size + 2, s1.heap.objs.size + 3, s1.heap.objs.size, s1.heap.objs.size + 1], _, _, H1, rfl, I2, turn_zm S hab hbb, ⟨hz, hTI, ⟨_, _, hTO⟩, ⟨_, g1, rfl, rfl⟩, ⟨_, g2, rfl, rfl⟩⟩, fun c hcm => ?_, q⟩
  have hle : s1.heap.objs.size ≤ c := by
    have e' : c = s1.heap.objs.size + 4 ∨ c = s1.heap.objs.size + 2 ∨ c = s1.heap.objs.size + 3 ∨ c = s1.heap.objs.size ∨ c = s1.heap.objs.size + 1 := by simpa using hcm
    rcases e' with e | e | e | e | e <;> (rw [e]; simp)
  exact I1.fpOk hle (I1.hok.fresh hle)
theorem for_zm {K : PySem.W.Frag} {a b : Addr} {xs ys : List V} {g : TG} {tb : TS} {D : Ends} {σ : L2.St} {H : Hp} (hl : xs.length = ys.length) (Pv : Nat → L2.St → Hp → Prop) (h0 : Pv 0 σ H) (hq : ∀ i σ H, Pv i σ H → SqT K H a xs ∧ SqL K H b ys)
    (hs : ∀ (i : Nat) (x y : V) (T : Addr) (σ : L2.St) (H : Hp), xs[i]? = some x → ys[i]? = some y → Pv i σ H → H T = none → g (.ref T) σ (upd H T (.tup [x, y])) fun σ2 H2 => tb { D with nx := Pv (i + 1), ct := Pv (i + 1), bk := D.nx } σ2 H2)
    (hd : ∀ σ H, Pv xs.length σ H → D.nx σ H) :
    ∃ W : Nat → Nat → L2.St → Hp → Prop, (∃ m, W 0 m σ H) ∧ ∀ i m σ H, W i m σ H →
      ((ItZm K a b).stop i H ∧ D.nx σ H) ∨ ((ItZm K a b).go i H ∧ ∃ N : L2.St → Hp → Prop, (∀ σ' H', N σ' H' → ∃ m', m' < m ∧ W (i + 1) m' σ' H') ∧ ∀ v H', (ItZm K a b).yld i H v H' → g v σ H' fun σ2 H2 => tb { D with nx := N, ct := N, bk := D.nx } σ2 H2) := by
  refine ⟨fun i m σ H => m = xs.length - i ∧ i ≤ xs.length ∧ Pv i σ H, ⟨xs.length, rfl, Nat.zero_le _, h0⟩, ?_⟩
  rintro i m σ H ⟨rfl, hi, p⟩
  obtain ⟨qx, qy⟩ := hq i σ H p
  by_cases hlt : i < xs.length
  · have hlt2 : i < ys.length := by omega
    have hx := List.getElem?_eq_getElem hlt
    have hy := List.getElem?_eq_getElem hlt2
    refine .inr ⟨⟨xs, ys, _, _, qx, qy, hx, hy⟩, Pv (i + 1), fun σ' H' p' => ⟨xs.length - (i + 1), by omega, rfl, hlt, p'⟩, fun v H' y => ?_⟩
    obtain ⟨T, x', y', rfl, hT, rfl, f1, f2⟩ := y
    exact hs i x' y' T σ H (f1 xs qx) (f2 ys qy) p hT
  · obtain rfl : i = xs.length := by omega
    exact .inl ⟨⟨xs, ys, qx, qy, rfl, hl⟩, hd σ H p⟩
end Tw
/-! The mirror of the package's timers in plain Lean, and its mathematics. -/
namespace TwM

structure Lv where
  g : Int
  s : Int
  p : Int
  deriving DecidableEq, Inhabited
structure Bk where
  up : Bool
  fire : Bool
  high : Bool
  put : Bool
  zone : Bool
  bey : Nat
  deriving DecidableEq, Inhabited
structure Spot where
  lv : Nat
  pt : Int
  due : Int
  deriving DecidableEq, Inhabited

def lv (W : List Lv) (i : Nat) : Lv := W.getD i default
def reach (W : List Lv) : Int := (lv W (W.length - 1)).p
def rnd (up : Bool) (t g : Int) : Int := if up then -((-t) / g) else t / g
def levelOf : List Lv → Int → Option Nat
  | [], _ => none
  | l :: ls, d => if d < l.p then some 0 else (levelOf ls d).map (· + 1)
def levelIx (W : List Lv) (d : Int) : Nat := (levelOf W d).getD (W.length - 1)
def spotAt (W : List Lv) (B : Bk) (now rest due : Int) : Spot := match levelOf W rest with
  | some i => ⟨i, rnd B.up (now + rest) (lv W i).g, due⟩
  | none => ⟨W.length - 1, rnd B.up (now + reach W - 1) (lv W (W.length - 1)).g, due⟩
def va (l : Lv) (pt now : Int) : Int := (now / l.g + 1 + (pt - now / l.g - 1) % l.s) * l.g
def isVis (l : Lv) (pt before now : Int) : Bool := decide ((pt - before / l.g - 1) % l.s < now / l.g - before / l.g)
def taken (W : List Lv) (B : Bk) (sp : Spot) (tick : Int) : Option Spot :=
  if sp.lv = 0 ∨ B.fire = true then none
  else if tick < sp.due then some (spotAt W B tick (sp.due - tick) sp.due)
  else if B.put = true then some ⟨0, tick, sp.due⟩ else none
def order (W : List Lv) (B : Bk) : List Nat := if B.high = true then (List.range W.length).reverse else List.range W.length
def visGo (W : List Lv) (B : Bk) (before now : Int) : List Nat → Spot → List (Option Spot)
  | [], _ => []
  | i :: is, sp => if sp.lv = i ∧ isVis (lv W i) sp.pt before now = true then
      (match taken W B sp now with
        | none => [none]
        | some s' => some s' :: visGo W B before now is s')
      else visGo W B before now is sp
def visited (W : List Lv) (B : Bk) (sp : Spot) (before now : Int) : List (Option Spot) := visGo W B before now (order W B) sp
def skipped (W : List Lv) (sp : Spot) (tick : Int) (limit : Option Int) : Int × Int :=
  if sp.lv ≠ W.length - 1 ∨ sp.due - tick < reach W then (0, 0)
  else
    let step := va (lv W sp.lv) sp.pt tick - tick
    let many := (sp.due - tick - reach W) / step
    match limit with
    | none => (many, step)
    | some lim => (min many ((lim - tick) / step), step)
def over (limit : Option Int) (t : Int) : Bool := match limit with
  | none => false
  | some l => decide (l < t)
abbrev Res := Option Spot × Int × Int
def fol (W : List Lv) (B : Bk) (limit : Option Int) : Nat → Spot → Int → Int → Option Res
  | 0, _, _, _ => none
  | n + 1, sp, tick, mv =>
    let t := va (lv W sp.lv) sp.pt tick
    if over limit t = true then some (some sp, tick, mv)
    else
      let found := visited W B sp (t - 1) t
      match found.getLast? with
      | none => none
      | some none => some (none, t, mv + found.length - 1)
      | some (some sp') =>
        let k := skipped W sp' t limit
        if 0 < k.1 then fol W B limit n (spotAt W B (t + k.1 * k.2) (sp'.due - (t + k.1 * k.2)) sp'.due) (t + k.1 * k.2) (mv + found.length + k.1)
        else fol W B limit n sp' t (mv + found.length)

structure WOk (W : List Lv) : Prop where
  pos : 0 < W.length
  len : W.length ≤ 5
  all : ∀ i, i < W.length → 1 ≤ (lv W i).g ∧ (lv W i).g ≤ 1000 ∧ 2 ≤ (lv W i).s ∧ (lv W i).s ≤ 100 ∧ 2 ≤ (lv W i).p
  first : (lv W 0).g = 1
  dv : ∀ i, i + 1 < W.length → (lv W i).g ∣ (lv W (i + 1)).g
  asc : ∀ i, i + 1 < W.length → (lv W i).p < (lv W (i + 1)).p

theorem levelOf_lt : ∀ {W : List Lv} {d : Int} {i : Nat}, levelOf W d = some i → i < W.length ∧ d < (lv W i).p
  | [], _, _, h => by simp [levelOf] at h
  | l :: ls, d, i, h => by
    unfold levelOf at h
    split at h
    · cases h
      rename_i hd
      exact ⟨by simp, by simpa [lv] using hd⟩
    · cases q : levelOf ls d with
      | none => rw [q] at h; cases h
      | some j =>
        rw [q] at h
        have e : j + 1 = i := Option.some.inj h
        subst e
        obtain ⟨h1, h2⟩ := levelOf_lt q
        refine ⟨by simpa using h1, ?_⟩
        have : lv (l :: ls) (j + 1) = lv ls j := by simp [lv]
        rw [this]; exact h2
theorem levelOf_none : ∀ {W : List Lv} {d : Int}, levelOf W d = none → ∀ i, i < W.length → (lv W i).p ≤ d
  | [], _, _, i, h => by simp at h
  | l :: ls, d, h, i, hi => by
    unfold levelOf at h
    split at h
    · cases h
    · rename_i hd
      cases q : levelOf ls d with
      | some j => rw [q] at h; cases h
      | none =>
        cases i with
        | zero => simp [lv]; omega
        | succ i =>
          have := levelOf_none q i (by simpa using hi)
          have e : lv (l :: ls) (i + 1) = lv ls i := by simp [lv]
          rw [e]; exact this
theorem levelOf_ge : ∀ {W : List Lv} {d : Int} {i : Nat}, levelOf W d = some i → ∀ j, j < i → (lv W j).p ≤ d
  | [], _, _, h => by simp [levelOf] at h
  | l :: ls, d, i, h => by
    intro j hj
    unfold levelOf at h
    split at h
    · cases h; omega
    · rename_i hd
      cases q : levelOf ls d with
      | none => rw [q] at h; cases h
      | some k =>
        rw [q] at h
        have e : k + 1 = i := Option.some.inj h
        subst e
        cases j with
        | zero => simp [lv]; omega
        | succ j =>
          have := levelOf_ge q j (by omega)
          have e : lv (l :: ls) (j + 1) = lv ls j := by simp [lv]
          rw [e]; exact this
theorem levelOf_is : ∀ {W : List Lv} {d : Int} {i : Nat}, i < W.length → (∀ j, j < i → (lv W j).p ≤ d) → d < (lv W i).p → levelOf W d = some i
  | [], _, _, h, _, _ => by simp at h
  | l :: ls, d, 0, _, _, h => by
    unfold levelOf
    rw [if_pos (by simpa [lv] using h)]
  | l :: ls, d, i + 1, hi, hp, h => by
    have e : ∀ j, lv (l :: ls) (j + 1) = lv ls j := fun j => by simp [lv]
    have h0 := hp 0 (by omega)
    unfold levelOf
    rw [if_neg (by simp [lv] at h0; omega), levelOf_is (by simpa using hi) (fun j hj => by have := hp (j + 1) (by omega); rwa [e] at this) (by rwa [e] at h)]
    rfl
theorem levelOf_isN : ∀ {W : List Lv} {d : Int}, (∀ j, j < W.length → (lv W j).p ≤ d) → levelOf W d = none
  | [], _, _ => rfl
  | l :: ls, d, hp => by
    have e : ∀ j, lv (l :: ls) (j + 1) = lv ls j := fun j => by simp [lv]
    have h0 := hp 0 (by simp)
    unfold levelOf
    rw [if_neg (by simp [lv] at h0; omega), levelOf_isN (fun j hj => by have := hp (j + 1) (by simpa using hj); rwa [e] at this)]
    rfl
theorem spotAt_lt {W : List Lv} (ok : WOk W) (B : Bk) (now rest due : Int) : (spotAt W B now rest due).lv < W.length := by
  unfold spotAt
  split
  · rename_i i h; exact (levelOf_lt h).1
  · have := ok.pos; show W.length - 1 < W.length; omega
theorem spotAt_due (W : List Lv) (B : Bk) (now rest due : Int) : (spotAt W B now rest due).due = due := by
  unfold spotAt
  split <;> rfl

theorem va_gt {l : Lv} (hg : 0 < l.g) (hs : 0 < l.s) (pt now : Int) : now < va l pt now := by
  unfold va
  have h1 : 0 ≤ (pt - now / l.g - 1) % l.s := Int.emod_nonneg _ (by omega)
  have h2 : (now / l.g + 1) * l.g ≤ (now / l.g + 1 + (pt - now / l.g - 1) % l.s) * l.g := Int.mul_le_mul_of_nonneg_right (by omega) (by omega)
  have h3 : now < (now / l.g + 1) * l.g := Int.lt_ediv_add_one_mul_self now hg
  omega
theorem va_vis {l : Lv} (hg : 0 < l.g) (hs : 0 < l.s) (pt now : Int) : isVis l pt (va l pt now - 1) (va l pt now) = true := by
  unfold isVis va
  generalize hq : now / l.g + 1 + (pt - now / l.g - 1) % l.s = q
  have e1 : q * l.g / l.g = q := Int.mul_ediv_cancel _ (by omega)
  have e2 : (q * l.g - 1) / l.g = q - 1 := by
    have h1 : q * l.g - 1 = (l.g - 1) + (q - 1) * l.g := by rw [Int.sub_mul]; omega
    rw [h1, Int.add_mul_ediv_right _ _ (by omega), Int.ediv_eq_zero_of_lt (by omega) (by omega)]
    omega
  rw [e1, e2]
  have e3 : pt - (q - 1) - 1 = pt - q := by omega
  rw [e3]
  have e4 : (pt - q) % l.s = 0 := by
    rw [← hq]
    have : pt - (now / l.g + 1 + (pt - now / l.g - 1) % l.s) = (pt - now / l.g - 1) - (pt - now / l.g - 1) % l.s := by omega
    rw [this, Int.sub_emod, Int.emod_emod_of_dvd _ (Int.dvd_refl _)]
    simp
  rw [e4]
  simp
  omega

/-- every result of a visit: its due tick stays, its level is one of the wheel's; not due: it was placed; due: put to the first level -/
theorem taken_some {W : List Lv} (ok : WOk W) {B : Bk} {sp sp' : Spot} {tick : Int} (h : taken W B sp tick = some sp') :
    sp'.lv < W.length ∧ sp'.due = sp.due ∧ sp.lv ≠ 0 ∧ B.fire = false ∧ (tick < sp.due ∧ sp' = spotAt W B tick (sp.due - tick) sp.due ∨ sp.due ≤ tick ∧ B.put = true ∧ sp' = ⟨0, tick, sp.due⟩) := by
  unfold taken at h
  split at h
  · cases h
  · rename_i hn
    have h1 : sp.lv ≠ 0 := fun e => hn (.inl e)
    have h2 : B.fire = false := by
      cases e : B.fire
      · rfl
      · exact absurd (.inr e) hn
    split at h
    · rename_i hd
      cases h
      exact ⟨spotAt_lt ok _ _ _ _, spotAt_due _ _ _ _ _, h1, h2, .inl ⟨hd, rfl⟩⟩
    · rename_i hd
      split at h
      · rename_i hp
        cases h
        exact ⟨ok.pos, rfl, h1, h2, .inr ⟨by omega, hp, rfl⟩⟩
      · cases h
theorem visGo_last {W : List Lv} (ok : WOk W) {B : Bk} {before now : Int} : ∀ (is : List Nat) {sp sp' : Spot}, (visGo W B before now is sp).getLast? = some (some sp') →
    sp'.lv < W.length ∧ sp'.due = sp.due ∧ B.fire = false ∧ (now < sp.due ∧ sp' = spotAt W B now (sp.due - now) sp.due ∨ sp.due ≤ now ∧ sp' = ⟨0, now, sp.due⟩)
  | [], sp, sp', h => by simp [visGo] at h
  | i :: is, sp, sp', h => by
    unfold visGo at h
    split at h
    · cases q : taken W B sp now with
      | none => rw [q] at h; simp at h
      | some s1 =>
        rw [q] at h
        dsimp only at h
        obtain ⟨a1, a2, a3, a4, a5⟩ := taken_some ok q
        cases hr : visGo W B before now is s1 with
        | nil =>
          rw [hr] at h
          have e : s1 = sp' := by simpa using h
          subst e
          refine ⟨a1, a2, a4, ?_⟩
          rcases a5 with ⟨b1, b2⟩ | ⟨b1, _, b2⟩
          · exact .inl ⟨b1, b2⟩
          · exact .inr ⟨b1, b2⟩
        | cons x xs =>
          rw [hr] at h
          have h' : (visGo W B before now is s1).getLast? = some (some sp') := by
            rw [hr]
            rw [List.getLast?_cons] at h
            cases hx : (x :: xs).getLast? with
            | none => simp at hx
            | some z => rw [hx] at h; simpa using h
          obtain ⟨c1, c2, c3, c4⟩ := visGo_last ok is h'
          refine ⟨c1, c2.trans a2, c3, ?_⟩
          rw [a2] at c4
          exact c4
    · exact visGo_last ok is h
theorem visGo_ne {W : List Lv} {B : Bk} {before now : Int} : ∀ (is : List Nat) {sp : Spot}, sp.lv ∈ is → isVis (lv W sp.lv) sp.pt before now = true → visGo W B before now is sp ≠ []
  | [], sp, h, _ => by simp at h
  | i :: is, sp, h, hv => by
    unfold visGo
    by_cases e : sp.lv = i
    · rw [if_pos ⟨e, by rw [← e]; exact hv⟩]
      cases taken W B sp now <;> simp
    · rw [if_neg (fun z => e z.1)]
      exact visGo_ne is (by rcases List.mem_cons.mp h with q | q; exact absurd q e; exact q) hv
theorem mem_order {W : List Lv} {B : Bk} {i : Nat} : i ∈ order W B ↔ i < W.length := by
  unfold order
  split <;> simp
theorem visited_ne {W : List Lv} (ok : WOk W) {B : Bk} {sp : Spot} (hl : sp.lv < W.length) (tick : Int) :
    visited W B sp (va (lv W sp.lv) sp.pt tick - 1) (va (lv W sp.lv) sp.pt tick) ≠ [] :=
  visGo_ne _ (mem_order.mpr hl) (va_vis (by have := ok.all _ hl; omega) (by have := ok.all _ hl; omega) _ _)

/-- how many turns are enough -/
def mu (sp : Spot) (tick : Int) : Nat := if sp.lv = 0 then 1 else 2 + (sp.due - tick).toNat
theorem visGo_zero {W : List Lv} {B : Bk} {before now : Int} : ∀ (is : List Nat) {sp : Spot}, sp.lv = 0 → ∀ x ∈ visGo W B before now is sp, x = none
  | [], sp, _, x, h => by simp [visGo] at h
  | i :: is, sp, h0, x, h => by
    unfold visGo at h
    split at h
    · have e : taken W B sp now = none := by unfold taken; rw [if_pos (.inl h0)]
      rw [e] at h
      simpa using h
    · exact visGo_zero is h0 x h
theorem skipped_pos {W : List Lv} {sp : Spot} {tick : Int} {limit : Option Int} (h : 0 < (skipped W sp tick limit).1) :
    sp.lv = W.length - 1 ∧ reach W ≤ sp.due - tick ∧ (skipped W sp tick limit).2 = va (lv W sp.lv) sp.pt tick - tick ∧ (skipped W sp tick limit).1 ≤ (sp.due - tick - reach W) / (va (lv W sp.lv) sp.pt tick - tick) := by
  unfold skipped at h ⊢
  split at h
  · simp at h
  · rename_i hn
    have h1 : sp.lv = W.length - 1 := Classical.byContradiction fun e => hn (.inl e)
    have h2 : reach W ≤ sp.due - tick := by
      rcases Int.lt_or_le (sp.due - tick) (reach W) with e | e
      · exact absurd (.inr e) hn
      · exact e
    rw [if_neg hn]
    refine ⟨h1, h2, ?_⟩
    cases limit with
    | none => exact ⟨rfl, Int.le_refl _⟩
    | some l => exact ⟨rfl, Int.min_le_left _ _⟩
theorem fol_ends {W : List Lv} (ok : WOk W) (B : Bk) (limit : Option Int) : ∀ (n : Nat) (sp : Spot) (tick mv : Int), sp.lv < W.length → mu sp tick ≤ n → ∃ r, fol W B limit n sp tick mv = some r
  | 0, sp, tick, mv, _, h => by unfold mu at h; split at h <;> omega
  | n + 1, sp, tick, mv, hl, h => by
    have hall := ok.all _ hl
    have hgt := va_gt (l := lv W sp.lv) (by omega) (by omega) sp.pt tick
    unfold fol
    dsimp only
    split
    · exact ⟨_, rfl⟩
    · have hne := visited_ne ok (B := B) hl tick
      cases hq : (visited W B sp (va (lv W sp.lv) sp.pt tick - 1) (va (lv W sp.lv) sp.pt tick)).getLast? with
      | none => exact absurd (List.getLast?_eq_none_iff.mp hq) hne
      | some o =>
        cases o with
        | none => exact ⟨_, rfl⟩
        | some sp' =>
          have h0 : sp.lv ≠ 0 := fun e => by
            have := visGo_zero (W := W) (B := B) (before := va (lv W sp.lv) sp.pt tick - 1) (now := va (lv W sp.lv) sp.pt tick) (order W B) e (some sp') (List.mem_of_getLast? hq)
            cases this
          obtain ⟨c1, c2, c3, c4⟩ := visGo_last ok _ hq
          have hm : 2 + (sp.due - tick).toNat ≤ n + 1 := by unfold mu at h; rw [if_neg h0] at h; exact h
          have hmu : mu sp' (va (lv W sp.lv) sp.pt tick) ≤ n := by
            unfold mu
            split
            · omega
            · rename_i hz
              rcases c4 with ⟨d1, d2⟩ | ⟨d1, d2⟩
              · rw [c2]; omega
              · exact absurd (by rw [d2]) hz
          dsimp only
          split
          · rename_i hk
            obtain ⟨k1, k2, k3, k4⟩ := skipped_pos hk
            refine fol_ends ok B limit n _ _ _ (spotAt_lt ok _ _ _ _) ?_
            have hs : 0 < va (lv W sp'.lv) sp'.pt (va (lv W sp.lv) sp.pt tick) - va (lv W sp.lv) sp.pt tick := by
              have hall' := ok.all _ c1
              have := va_gt (l := lv W sp'.lv) (by omega) (by omega) sp'.pt (va (lv W sp.lv) sp.pt tick)
              omega
            have hadd : 0 < (skipped W sp' (va (lv W sp.lv) sp.pt tick) limit).1 * (skipped W sp' (va (lv W sp.lv) sp.pt tick) limit).2 := Int.mul_pos hk (by rw [k3]; exact hs)
            have hr := ok.all (W.length - 1) (by have := ok.pos; omega)
            unfold mu
            split
            · omega
            · rw [spotAt_due, c2]
              rw [c2] at k2
              unfold reach at k2
              omega
          · exact fol_ends ok B limit n sp' _ _ c1 hmu
end TwM
/-! Tw: what stands in the heap; the readings' short words -/
namespace Tw
open PySem PySem.Spec PyProof.Rows L2 He TwM
open PySem.W (Frag)

/-! ### operators by short names -/
abbrev oAdd : R2 := rI0 fun i j => .int (i + j)
abbrev oSub : R2 := rI0 fun i j => .int (i - j)
abbrev oMul : R2 := rI CMul fun i j => .int (i * j)
abbrev oDiv : R2 := rI CDiv fun i j => .int (i / j)
abbrev oMod : R2 := rI (fun _ j => 0 < j) fun i j => .int (i % j)
abbrev oPow : R2 := rI CPow fun i j => .int (i ^ j.toNat)
abbrev oDivW : R2 := rI CDivW fun i j => .int (i / j)
abbrev oMulW : R2 := rI CMulW fun i j => .int (i * j)
abbrev oNeg : V → Hp → VK → Prop := rU fun i => .int (-i)
abbrev oLt : R2 := rI0 fun i j => .bl (decide (i < j))
abbrev oLe : R2 := rI0 fun i j => .bl (decide (i ≤ j))
abbrev oGt : R2 := rI0 fun i j => .bl (decide (j < i))
abbrev oGe : R2 := rI0 fun i j => .bl (decide (j ≤ i))
abbrev oAddS : R2 := fun x y H Q => ∃ i j, x = .str i ∧ y = .str j ∧ i.length + j.length ≤ sizeLine ∧ Q (.str (i ++ j)) H
abbrev oIsN : R2 := fun x y H Q => y = .non ∧ Q (.bl (decide (x = .non))) H
abbrev oNotN : R2 := fun x y H Q => y = .non ∧ Q (.bl (!decide (x = .non))) H
abbrev oTru (K : Frag) (ta : TE) : TT := fun σ H Q => ta σ H fun x H' => ∃ k, TruV K x H' k ∧ Q k H'
abbrev oAbs : List V → Hp → VK → Prop := fun xs H Q => ∃ i, xs = [.int i] ∧ Q (.int (if i < 0 then -i else i)) H
abbrev oMax2 : List V → Hp → VK → Prop := fun xs H Q => ∃ i j, xs = [.int i, .int j] ∧ Q (.int (if j > i then j else i)) H
abbrev oMin2 : List V → Hp → VK → Prop := fun xs H Q => ∃ i j, xs = [.int i, .int j] ∧ Q (.int (if j < i then j else i)) H
abbrev oInt1 : List V → Hp → VK → Prop := fun xs H Q => (∃ i, xs = [.int i] ∧ Q (.int i) H) ∨ ∃ k, xs = [.bl k] ∧ Q (.int (if k then 1 else 0)) H
abbrev oBool1 : List V → Hp → VK → Prop := fun xs H Q => (∃ i, xs = [.int i] ∧ Q (.bl (i != 0)) H) ∨ ∃ k, xs = [.bl k] ∧ Q (.bl k) H
abbrev oStrI : List V → Hp → VK → Prop := fun xs H Q => ∃ i, xs = [.int i] ∧ i.natAbs.log2 < 1920 ∧ Q (.str (toString i)) H
abbrev oLen (K : Frag) : List V → Hp → VK → Prop := fun xs H Q => ∃ p ys, xs = [.ref p] ∧ (SqL K H p ys ∨ SqT K H p ys) ∧ Q (.int ys.length) H
abbrev oLenS : List V → Hp → VK → Prop := fun xs H Q => ∃ z, xs = [.str z] ∧ z.length ≤ sizeLine ∧ Q (.int z.length) H
abbrev oTupT (K : Frag) : List V → Hp → VK → Prop := fun xs H Q => ∃ a ys, xs = [.ref a] ∧ SqT K H a ys ∧ Q (.ref a) H
abbrev oTupOf (K : Frag) : List V → Hp → VK → Prop := fun xs H Q => ∃ p ys, xs = [.ref p] ∧ ((SqL K H p ys ∧ ∀ l, H l = none → Q (.ref l) (upd H l (.tup ys))) ∨ (SqT K H p ys ∧ Q (.ref p) H))
abbrev oLstOf (K : Frag) : List V → Hp → VK → Prop := fun xs H Q => ∃ p ys, xs = [.ref p] ∧ (SqL K H p ys ∨ SqT K H p ys) ∧ ∀ l, H l = none → Q (.ref l) (upd H l (.lst ys))
abbrev oSplit : V → List V → Hp → VK → Prop := fun x xs H Q => ∃ a b, x = .str a ∧ xs = [.str b] ∧ (b.length == 0) = false ∧ a.length + 2 ≤ sizeLine ∧ rNewStrs (Txt.split a b) H Q
abbrev oJoin (K : Frag) : V → List V → Hp → VK → Prop := fun x xs H Q => ∃ a p, ∃ ys : List Str, x = .str a ∧ xs = [.ref p] ∧ (SqL K H p (ys.map V.str) ∨ SqT K H p (ys.map V.str)) ∧
  (ys.map (·.length)).sum + ys.length * a.length ≤ 16777216 ∧ Q (.str (Txt.join a ys)) H

theorem sc_ii (i j : Int) : scal (.int i) (.int j) = true := rfl
theorem sc_ss (i j : Str) : scal (.str i) (.str j) = true := rfl
theorem sc_bb (i j : Bool) : scal (.bl i) (.bl j) = true := rfl
theorem sc_ni (j : Int) : scal .non (.int j) = true := rfl
theorem sc_in (j : Int) : scal (.int j) .non = true := rfl
theorem sc_nn : scal .non .non = true := rfl
theorem sc_is (i : Int) (j : Str) : scal (.int i) (.str j) = true := rfl
theorem isi_base {K : Frag} {H : Hp} {Q : VK} {x : V} {t n : String} {b : Bool} (ty : TyX K H x (.type t)) (h : kitB t n = some b) (q : Q (.bl b) H) : rIsi K [x, .ty n] H Q := ⟨x, .ty n, _, _, b, rfl, .ty n, ty, kit_ty h, q⟩
abbrev six : List Str := ["rounding", "action", "order", "due", "zero", "beyond"]
/-- what the readings lean on of the written part -/
structure Klv (K : Frag) (w : World) : Prop where
  cL : Cls K (ga K "Level")
  nLg : NoAttr K (ga K "Level") "kept_grain"
  nLs : NoAttr K (ga K "Level") "kept_slots"
  nLp : NoAttr K (ga K "Level") "kept_span"
  iL : IsiC K (ga K "Level")
  kL : PySem.W.kitOne K (.ref (ga K "Level")) (.ref (ga K "Level")) = some true
structure Kl (K : Frag) (w : World) : Prop extends Klv K w where
  cW : Cls K (ga K "Wheel")
  nWl : NoAttr K (ga K "Wheel") "kept_levels"
structure Kf (K : Frag) (w : World) : Prop extends Kl K w where
  cB : Cls K (ga K "Book")
  nBv : NoAttr K (ga K "Book") "kept_values"
  sw : ∀ H, SqT K H (ga K "SWITCHES") (six.map V.str)
  vd : ∀ x, x ∈ six → KDct K w (ga K "VALUES") x (.ref (dva K (ga K "VALUES") x))
  v0 : ∀ H, SqT K H (dva K (ga K "VALUES") "rounding") [.str "down", .str "up"]
  v1 : ∀ H, SqT K H (dva K (ga K "VALUES") "action") [.str "fire", .str "move"]
  v2 : ∀ H, SqT K H (dva K (ga K "VALUES") "order") [.str "high", .str "low"]
  v3 : ∀ H, SqT K H (dva K (ga K "VALUES") "due") [.str "now", .str "put"]
  v4 : ∀ H, SqT K H (dva K (ga K "VALUES") "zero") [.str "now", .str "one"]
  v5 : ∀ H, SqT K H (dva K (ga K "VALUES") "beyond") [.str "refuse", .str "last", .str "cut"]
/-! ### what stands in the heap -/
structure LOk (l : Lv) : Prop where
  g1 : 1 ≤ l.g
  g2 : l.g ≤ 1000
  s1 : 2 ≤ l.s
  s2 : l.s ≤ 100
def lfs (l : Lv) : List (Str × V) := [("kept_grain", .int l.g), ("kept_slots", .int l.s), ("kept_span", .int l.p)]
structure LvAt (K : Frag) (H : Hp) (a : Addr) (l : Lv) : Prop where
  ok : LOk l
  at_ : ∃ dx, H a = some (.ins (ga K "Level") dx (lfs l))
structure WhAt (K : Frag) (H : Hp) (a : Addr) (W : List Lv) : Prop where
  ok : WOk W
  at_ : ∃ (dx t : Addr) (as : List Addr), H a = some (.ins (ga K "Wheel") dx [("kept_levels", .ref t)]) ∧ H t = some (.tup (as.map V.ref)) ∧ as.length = W.length ∧ ∀ i c, as[i]? = some c → LvAt K H c (lv W i)
def sUp (b : Bool) : Str := if b then "up" else "down"
def sFire (b : Bool) : Str := if b then "fire" else "move"
def sHigh (b : Bool) : Str := if b then "high" else "low"
def sPut (b : Bool) : Str := if b then "put" else "now"
def sZone (b : Bool) : Str := if b then "one" else "now"
def sBey (n : Nat) : Str := match n with | 0 => "refuse" | 1 => "last" | _ => "cut"
def bws (B : Bk) : List Str := [sUp B.up, sFire B.fire, sHigh B.high, sPut B.put, sZone B.zone, sBey B.bey]
structure BkAt (K : Frag) (H : Hp) (a : Addr) (B : Bk) : Prop where
  ok : B.bey < 3
  at_ : ∃ dx t, H a = some (.ins (ga K "Book") dx [("kept_values", .ref t)]) ∧ H t = some (.tup ((bws B).map V.str))
def SpAt (H : Hp) (p : Addr) (sp : Spot) : Prop := H p = some (.tup [.int sp.lv, .int sp.pt, .int sp.due])
def OSp (H : Hp) (v : V) (o : Option Spot) : Prop := match o with
  | none => v = .non
  | some sp => ∃ p, v = .ref p ∧ SpAt H p sp
def OSps (H : Hp) (xs : List V) (os : List (Option Spot)) : Prop := xs.length = os.length ∧ ∀ (i : Nat) (v : V) (o : Option Spot), xs[i]? = some v → os[i]? = some o → OSp H v o
def optI (o : Option Nat) : V := match o with
  | none => .non
  | some i => .int i
def optV (o : Option Int) : V := match o with
  | none => .non
  | some i => .int i
section
variable {K : Frag} {H H' : Hp} {a p : Addr}
theorem LvAt.same {l : Lv} (h : LvAt K H a l) (e : Same H H') : LvAt K H' a l := ⟨h.ok, h.at_.elim fun dx q => ⟨dx, e _ _ q⟩⟩
theorem WhAt.same {W : List Lv} (h : WhAt K H a W) (e : Same H H') : WhAt K H' a W := by
  obtain ⟨ok, dx, t, as, h1, h2, h3, h4⟩ := h
  exact ⟨ok, dx, t, as, e _ _ h1, e _ _ h2, h3, fun i c q => (h4 i c q).same e⟩
theorem BkAt.same {B : Bk} (h : BkAt K H a B) (e : Same H H') : BkAt K H' a B := by
  obtain ⟨ok, dx, t, h1, h2⟩ := h
  exact ⟨ok, dx, t, e _ _ h1, e _ _ h2⟩
theorem SpAt.same {sp : Spot} (h : SpAt H p sp) (e : Same H H') : SpAt H' p sp := e _ _ h
theorem OSp.same {v : V} {o : Option Spot} (h : OSp H v o) (e : Same H H') : OSp H' v o := by
  cases o with
  | none => exact h
  | some sp => exact h.elim fun p q => ⟨p, q.1, q.2.same e⟩
theorem OSps.same {xs : List V} {os : List (Option Spot)} (h : OSps H xs os) (e : Same H H') : OSps H' xs os := ⟨h.1, fun i v o q r => (h.2 i v o q r).same e⟩
theorem OSps.nil : OSps H [] [] := ⟨rfl, fun i v o q => by simp at q⟩
theorem OSps.snoc {xs : List V} {os : List (Option Spot)} {v : V} {o : Option Spot} (h : OSps H xs os) (q : OSp H v o) : OSps H (xs ++ [v]) (os ++ [o]) := by
  refine ⟨by simp [h.1], fun i v' o' e1 e2 => ?_⟩
  rw [List.getElem?_append] at e1 e2
  have hl := h.1
  split at e1
  · rw [if_pos (by omega)] at e2
    exact h.2 i v' o' e1 e2
  · rw [if_neg (by omega)] at e2
    rw [hl] at e1
    cases hk : i - os.length with
    | zero =>
      rw [hk] at e1 e2
      simp at e1 e2
      subst e1 e2
      exact q
    | succ k => rw [hk] at e1; simp at e1
theorem LvAt.inj {l l' : Lv} (h : LvAt K H a l) (h' : LvAt K H a l') : l' = l := by
  obtain ⟨_, dx, h1⟩ := h
  obtain ⟨_, dx', h2⟩ := h'
  rw [h1] at h2
  have h3 := Option.some.inj h2
  injection h3 with _ _ h4
  obtain ⟨g, s, p⟩ := l
  obtain ⟨g', s', p'⟩ := l'
  simp only [lfs, List.cons.injEq, Prod.mk.injEq, V.int.injEq, true_and, and_true] at h4
  obtain ⟨e1, e2, e3⟩ := h4
  rw [e1, e2, e3]
theorem lv_ex {l : Lv} (h : LvAt K H a l) {P : Lv → Prop} : (∃ l', LvAt K H a l' ∧ P l') = P l :=
  propext ⟨fun ⟨l', h', q⟩ => h.inj h' ▸ q, fun q => ⟨l, h, q⟩⟩
theorem lv_ext {W W' : List Lv} (hl : W'.length = W.length) (h : ∀ i, i < W.length → lv W' i = lv W i) : W' = W := by
  refine List.ext_getElem hl fun i h1 h2 => ?_
  have := h i h2
  simpa [lv, List.getD_eq_getElem?_getD, h1, h2] using this
theorem map_inj {α β : Type} {f : α → β} (hf : ∀ a b, f a = f b → a = b) : ∀ {l l' : List α}, l.map f = l'.map f → l = l'
  | [], [], _ => rfl
  | [], _ :: _, h => by simp at h
  | _ :: _, [], h => by simp at h
  | a :: l, b :: l', h => by
    rw [List.map_cons, List.map_cons] at h
    injection h with h1 h2
    rw [hf a b h1, map_inj hf h2]
theorem refs_inj {l l' : List Addr} (h : l.map V.ref = l'.map V.ref) : l = l' := map_inj (fun a b e => V.ref.inj e) h
theorem strs_inj {l l' : List Str} (h : l.map V.str = l'.map V.str) : l = l' := map_inj (fun a b e => V.str.inj e) h
theorem WhAt.inj {W W' : List Lv} (h : WhAt K H a W) (h' : WhAt K H a W') : W' = W := by
  obtain ⟨_, dx, t, as, h1, h2, h3, h4⟩ := h
  obtain ⟨_, dx', t', as', h1', h2', h3', h4'⟩ := h'
  rw [h1] at h1'
  have e1 := Option.some.inj h1'
  injection e1 with _ _ e2
  simp only [List.cons.injEq, Prod.mk.injEq, V.ref.injEq, true_and, and_true] at e2
  subst e2
  rw [h2] at h2'
  have e3 := Option.some.inj h2'
  injection e3 with e4
  have e5 := refs_inj e4
  subst e5
  refine lv_ext (by omega) fun i hi => ?_
  have hi' : i < as.length := by omega
  exact (h4 i _ (List.getElem?_eq_getElem hi')).inj (h4' i _ (List.getElem?_eq_getElem hi'))
theorem wh_ex {W : List Lv} (h : WhAt K H a W) {P : List Lv → Prop} : (∃ W', WhAt K H a W' ∧ P W') = P W :=
  propext ⟨fun ⟨l', h', q⟩ => h.inj h' ▸ q, fun q => ⟨W, h, q⟩⟩
theorem bws_inj {B B' : Bk} (hb : B.bey < 3) (hb' : B'.bey < 3) (h : bws B' = bws B) : B' = B := by
  obtain ⟨u, f, h1, p, z, n⟩ := B
  obtain ⟨u', f', h1', p', z', n'⟩ := B'
  simp only [bws, List.cons.injEq, and_true] at h
  obtain ⟨e1, e2, e3, e4, e5, e6⟩ := h
  have a1 : u' = u := by revert e1; cases u <;> cases u' <;> decide +kernel
  have a2 : f' = f := by revert e2; cases f <;> cases f' <;> decide +kernel
  have a3 : h1' = h1 := by revert e3; cases h1 <;> cases h1' <;> decide +kernel
  have a4 : p' = p := by revert e4; cases p <;> cases p' <;> decide +kernel
  have a5 : z' = z := by revert e5; cases z <;> cases z' <;> decide +kernel
  have a6 : n' = n := by
    dsimp only at hb hb'
    revert e6
    match n, n', hb, hb' with
    | 0, 0, _, _ => decide +kernel
    | 0, 1, _, _ => decide +kernel
    | 0, 2, _, _ => decide +kernel
    | 1, 0, _, _ => decide +kernel
    | 1, 1, _, _ => decide +kernel
    | 1, 2, _, _ => decide +kernel
    | 2, 0, _, _ => decide +kernel
    | 2, 1, _, _ => decide +kernel
    | 2, 2, _, _ => decide +kernel
  rw [a1, a2, a3, a4, a5, a6]
theorem BkAt.inj {B B' : Bk} (h : BkAt K H a B) (h' : BkAt K H a B') : B' = B := by
  obtain ⟨ok, dx, t, h1, h2⟩ := h
  obtain ⟨ok', dx', t', h1', h2'⟩ := h'
  rw [h1] at h1'
  have e1 := Option.some.inj h1'
  injection e1 with _ _ e2
  simp only [List.cons.injEq, Prod.mk.injEq, V.ref.injEq, true_and, and_true] at e2
  subst e2
  rw [h2] at h2'
  have e3 := Option.some.inj h2'
  injection e3 with e4
  exact (bws_inj ok' ok (strs_inj e4)).symm
theorem bk_ex {B : Bk} (h : BkAt K H a B) {P : Bk → Prop} : (∃ B', BkAt K H a B' ∧ P B') = P B :=
  propext ⟨fun ⟨l', h', q⟩ => h.inj h' ▸ q, fun q => ⟨B, h, q⟩⟩
theorem SpAt.inj {s s' : Spot} (h : SpAt H p s) (h' : SpAt H p s') : s' = s := by
  unfold SpAt at h h'
  rw [h] at h'
  have e1 := Option.some.inj h'
  obtain ⟨l, a, b⟩ := s
  obtain ⟨l', a', b'⟩ := s'
  simp only [HO.tup.injEq, List.cons.injEq, V.int.injEq, and_true] at e1
  obtain ⟨e1, e2, e3⟩ := e1
  have e4 : l' = l := by omega
  rw [e4, e2, e3]
theorem sp_ex {s : Spot} (h : SpAt H p s) {P : Spot → Prop} : (∃ s', SpAt H p s' ∧ P s') = P s :=
  propext ⟨fun ⟨l', h', q⟩ => h.inj h' ▸ q, fun q => ⟨s, h, q⟩⟩
theorem sz0 : (0 ≤ sizeLine) = True := eq_true (by decide)
theorem sz1 : (1 ≤ sizeLine) = True := eq_true (by decide)
theorem sz2 : (2 ≤ sizeLine) = True := eq_true (by decide)
theorem sz3 : (3 ≤ sizeLine) = True := eq_true (by decide)
theorem sz4 : (4 ≤ sizeLine) = True := eq_true (by decide)
theorem sz5 : (5 ≤ sizeLine) = True := eq_true (by decide)
theorem sz6 : (6 ≤ sizeLine) = True := eq_true (by decide)
theorem lk1 (x : Str) (v : V) (r : List (Str × V)) : List.lookup x ((x, v) :: r) = some v := by
  rw [List.lookup_cons, show (x == x) = true from beq_self_eq_true x]
theorem lk2 (x y : Str) (v : V) (r : List (Str × V)) (h : (x == y) = false) : List.lookup x ((y, v) :: r) = List.lookup x r := by
  rw [List.lookup_cons, h]
theorem lfs_g (l : Lv) : (lfs l).lookup ("kept_grain" : Str) = some (.int l.g) := lk1 _ _ _
theorem lfs_s (l : Lv) : (lfs l).lookup ("kept_slots" : Str) = some (.int l.s) := by
  unfold lfs
  rw [lk2 _ _ _ _ (by decide +kernel), lk1]
theorem lfs_p (l : Lv) : (lfs l).lookup ("kept_span" : Str) = some (.int l.p) := by
  unfold lfs
  rw [lk2 _ _ _ _ (by decide +kernel), lk2 _ _ _ _ (by decide +kernel), lk1]
theorem sUp_up (b : Bool) : (sUp b = "up") = (b = true) := by cases b <;> decide +kernel
theorem sFire_fire (b : Bool) : (sFire b = "fire") = (b = true) := by cases b <;> decide +kernel
theorem sHigh_high (b : Bool) : (sHigh b = "high") = (b = true) := by cases b <;> decide +kernel
theorem sPut_put (b : Bool) : (sPut b = "put") = (b = true) := by cases b <;> decide +kernel
theorem sZone_now (b : Bool) : (sZone b = "now") = (b = false) := by cases b <;> decide +kernel
theorem sBey_refuse (n : Nat) : (sBey n = "refuse") = (n = 0) := by
  match n with
  | 0 => decide +kernel
  | 1 => decide +kernel
  | n + 2 => exact propext ⟨fun h => absurd h (by show ¬ (("cut" : Str) = "refuse"); decide +kernel), fun h => by omega⟩
theorem sBey_cut (n : Nat) : (sBey n = "cut") = (2 ≤ n) := by
  match n with
  | 0 => exact propext ⟨fun h => absurd h (by decide +kernel), fun h => by omega⟩
  | 1 => exact propext ⟨fun h => absurd h (by decide +kernel), fun h => by omega⟩
  | n + 2 => exact propext ⟨fun h => by omega, fun h => rfl⟩
end
end Tw
/-! Tw: promises and readings of the package's defs -/
namespace Tw
open PySem PySem.Spec PyProof.Rows L2 He TwM
open PySem.W (Frag)
local macro_rules | `(tactic| walk_at "rs") => `(tactic| simp only [and_assoc, tNever, tSeq, tAsg, gName, tVar, tC, tOp, rI, rI0, rU, tUn, oAdd, oSub, oMul, oDiv, oMod, oNeg, oLt, oLe, oGt, oGe, oIsN, oNotN, tFn, tCons, tNil, tIfS, tIf, tTest, tB, tNot, tAnd, tOr, tAndV, tOrV, tNotV,
  tRet, tRetN, tNext, tCB, tDrop, tChain, rEq, rNe, oMax2, oMin2, oInt1, rLenF, L2.start, List.map_cons, List.map_nil, List.length_cons, List.length_nil, List.replicate_succ, List.replicate_zero, List.cons_append, List.nil_append, Nat.reduceAdd, Nat.reduceSub, Nat.zero_add,
  List.set_cons_zero, List.set_cons_succ, List.getElem?_cons_zero, List.getElem?_cons_succ, Option.some.injEq, V.int.injEq, V.ref.injEq, V.str.injEq, V.bl.injEq, exists_eq_left', exists_eq_left, exists_and_left, List.cons.injEq, and_true, true_and, decide_eq_true_eq, sc_ii, sc_ss, sc_bb, sc_ni, sc_in, sc_nn, sc_is, reduceCtorEq,
  Bool.not_eq_true', decide_eq_false_iff_not, if_true, if_false, Bool.false_eq_true, exists_eq', exists_const, false_and, and_false, or_false, false_or, exists_false, Bool.not_not, Bool.not_true, Bool.not_false, sUp_up, sFire_fire, sHigh_high, sPut_put, sZone_now, sBey_refuse, sBey_cut, tTup, tLst, sz0, sz1, sz2, sz3, sz4, sz5, sz6])
section
variable {K : Frag} {w : World}
/-! ### shares -/
def sp_is_integer (K : Frag) : Sp := fun vs H Q _ => ∃ i : Int, vs = [.int i] ∧ Q (.bl true) H
def t_is_integer (K : Frag) (w : World) : TS :=
  (tRet (tAndV (tCB (rIsi K) (tCons (tVar 0) (tCons (tC (.ty "int")) tNil))) (tNotV (tCB (rIsi K) (tCons (tVar 0) (tCons (tC (.ty "bool")) tNil))))))
def n_is_integer : List Str := ["value"]
theorem rd_is_integer (vs : List V) (H : Hp) (Q : VK) (E : XK) (h : sp_is_integer K vs H Q E) : t_is_integer K w { nx := fun _ H' => Q .non H', rt := Q } (start n_is_integer vs) H := by
  obtain ⟨i, rfl, q⟩ := h
  unfold t_is_integer n_is_integer
  walk_at "rs"
  refine isi_base (.base (.int i)) (b := true) (by decide +kernel) ⟨true, rfl, iteT ?_⟩
  exact isi_base (.base (.int i)) (b := false) (by decide +kernel) ⟨false, rfl, q⟩
def sp_is_count (K : Frag) : Sp := fun vs H Q _ => ∃ i : Int, vs = [.int i] ∧ Q (.bl (decide (0 ≤ i))) H
def t_is_count (K : Frag) (w : World) : TS :=
  (tRet (tAndV (tFn (sp_is_integer K) E0 (tCons (tVar 0) tNil)) (tOp oGe (tVar 0) (tC (.int 0)))))
def n_is_count : List Str := ["value"]
theorem rd_is_count (vs : List V) (H : Hp) (Q : VK) (E : XK) (h : sp_is_count K vs H Q E) : t_is_count K w { nx := fun _ H' => Q .non H', rt := Q } (start n_is_count vs) H := by
  obtain ⟨i, rfl, q⟩ := h
  unfold t_is_count n_is_count
  walk_at "rs"
  exact ⟨i, rfl, true, rfl, iteT q⟩
def sp_rounded (K : Frag) : Sp := fun vs H Q _ => ∃ (t g : Int) (u : Bool), vs = [.int t, .int g, .str (sUp u)] ∧ 0 < g ∧ g < 1073741824 ∧ Q (.int (rnd u t g)) H
def t_rounded (K : Frag) (w : World) : TS :=
  (tSeq (tIfS (tTest (tOp rEq (tVar 2) (tC (.str "up")))) (tRet (tUn oNeg (tOp oDiv (tUn oNeg (tVar 0)) (tVar 1)))) tNext)
  (tRet (tOp oDiv (tVar 0) (tVar 1))))
def n_rounded : List Str := ["tick", "grain", "rounding"]
theorem rd_rounded (vs : List V) (H : Hp) (Q : VK) (E : XK) (h : sp_rounded K vs H Q E) : t_rounded K w { nx := fun _ H' => Q .non H', rt := Q } (L2.start n_rounded vs) H := by
  obtain ⟨t, g, u, rfl, h1, h2, q⟩ := h
  unfold t_rounded n_rounded
  walk_at "rs"
  unfold rnd at q
  refine ite2 (fun hu => ?_) fun hu => ?_
  · rw [if_pos hu] at q
    exact ⟨⟨h1, h2⟩, q⟩
  · rw [if_neg hu] at q
    exact ⟨⟨h1, h2⟩, q⟩
def sp_is_within (K : Frag) : Sp := fun vs H Q _ => ∃ (i lo hi : Int), vs = [.int i, .int lo, .int hi] ∧ Q (.bl (decide (lo ≤ i ∧ i ≤ hi))) H
def t_is_within (K : Frag) (w : World) : TS :=
  (tRet (tAndV (tFn (sp_is_integer K) E0 (tCons (tVar 0) tNil)) (tChain oLe oLe (tVar 1) (tVar 0) (tVar 2))))
def n_is_within : List Str := ["value", "low", "high"]
theorem rd_is_within (vs : List V) (H : Hp) (Q : VK) (E : XK) (h : sp_is_within K vs H Q E) : t_is_within K w { nx := fun _ H' => Q .non H', rt := Q } (L2.start n_is_within vs) H := by
  obtain ⟨i, lo, hi, rfl, q⟩ := h
  unfold t_is_within n_is_within
  walk_at "rs"
  refine ⟨i, rfl, true, rfl, iteT ?_⟩
  by_cases h1 : lo ≤ i
  · by_cases h2 : i ≤ hi <;> simpa [h1, h2] using q
  · simpa [h1] using q
local macro_rules | `(tactic| walk_at "rsx") => `(tactic| simp only [*, and_assoc, tNever, List.length_map, tFld, rIxTH, rIxLH, rLenTH, rLenLH, lk1, lfs_g, lfs_s, lfs_p, HO.ins.injEq, HO.tup.injEq, HO.lst.injEq, sp_is_integer, sp_is_count, sp_is_within, sp_rounded, tSeq, tAsg, gName, tVar, tC, tOp, rI, rI0, rU, tUn, oAdd, oSub, oMul, oDiv, oMod, oNeg, oLt, oLe, oGt, oGe, oIsN, oNotN, tFn, tCons, tNil, tIfS, tIf, tTest, tB, tNot, tAnd, tOr, tAndV, tOrV, tNotV,
    tRet, tRetN, tNext, tCB, tDrop, tChain, rEq, rNe, oMax2, oMin2, oInt1, rLenF, L2.start, List.map_cons, List.map_nil, List.length_cons, List.length_nil, List.replicate_succ, List.replicate_zero, List.cons_append, List.nil_append, Nat.reduceAdd, Nat.reduceSub, Nat.zero_add,
    List.set_cons_zero, List.set_cons_succ, List.getElem?_cons_zero, List.getElem?_cons_succ, Option.some.injEq, V.int.injEq, V.ref.injEq, V.str.injEq, V.bl.injEq, exists_eq_left', exists_eq_left, exists_and_left, List.cons.injEq, and_true, true_and, decide_eq_true_eq, sc_ii, sc_ss, sc_bb, sc_ni, sc_in, sc_nn, sc_is, reduceCtorEq,
    Bool.not_eq_true', decide_eq_false_iff_not, if_true, if_false, Bool.false_eq_true, exists_eq', exists_const, false_and, and_false, or_false, false_or, exists_false, Bool.not_not, Bool.not_true, Bool.not_false, sUp_up, sFire_fire, sHigh_high, sPut_put, sZone_now, sBey_refuse, sBey_cut, tTup, tLst, sz0, sz1, sz2, sz3, sz4, sz5, sz6])
/-! ### levels, wheels -/
def sp_Level_grain (K : Frag) : Sp := fun vs H Q _ => ∃ a, vs = [.ref a] ∧ ∃ l, LvAt K H a l ∧ Q (.int l.g) H
def sp_Level_slots (K : Frag) : Sp := fun vs H Q _ => ∃ a, vs = [.ref a] ∧ ∃ l, LvAt K H a l ∧ Q (.int l.s) H
def sp_Level_span (K : Frag) : Sp := fun vs H Q _ => ∃ a, vs = [.ref a] ∧ ∃ l, LvAt K H a l ∧ Q (.int l.p) H
theorem in_Level_grain (K : Frag) : InsAt (ga K "Level") (sp_Level_grain K) := fun vs H Q E ⟨a, e, l, ⟨_, dx, h⟩, _⟩ => ⟨a, dx, _, [], e, h⟩
theorem in_Level_slots (K : Frag) : InsAt (ga K "Level") (sp_Level_slots K) := fun vs H Q E ⟨a, e, l, ⟨_, dx, h⟩, _⟩ => ⟨a, dx, _, [], e, h⟩
theorem in_Level_span (K : Frag) : InsAt (ga K "Level") (sp_Level_span K) := fun vs H Q E ⟨a, e, l, ⟨_, dx, h⟩, _⟩ => ⟨a, dx, _, [], e, h⟩
def t_Level_grain (K : Frag) (w : World) : TS :=
  (tRet (tFld K (tVar 0) "kept_grain"))
def n_Level_grain : List Str := ["self"]
def t_Level_slots (K : Frag) (w : World) : TS :=
  (tRet (tFld K (tVar 0) "kept_slots"))
def n_Level_slots : List Str := ["self"]
def t_Level_span (K : Frag) (w : World) : TS :=
  (tRet (tFld K (tVar 0) "kept_span"))
def n_Level_span : List Str := ["self"]
theorem rd_Level_grain (T : Klv K w) (vs : List V) (H : Hp) (Q : VK) (E : XK) (h : sp_Level_grain K vs H Q E) : t_Level_grain K w { nx := fun _ H' => Q .non H', rt := Q } (L2.start n_Level_grain vs) H := by
  obtain ⟨a, rfl, l, ⟨ok, dx, h⟩, q⟩ := h
  exact ⟨_, rfl, a, _, dx, _, _, rfl, h, T.cL, T.nLg, rfl, q⟩
theorem rd_Level_slots (T : Klv K w) (vs : List V) (H : Hp) (Q : VK) (E : XK) (h : sp_Level_slots K vs H Q E) : t_Level_slots K w { nx := fun _ H' => Q .non H', rt := Q } (L2.start n_Level_slots vs) H := by
  obtain ⟨a, rfl, l, ⟨ok, dx, h⟩, q⟩ := h
  exact ⟨_, rfl, a, _, dx, _, _, rfl, h, T.cL, T.nLs, lfs_s l, q⟩
theorem rd_Level_span (T : Klv K w) (vs : List V) (H : Hp) (Q : VK) (E : XK) (h : sp_Level_span K vs H Q E) : t_Level_span K w { nx := fun _ H' => Q .non H', rt := Q } (L2.start n_Level_span vs) H := by
  obtain ⟨a, rfl, l, ⟨ok, dx, h⟩, q⟩ := h
  exact ⟨_, rfl, a, _, dx, _, _, rfl, h, T.cL, T.nLp, lfs_p l, q⟩

def sp_Wheel_reach (K : Frag) : Sp := fun vs H Q _ => ∃ a, vs = [.ref a] ∧ ∃ W, WhAt K H a W ∧ Q (.int (reach W)) H
theorem in_Wheel_reach (K : Frag) : InsAt (ga K "Wheel") (sp_Wheel_reach K) := fun vs H Q E ⟨a, e, W, ⟨_, dx, _, _, h, _⟩, _⟩ => ⟨a, dx, _, [], e, h⟩
def t_Wheel_reach (K : Frag) (w : World) : TS :=
  (tRet (tFn (sp_Level_span K) E0 (tCons (tOp rIxTH (tFld K (tVar 0) "kept_levels") (tUn oNeg (tC (.int 1)))) tNil)))
def n_Wheel_reach : List Str := ["self"]
theorem rd_Wheel_reach (T : Kl K w) (vs : List V) (H : Hp) (Q : VK) (E : XK) (h : sp_Wheel_reach K vs H Q E) : t_Wheel_reach K w { nx := fun _ H' => Q .non H', rt := Q } (L2.start n_Wheel_reach vs) H := by
  obtain ⟨a, rfl, W, ⟨ok, dx, t, as, h1, h2, h3, h4⟩, q⟩ := h
  have hp := ok.pos
  obtain ⟨c, hc⟩ : ∃ c, as[W.length - 1]? = some c := ⟨as[W.length - 1]'(by omega), List.getElem?_eq_getElem (by omega)⟩
  have hl : atI (as.map V.ref) (-1) = some (.ref c) := by
    unfold atI ixN
    rw [List.length_map, if_neg (by omega), if_pos (by omega), h3]
    show (as.map V.ref)[(-1 + (W.length : Int)).toNat]? = _
    rw [show (-1 + (W.length : Int)).toNat = W.length - 1 by omega, List.getElem?_map, hc]
    rfl
  refine ⟨_, rfl, a, _, dx, _, _, rfl, h1, T.cW, T.nWl, lk1 _ _ _, 1, rfl, t, _, _, _, rfl, rfl, h2, hl, c, rfl, _, h4 _ c hc, q⟩
def sp_Wheel___len__ (K : Frag) : Sp := fun vs H Q _ => ∃ a, vs = [.ref a] ∧ ∃ W, WhAt K H a W ∧ Q (.int W.length) H
theorem in_Wheel___len__ (K : Frag) : InsAt (ga K "Wheel") (sp_Wheel___len__ K) := fun vs H Q E ⟨a, e, W, ⟨_, dx, _, _, h, _⟩, _⟩ => ⟨a, dx, _, [], e, h⟩
theorem ln_Wheel___len__ (K : Frag) : ∀ vs H Q E, sp_Wheel___len__ K vs H Q E → vs.length = 1 := fun vs H Q E ⟨a, e, _⟩ => by rw [e]; rfl
def t_Wheel___len__ (K : Frag) (w : World) : TS :=
  (tRet (tCB rLenTH (tCons (tFld K (tVar 0) "kept_levels") tNil)))
def n_Wheel___len__ : List Str := ["self"]
theorem rd_Wheel___len__ (T : Kl K w) (vs : List V) (H : Hp) (Q : VK) (E : XK) (h : sp_Wheel___len__ K vs H Q E) : t_Wheel___len__ K w { nx := fun _ H' => Q .non H', rt := Q } (L2.start n_Wheel___len__ vs) H := by
  obtain ⟨a, rfl, W, ⟨ok, dx, t, as, h1, h2, h3, h4⟩, q⟩ := h
  have c1 := T.cW
  have c2 := T.nWl
  unfold t_Wheel___len__ n_Wheel___len__
  walk_at "rsx"
local macro_rules | `(tactic| walk_at "rsy") => `(tactic| simp only [*, and_assoc, tNever, List.length_map, tFld, rIxTH, rIxLH, rLenTH, rLenLH, lk1, lfs_g, lfs_s, lfs_p, HO.ins.injEq, HO.tup.injEq, HO.lst.injEq, sp_Level_grain, sp_Level_slots, sp_Level_span, sp_Wheel_reach, sp_Wheel___len__, sp_is_integer, sp_is_count, sp_is_within, sp_rounded, tSeq, tAsg, gName, tVar, tC, tOp, rI, rI0, rU, tUn, oAdd, oSub, oMul, oDiv, oMod, oNeg, oLt, oLe, oGt, oGe, oIsN, oNotN, tFn, tCons, tNil, tIfS, tIf, tTest, tB, tNot, tAnd, tOr, tAndV, tOrV, tNotV,
    tRet, tRetN, tNext, tCB, tDrop, tChain, rEq, rNe, oMax2, oMin2, oInt1, rLenF, L2.start, List.map_cons, List.map_nil, List.length_cons, List.length_nil, List.replicate_succ, List.replicate_zero, List.cons_append, List.nil_append, Nat.reduceAdd, Nat.reduceSub, Nat.zero_add,
    List.set_cons_zero, List.set_cons_succ, List.getElem?_cons_zero, List.getElem?_cons_succ, Option.some.injEq, V.int.injEq, V.ref.injEq, V.str.injEq, V.bl.injEq, exists_eq_left', exists_eq_left, exists_and_left, List.cons.injEq, and_true, true_and, decide_eq_true_eq, sc_ii, sc_ss, sc_bb, sc_ni, sc_in, sc_nn, sc_is, reduceCtorEq,
    Bool.not_eq_true', decide_eq_false_iff_not, if_true, if_false, Bool.false_eq_true, exists_eq', exists_const, false_and, and_false, or_false, false_or, exists_false, Bool.not_not, Bool.not_true, Bool.not_false, sUp_up, sFire_fire, sHigh_high, sPut_put, sZone_now, sBey_refuse, sBey_cut, tTup, tLst, sz0, sz1, sz2, sz3, sz4, sz5, sz6])
def sp_Wheel___getitem__ (K : Frag) : Sp := fun vs H Q _ => ∃ a i, vs = [.ref a, .int i] ∧ ∃ W, WhAt K H a W ∧ 0 ≤ i ∧ i < W.length ∧ ∀ c, LvAt K H c (lv W i.toNat) → Q (.ref c) H
theorem in_Wheel___getitem__ (K : Frag) : InsAt (ga K "Wheel") (sp_Wheel___getitem__ K) := fun vs H Q E ⟨a, i, e, W, ⟨_, dx, _, _, h, _⟩, _⟩ => ⟨a, dx, _, _, e, h⟩
def t_Wheel___getitem__ (K : Frag) (w : World) : TS :=
  (tSeq (tIfS (tNot (tB (tFn (sp_is_within K) E0 (tCons (tVar 1) (tCons (tC (.int 0)) (tCons (tOp oSub (tCB rLenTH (tCons (tFld K (tVar 0) "kept_levels") tNil)) (tC (.int 1))) tNil)))))) tNever tNext)
  (tRet (tOp rIxTH (tFld K (tVar 0) "kept_levels") (tVar 1))))
def n_Wheel___getitem__ : List Str := ["self", "index"]
theorem rd_Wheel___getitem__ (T : Kl K w) (vs : List V) (H : Hp) (Q : VK) (E : XK) (h : sp_Wheel___getitem__ K vs H Q E) : t_Wheel___getitem__ K w { nx := fun _ H' => Q .non H', rt := Q } (L2.start n_Wheel___getitem__ vs) H := by
  obtain ⟨a, i, rfl, W, ⟨ok, dx, t, as, h1, h2, h3, h4⟩, hi0, hi1, q⟩ := h
  have c1 := T.cW
  have c2 := T.nWl
  unfold t_Wheel___getitem__ n_Wheel___getitem__
  walk_at "rsx"
  obtain ⟨j, rfl⟩ : ∃ j : Nat, i = (j : Int) := ⟨i.toNat, by omega⟩
  have hj : j < as.length := by omega
  have hc := List.getElem?_eq_getElem hj
  rw [if_neg (by omega)]
  exact ⟨_, atI_nat (v := V.ref as[j]) (by rw [List.getElem?_map, hc]; rfl), q _ (h4 j _ hc)⟩
def sp_Wheel_level_of (K : Frag) : Sp := fun vs H Q _ => ∃ a d, vs = [.ref a, .int d] ∧ ∃ W, WhAt K H a W ∧ 0 ≤ d ∧ ∀ H', Same H H' → Q (optI (levelOf W d)) H'
def t_Wheel_level_of (K : Frag) (w : World) : TS :=
  (tSeq (tIfS (tNot (tB (tFn (sp_is_count K) E0 (tCons (tVar 1) tNil)))) tNever tNext)
  (tSeq (tFor (iEnT K (tCons (tFld K (tVar 0) "kept_levels") tNil)) (gTup K 2 (gCons (gName 2) (gCons (gName 3) gNil)))
    (tIfS (tTest (tOp oLt (tVar 1) (tFn (sp_Level_span K) E0 (tCons (tVar 3) tNil)))) (tRet (tVar 2)) tNext))
  (tRet (tC .non))))
def n_Wheel_level_of : List Str := ["self", "delay", "index", "level"]
theorem rd_Wheel_level_of (T : Kl K w) (vs : List V) (H : Hp) (Q : VK) (E : XK) (h : sp_Wheel_level_of K vs H Q E) : t_Wheel_level_of K w { nx := fun _ H' => Q .non H', rt := Q } (L2.start n_Wheel_level_of vs) H := by
  obtain ⟨a, d, rfl, W, hW, hd, q⟩ := h
  obtain ⟨ok, dx, t, as, h1, h2, h3, h4⟩ := hW
  have c1 := T.cW
  have c2 := T.nWl
  unfold t_Wheel_level_of n_Wheel_level_of
  walk_at "rsx"
  refine ⟨_, rfl, a, _, _, _, _, rfl, h1, c1, c2, lk1 _ _ _, t, _, rfl, SqT.of h2, for_enT (xs := as.map V.ref)
    (fun i σ H' => ∃ v2 v3, σ = [some (.ref a), some (.int d), v2, v3] ∧ Same H H' ∧ ∀ j, j < i → (lv W j).p ≤ d) ⟨none, none, rfl, Same.refl H, fun j hj => by omega⟩ (fun i σ H' ⟨_, _, _, s, _⟩ => SqT.of (s _ _ h2)) ?_ ?_⟩
  · rintro i x p σ H1 hx ⟨v2, v3, rfl, s, hp⟩ hn
    obtain ⟨c, hc, rfl⟩ : ∃ c, as[i]? = some c ∧ x = V.ref c := by
      rw [List.getElem?_map] at hx
      cases e : as[i]? with
      | none => rw [e] at hx; cases hx
      | some c => rw [e] at hx; exact ⟨c, rfl, (Option.some.inj hx).symm⟩
    have hi : i < W.length := by have := (List.getElem?_eq_some_iff.mp hc).1; omega
    have s' : Same H (upd H1 p (.tup [.int (i : Nat), .ref c])) := s.trans (Same.new hn)
    refine ⟨p, _, rfl, SqT.of upd_same, rfl, _, _, rfl, _, _, rfl, rfl, ?_⟩
    have e := @lv_ex K _ c (lv W i) ((h4 i c hc).same s')
    walk_at "rsy"
    refine ite2 (fun hlt => ?_) fun hge => ?_
    · have : levelOf W d = some i := levelOf_is hi hp hlt
      have q' := q _ s'
      rw [this] at q'
      exact q'
    · refine fun j hj => ?_
      by_cases hji : j = i
      · subst hji; omega
      · exact hp j (by omega)
  · rintro σ H1 ⟨v2, v3, rfl, s, hp⟩
    have : levelOf W d = none := levelOf_isN fun j hj => hp j (by simpa [h3] using hj)
    have q' := q _ s
    rw [this] at q'
    exact q'
def sp_visit_after (K : Frag) : Sp := fun vs H Q _ => ∃ a pt now, vs = [.ref a, .int pt, .int now] ∧ ∃ l, LvAt K H a l ∧ Q (.int (va l pt now)) H
def t_visit_after (K : Frag) (w : World) : TS :=
  (tSeq (tAsg (tOp oDiv (tVar 2) (tFn (sp_Level_grain K) E0 (tCons (tVar 0) tNil))) (gName 3))
  (tRet (tOp oMul (tOp oAdd (tOp oAdd (tVar 3) (tC (.int 1))) (tOp oMod (tOp oSub (tOp oSub (tVar 1) (tVar 3)) (tC (.int 1))) (tFn (sp_Level_slots K) E0 (tCons (tVar 0) tNil)))) (tFn (sp_Level_grain K) E0 (tCons (tVar 0) tNil)))))
def n_visit_after : List Str := ["level", "point", "now", "base"]
theorem rd_visit_after (vs : List V) (H : Hp) (Q : VK) (E : XK) (h : sp_visit_after K vs H Q E) : t_visit_after K w { nx := fun _ H' => Q .non H', rt := Q } (L2.start n_visit_after vs) H := by
  obtain ⟨a, pt, now, rfl, l, hL, q⟩ := h
  obtain ⟨h1, h2, h3, h4⟩ := hL.ok
  have e := @lv_ex K H a l hL
  unfold t_visit_after n_visit_after
  walk_at "rsy"
  exact ⟨⟨by omega, by omega⟩, by omega, .inr ⟨by omega, by omega⟩, q⟩
def sp_is_visited (K : Frag) : Sp := fun vs H Q _ => ∃ a pt before now, vs = [.ref a, .int pt, .int before, .int now] ∧ ∃ l, LvAt K H a l ∧ Q (.bl (isVis l pt before now)) H
def t_is_visited (K : Frag) (w : World) : TS :=
  (tSeq (tAsg (tOp oDiv (tVar 2) (tFn (sp_Level_grain K) E0 (tCons (tVar 0) tNil))) (gName 4))
  (tSeq (tAsg (tOp oSub (tOp oDiv (tVar 3) (tFn (sp_Level_grain K) E0 (tCons (tVar 0) tNil))) (tVar 4)) (gName 5))
  (tRet (tOp oLt (tOp oMod (tOp oSub (tOp oSub (tVar 1) (tVar 4)) (tC (.int 1))) (tFn (sp_Level_slots K) E0 (tCons (tVar 0) tNil))) (tVar 5)))))
def n_is_visited : List Str := ["level", "point", "before", "now", "base", "many"]
theorem rd_is_visited (vs : List V) (H : Hp) (Q : VK) (E : XK) (h : sp_is_visited K vs H Q E) : t_is_visited K w { nx := fun _ H' => Q .non H', rt := Q } (L2.start n_is_visited vs) H := by
  obtain ⟨a, pt, before, now, rfl, l, hL, q⟩ := h
  obtain ⟨h1, h2, h3, h4⟩ := hL.ok
  have e := @lv_ex K H a l hL
  unfold t_is_visited n_is_visited
  walk_at "rsy"
  exact ⟨⟨by omega, by omega⟩, ⟨by omega, by omega⟩, by omega, q⟩
/-! ### books -/
def sp_Book_rounding (K : Frag) : Sp := fun vs H Q _ => ∃ a, vs = [.ref a] ∧ ∃ B, BkAt K H a B ∧ Q (.str (sUp B.up)) H
theorem in_Book_rounding (K : Frag) : InsAt (ga K "Book") (sp_Book_rounding K) := fun vs H Q E ⟨a, e, B, ⟨_, dx, _, h, _⟩, _⟩ => ⟨a, dx, _, [], e, h⟩
def t_Book_rounding (K : Frag) (w : World) : TS :=
  (tRet (tOp rIxTH (tFld K (tVar 0) "kept_values") (tC (.int 0))))
def n_Book_rounding : List Str := ["self"]
theorem rd_Book_rounding (T : Kf K w) (vs : List V) (H : Hp) (Q : VK) (E : XK) (h : sp_Book_rounding K vs H Q E) : t_Book_rounding K w { nx := fun _ H' => Q .non H', rt := Q } (L2.start n_Book_rounding vs) H := by
  obtain ⟨a, rfl, B, ⟨ok, dx, t, h1, h2⟩, q⟩ := h
  have c1 := T.cB
  have c2 := T.nBv
  unfold t_Book_rounding n_Book_rounding
  walk_at "rsx"
  exact ⟨_, rfl, q⟩
def sp_Book_action (K : Frag) : Sp := fun vs H Q _ => ∃ a, vs = [.ref a] ∧ ∃ B, BkAt K H a B ∧ Q (.str (sFire B.fire)) H
theorem in_Book_action (K : Frag) : InsAt (ga K "Book") (sp_Book_action K) := fun vs H Q E ⟨a, e, B, ⟨_, dx, _, h, _⟩, _⟩ => ⟨a, dx, _, [], e, h⟩
def t_Book_action (K : Frag) (w : World) : TS :=
  (tRet (tOp rIxTH (tFld K (tVar 0) "kept_values") (tC (.int 1))))
def n_Book_action : List Str := ["self"]
theorem rd_Book_action (T : Kf K w) (vs : List V) (H : Hp) (Q : VK) (E : XK) (h : sp_Book_action K vs H Q E) : t_Book_action K w { nx := fun _ H' => Q .non H', rt := Q } (L2.start n_Book_action vs) H := by
  obtain ⟨a, rfl, B, ⟨ok, dx, t, h1, h2⟩, q⟩ := h
  have c1 := T.cB
  have c2 := T.nBv
  unfold t_Book_action n_Book_action
  walk_at "rsx"
  exact ⟨_, rfl, q⟩
def sp_Book_order (K : Frag) : Sp := fun vs H Q _ => ∃ a, vs = [.ref a] ∧ ∃ B, BkAt K H a B ∧ Q (.str (sHigh B.high)) H
theorem in_Book_order (K : Frag) : InsAt (ga K "Book") (sp_Book_order K) := fun vs H Q E ⟨a, e, B, ⟨_, dx, _, h, _⟩, _⟩ => ⟨a, dx, _, [], e, h⟩
def t_Book_order (K : Frag) (w : World) : TS :=
  (tRet (tOp rIxTH (tFld K (tVar 0) "kept_values") (tC (.int 2))))
def n_Book_order : List Str := ["self"]
theorem rd_Book_order (T : Kf K w) (vs : List V) (H : Hp) (Q : VK) (E : XK) (h : sp_Book_order K vs H Q E) : t_Book_order K w { nx := fun _ H' => Q .non H', rt := Q } (L2.start n_Book_order vs) H := by
  obtain ⟨a, rfl, B, ⟨ok, dx, t, h1, h2⟩, q⟩ := h
  have c1 := T.cB
  have c2 := T.nBv
  unfold t_Book_order n_Book_order
  walk_at "rsx"
  exact ⟨_, rfl, q⟩
def sp_Book_due (K : Frag) : Sp := fun vs H Q _ => ∃ a, vs = [.ref a] ∧ ∃ B, BkAt K H a B ∧ Q (.str (sPut B.put)) H
theorem in_Book_due (K : Frag) : InsAt (ga K "Book") (sp_Book_due K) := fun vs H Q E ⟨a, e, B, ⟨_, dx, _, h, _⟩, _⟩ => ⟨a, dx, _, [], e, h⟩
def t_Book_due (K : Frag) (w : World) : TS :=
  (tRet (tOp rIxTH (tFld K (tVar 0) "kept_values") (tC (.int 3))))
def n_Book_due : List Str := ["self"]
theorem rd_Book_due (T : Kf K w) (vs : List V) (H : Hp) (Q : VK) (E : XK) (h : sp_Book_due K vs H Q E) : t_Book_due K w { nx := fun _ H' => Q .non H', rt := Q } (L2.start n_Book_due vs) H := by
  obtain ⟨a, rfl, B, ⟨ok, dx, t, h1, h2⟩, q⟩ := h
  have c1 := T.cB
  have c2 := T.nBv
  unfold t_Book_due n_Book_due
  walk_at "rsx"
  exact ⟨_, rfl, q⟩
def sp_Book_zero (K : Frag) : Sp := fun vs H Q _ => ∃ a, vs = [.ref a] ∧ ∃ B, BkAt K H a B ∧ Q (.str (sZone B.zone)) H
theorem in_Book_zero (K : Frag) : InsAt (ga K "Book") (sp_Book_zero K) := fun vs H Q E ⟨a, e, B, ⟨_, dx, _, h, _⟩, _⟩ => ⟨a, dx, _, [], e, h⟩
def t_Book_zero (K : Frag) (w : World) : TS :=
  (tRet (tOp rIxTH (tFld K (tVar 0) "kept_values") (tC (.int 4))))
def n_Book_zero : List Str := ["self"]
theorem rd_Book_zero (T : Kf K w) (vs : List V) (H : Hp) (Q : VK) (E : XK) (h : sp_Book_zero K vs H Q E) : t_Book_zero K w { nx := fun _ H' => Q .non H', rt := Q } (L2.start n_Book_zero vs) H := by
  obtain ⟨a, rfl, B, ⟨ok, dx, t, h1, h2⟩, q⟩ := h
  have c1 := T.cB
  have c2 := T.nBv
  unfold t_Book_zero n_Book_zero
  walk_at "rsx"
  exact ⟨_, rfl, q⟩
def sp_Book_beyond (K : Frag) : Sp := fun vs H Q _ => ∃ a, vs = [.ref a] ∧ ∃ B, BkAt K H a B ∧ Q (.str (sBey B.bey)) H
theorem in_Book_beyond (K : Frag) : InsAt (ga K "Book") (sp_Book_beyond K) := fun vs H Q E ⟨a, e, B, ⟨_, dx, _, h, _⟩, _⟩ => ⟨a, dx, _, [], e, h⟩
def t_Book_beyond (K : Frag) (w : World) : TS :=
  (tRet (tOp rIxTH (tFld K (tVar 0) "kept_values") (tC (.int 5))))
def n_Book_beyond : List Str := ["self"]
theorem rd_Book_beyond (T : Kf K w) (vs : List V) (H : Hp) (Q : VK) (E : XK) (h : sp_Book_beyond K vs H Q E) : t_Book_beyond K w { nx := fun _ H' => Q .non H', rt := Q } (L2.start n_Book_beyond vs) H := by
  obtain ⟨a, rfl, B, ⟨ok, dx, t, h1, h2⟩, q⟩ := h
  have c1 := T.cB
  have c2 := T.nBv
  unfold t_Book_beyond n_Book_beyond
  walk_at "rsx"
  exact ⟨_, rfl, q⟩
local macro_rules | `(tactic| walk_at "rsz") => `(tactic| simp only [*, and_assoc, tNever, List.length_map, tFld, rIxTH, rIxLH, rLenTH, rLenLH, lk1, lfs_g, lfs_s, lfs_p, HO.ins.injEq, HO.tup.injEq, HO.lst.injEq, sp_Book_rounding, sp_Book_action, sp_Book_order, sp_Book_due, sp_Book_zero, sp_Book_beyond, Int.toNat_natCast, sp_visit_after, sp_is_visited, sp_Level_grain, sp_Level_slots, sp_Level_span, sp_Wheel_reach, sp_Wheel___len__, sp_is_integer, sp_is_count, sp_is_within, sp_rounded, tSeq, tAsg, gName, tVar, tC, tOp, rI, rI0, rU, tUn, oAdd, oSub, oMul, oDiv, oMod, oNeg, oLt, oLe, oGt, oGe, oIsN, oNotN, tFn, tCons, tNil, tIfS, tIf, tTest, tB, tNot, tAnd, tOr, tAndV, tOrV, tNotV,
    tRet, tRetN, tNext, tCB, tDrop, tChain, rEq, rNe, oMax2, oMin2, oInt1, rLenF, L2.start, List.map_cons, List.map_nil, List.length_cons, List.length_nil, List.replicate_succ, List.replicate_zero, List.cons_append, List.nil_append, Nat.reduceAdd, Nat.reduceSub, Nat.zero_add,
    List.set_cons_zero, List.set_cons_succ, List.getElem?_cons_zero, List.getElem?_cons_succ, Option.some.injEq, V.int.injEq, V.ref.injEq, V.str.injEq, V.bl.injEq, exists_eq_left', exists_eq_left, exists_and_left, List.cons.injEq, and_true, true_and, decide_eq_true_eq, sc_ii, sc_ss, sc_bb, sc_ni, sc_in, sc_nn, sc_is, reduceCtorEq,
    Bool.not_eq_true', decide_eq_false_iff_not, if_true, if_false, Bool.false_eq_true, exists_eq', exists_const, false_and, and_false, or_false, false_or, exists_false, Bool.not_not, Bool.not_true, Bool.not_false, sUp_up, sFire_fire, sHigh_high, sPut_put, sZone_now, sBey_refuse, sBey_cut, tTup, tLst, sz0, sz1, sz2, sz3, sz4, sz5, sz6])
/-! ### points -/
def sp_spot_at (K : Frag) : Sp := fun vs H Q _ => ∃ (a b : Addr) (now rest due : Int), vs = [.ref a, .ref b, .int now, .int rest, .int due] ∧ ∃ W B, WhAt K H a W ∧ BkAt K H b B ∧ 0 ≤ rest ∧
  ∀ p H', Same H H' → SpAt H' p (spotAt W B now rest due) → Q (.ref p) H'
def t_spot_at (K : Frag) (w : World) : TS :=
  (tSeq (tAsg (tMethR (ga K "Wheel") "level_of" (sp_Wheel_level_of K) E0 (tVar 0) (tCons (tVar 3) tNil)) (gName 5))
  (tSeq (tAsg (tOp oAdd (tVar 2) (tVar 3)) (gName 6))
  (tSeq (tIfS (tTest (tOp oIsN (tVar 5) (tC .non))) (tSeq (tAsg (tOp oSub (tCB (rLenF (sp_Wheel___len__ K) E0) (tCons (tVar 0) tNil)) (tC (.int 1))) (gName 5))
  (tAsg (tOp oSub (tOp oAdd (tVar 2) (tFn (sp_Wheel_reach K) E0 (tCons (tVar 0) tNil))) (tC (.int 1))) (gName 6))) tNext)
  (tRet (tTup (tCons (tVar 5) (tCons (tFn (sp_rounded K) E0 (tCons (tVar 6) (tCons (tFn (sp_Level_grain K) E0 (tCons (tFn (sp_Wheel___getitem__ K) E0 (tCons (tVar 0) (tCons (tVar 5) tNil))) tNil)) (tCons (tFn (sp_Book_rounding K) E0 (tCons (tVar 1) tNil)) tNil)))) (tCons (tVar 4) tNil))))))))
def n_spot_at : List Str := ["wheel", "book", "now", "rest", "due", "index", "end"]
theorem rd_spot_at (vs : List V) (H : Hp) (Q : VK) (E : XK) (h : sp_spot_at K vs H Q E) : t_spot_at K w { nx := fun _ H' => Q .non H', rt := Q } (L2.start n_spot_at vs) H := by
  obtain ⟨a, b, now, rest, due, rfl, W, B, hW, hB, hr, q⟩ := h
  obtain ⟨ok, dx, t, as, h1, h2, h3, h4⟩ := id hW
  unfold t_spot_at n_spot_at
  refine ⟨_, rfl, a, dx, _, rfl, h1, rfl, _, rfl, a, rest, rfl, W, hW, hr, fun H1 s1 => ?_⟩
  have hW1 := hW.same s1
  have eW := @wh_ex K H1 a W hW1
  have eB := @bk_ex K H1 b B (hB.same s1)
  have hlen := ok.pos
  have hl5 := ok.len
  cases hl : levelOf W rest with
  | some i =>
    obtain ⟨hi, hd⟩ := levelOf_lt hl
    have hg := ok.all i hi
    have q' : ∀ p H', Same H H' → SpAt H' p ⟨i, rnd B.up (now + rest) (lv W i).g, due⟩ → Q (.ref p) H' := fun p H' s z => q p H' s (by unfold spotAt; rw [hl]; exact z)
    unfold optI
    walk_at "rsz"
    refine ⟨a, i, rfl, W, hW1, by omega, by omega, fun c hc => ?_⟩
    have eL := @lv_ex K H1 c (lv W i) hc
    walk_at "rsz"
    refine ⟨_, rfl, by omega, by omega, fun p hp => q' p _ (s1.trans (Same.new hp)) upd_same⟩
  | none =>
    have hg := ok.all (W.length - 1) (by omega)
    have ei : ((W.length : Int) - 1) = ((W.length - 1 : Nat) : Int) := by omega
    have q' : ∀ p H', Same H H' → SpAt H' p ⟨W.length - 1, rnd B.up (now + reach W - 1) (lv W (W.length - 1)).g, due⟩ → Q (.ref p) H' := fun p H' s z => q p H' s (by unfold spotAt; rw [hl]; exact z)
    unfold optI
    walk_at "rsz"
    refine ⟨by omega, by omega, a, (W.length - 1 : Nat), rfl, W, hW1, by omega, by omega, fun c hc => ?_⟩
    have eL := @lv_ex K H1 c (lv W (W.length - 1)) hc
    walk_at "rsz"
    exact ⟨_, rfl, by omega, by omega, fun p hp => q' p _ (s1.trans (Same.new hp)) upd_same⟩
end
end Tw
/-! Tw: readings of placing, visiting, following -/
namespace Tw
open PySem PySem.Spec PyProof.Rows L2 He TwM
open PySem.W (Frag)
local macro_rules | `(tactic| walk_at "rsz") => `(tactic| simp only [*, and_assoc, not_true_eq_false, not_false_eq_true, tNever, List.length_map, tFld, rIxTH, rIxLH, rLenTH, rLenLH, lk1, lfs_g, lfs_s, lfs_p, HO.ins.injEq, HO.tup.injEq, HO.lst.injEq, sp_Book_rounding, sp_Book_action, sp_Book_order, sp_Book_due, sp_Book_zero, sp_Book_beyond, Int.toNat_natCast, sp_visit_after, sp_is_visited, sp_Level_grain, sp_Level_slots, sp_Level_span, sp_Wheel_reach, sp_Wheel___len__, sp_is_integer, sp_is_count, sp_is_within, sp_rounded, tSeq, tAsg, gName, tVar, tC, tOp, rI, rI0, rU, tUn, oAdd, oSub, oMul, oDiv, oMod, oNeg, oLt, oLe, oGt, oGe, oIsN, oNotN, tFn, tCons, tNil, tIfS, tIf, tTest, tB, tNot, tAnd, tOr, tAndV, tOrV, tNotV,
    tRet, tRetN, tNext, tCB, tDrop, tChain, rEq, rNe, oMax2, oMin2, oInt1, rLenF, L2.start, List.map_cons, List.map_nil, List.length_cons, List.length_nil, List.replicate_succ, List.replicate_zero, List.cons_append, List.nil_append, Nat.reduceAdd, Nat.reduceSub, Nat.zero_add,
    List.set_cons_zero, List.set_cons_succ, List.getElem?_cons_zero, List.getElem?_cons_succ, Option.some.injEq, V.int.injEq, V.ref.injEq, V.str.injEq, V.bl.injEq, exists_eq_left', exists_eq_left, exists_and_left, List.cons.injEq, and_true, true_and, decide_eq_true_eq, sc_ii, sc_ss, sc_bb, sc_ni, sc_in, sc_nn, sc_is, reduceCtorEq,
    Bool.not_eq_true', decide_eq_false_iff_not, if_true, if_false, Bool.false_eq_true, exists_eq', exists_const, false_and, and_false, or_false, false_or, exists_false, Bool.not_not, Bool.not_true, Bool.not_false, sUp_up, sFire_fire, sHigh_high, sPut_put, sZone_now, sBey_refuse, sBey_cut, tTup, tLst, sz0, sz1, sz2, sz3, sz4, sz5, sz6])
theorem at3_0 (a b c : V) : atI [a, b, c] 0 = some a := rfl
theorem at3_1 (a b c : V) : atI [a, b, c] 1 = some b := rfl
theorem at3_2 (a b c : V) : atI [a, b, c] 2 = some c := rfl
theorem at2_0 (a b : V) : atI [a, b] 0 = some a := rfl
theorem at2_1 (a b : V) : atI [a, b] 1 = some b := rfl
theorem atI_m1 {xs : List V} {v : V} (h : xs.getLast? = some v) : atI xs (-1) = some v := by
  have hne : xs ≠ [] := fun e => by rw [e] at h; simp at h
  have e : xs = xs.dropLast ++ [v] := by
    rw [List.getLast?_eq_some_getLast hne] at h
    rw [← Option.some.inj h]
    exact (List.dropLast_concat_getLast hne).symm
  rw [e]
  exact atI_last _ _
theorem Same.updN {H H1 : Hp} {f : Addr} {o : HO} (s : Same H H1) (hn : H f = none) : Same H (upd H1 f o) := fun a u e => by
  rw [upd_ne (ne_of_none e hn)]
  exact s _ _ e
theorem OSp.updL {H : Hp} {v : V} {o : Option Spot} {f : Addr} {xs : List V} {u : HO} (h : OSp H v o) (hf : H f = some (.lst xs)) : OSp (upd H f u) v o := by
  cases o with
  | none => exact h
  | some sp =>
    obtain ⟨p, e, hp⟩ := h
    refine ⟨p, e, ?_⟩
    unfold SpAt at hp ⊢
    rw [upd_ne (fun e => by rw [e, hf] at hp; cases hp)]
    exact hp
theorem OSps.updL {H : Hp} {vs : List V} {os : List (Option Spot)} {f : Addr} {xs : List V} {u : HO} (h : OSps H vs os) (hf : H f = some (.lst xs)) : OSps (upd H f u) vs os := ⟨h.1, fun i v o q r => (h.2 i v o q r).updL hf⟩
section
variable {K : Frag} {w : World}
def placeM (W : List Lv) (B : Bk) (now delay : Int) : Option Spot :=
  if delay = 0 ∧ B.zone = false then none
  else
    let r0 := if 1 > delay then 1 else delay
    let r := if reach W ≤ r0 ∧ B.bey = 2 then reach W - 1 else r0
    some (spotAt W B now r (now + r))
def sp_place (K : Frag) : Sp := fun vs H Q _ => ∃ (a b : Addr) (now delay : Int), vs = [.ref a, .ref b, .int now, .int delay] ∧ ∃ W B, WhAt K H a W ∧ BkAt K H b B ∧ 0 ≤ now ∧ 0 ≤ delay ∧ (reach W ≤ delay → B.bey ≠ 0) ∧
  ∀ v H', Same H H' → OSp H' v (placeM W B now delay) → Q v H'
def t_place (K : Frag) (w : World) : TS :=
  (tSeq (tIfS (tNot (tB (tFn (sp_is_count K) E0 (tCons (tVar 2) tNil)))) tNever tNext)
  (tSeq (tIfS (tNot (tB (tFn (sp_is_count K) E0 (tCons (tVar 3) tNil)))) tNever tNext)
  (tSeq (tIfS (tAnd (tTest (tOp rEq (tVar 3) (tC (.int 0)))) (tTest (tOp rEq (tFn (sp_Book_zero K) E0 (tCons (tVar 1) tNil)) (tC (.str "now"))))) (tRet (tC .non)) tNext)
  (tSeq (tAsg (tCB oMax2 (tCons (tVar 3) (tCons (tC (.int 1)) tNil))) (gName 4))
  (tSeq (tIfS (tAnd (tTest (tOp oGe (tVar 4) (tFn (sp_Wheel_reach K) E0 (tCons (tVar 0) tNil)))) (tTest (tOp rEq (tFn (sp_Book_beyond K) E0 (tCons (tVar 1) tNil)) (tC (.str "refuse"))))) tNever tNext)
  (tSeq (tIfS (tAnd (tTest (tOp oGe (tVar 4) (tFn (sp_Wheel_reach K) E0 (tCons (tVar 0) tNil)))) (tTest (tOp rEq (tFn (sp_Book_beyond K) E0 (tCons (tVar 1) tNil)) (tC (.str "cut"))))) (tAsg (tOp oSub (tFn (sp_Wheel_reach K) E0 (tCons (tVar 0) tNil)) (tC (.int 1))) (gName 4)) tNext)
  (tRet (tFn (sp_spot_at K) E0 (tCons (tVar 0) (tCons (tVar 1) (tCons (tVar 2) (tCons (tVar 4) (tCons (tOp oAdd (tVar 2) (tVar 4)) tNil)))))))))))))
def n_place : List Str := ["wheel", "book", "now", "delay", "rest"]
theorem rd_place (vs : List V) (H : Hp) (Q : VK) (E : XK) (h : sp_place K vs H Q E) : t_place K w { nx := fun _ H' => Q .non H', rt := Q } (L2.start n_place vs) H := by
  obtain ⟨a, b, now, delay, rfl, W, B, hW, hB, hn, hd, hr, q⟩ := h
  have hre : 2 ≤ reach W := (hW.ok.all (W.length - 1) (by have := hW.ok.pos; omega)).2.2.2.2
  have eW := @wh_ex K H a W hW
  have eB := @bk_ex K H b B hB
  have hb3 := hB.ok
  have key : ∀ r : Int, 0 ≤ r → (∀ v H', Same H H' → OSp H' v (some (spotAt W B now r (now + r))) → Q v H') → sp_spot_at K [.ref a, .ref b, .int now, .int r, .int (now + r)] H Q E0 :=
    fun r hr q => ⟨a, b, now, r, now + r, rfl, W, B, hW, hB, hr, fun p H' s z => q _ _ s ⟨p, rfl, z⟩⟩
  unfold t_place n_place
  walk_at "rsz"
  unfold placeM at q
  generalize hg : (if 1 > delay then 1 else delay) = r0 at q ⊢
  have h1 : 1 ≤ r0 := by rw [← hg]; split <;> omega
  have h2 : reach W ≤ r0 → B.bey ≠ 0 := fun h => hr (by rw [← hg] at h; split at h <;> omega)
  by_cases hz : delay = 0 ∧ B.zone = false
  · rw [if_pos hz] at q
    rw [if_pos hz.1, if_pos hz.2]
    exact q _ _ (Same.refl H) rfl
  · rw [if_neg hz] at q
    dsimp only at q
    by_cases hl : reach W ≤ r0
    · have hb := h2 hl
      by_cases hc : 2 ≤ B.bey
      · have q' := key (reach W - 1) (by omega) (by have := q; rw [if_pos ⟨hl, by omega⟩] at this; exact this)
        repeat' (refine ite2 (fun _ => ?_) fun _ => ?_)
        all_goals first | exact q' | (exact absurd ⟨by assumption, by assumption⟩ hz) | (exfalso; omega)
      · have q' := key r0 (by omega) (by have := q; rw [if_neg (fun z : reach W ≤ r0 ∧ B.bey = 2 => hc (by omega))] at this; exact this)
        repeat' (refine ite2 (fun _ => ?_) fun _ => ?_)
        all_goals first | exact q' | (exact absurd ⟨by assumption, by assumption⟩ hz) | (exfalso; omega)
    · have q' := key r0 (by omega) (by have := q; rw [if_neg (fun z : reach W ≤ r0 ∧ B.bey = 2 => hl z.1)] at this; exact this)
      repeat' (refine ite2 (fun _ => ?_) fun _ => ?_)
      all_goals first | exact q' | (exact absurd ⟨by assumption, by assumption⟩ hz) | (exfalso; omega)
def sp_taken_out (K : Frag) : Sp := fun vs H Q _ => ∃ (a b p : Addr) (tick : Int), vs = [.ref a, .ref b, .ref p, .int tick] ∧ ∃ W B sp, WhAt K H a W ∧ BkAt K H b B ∧ SpAt H p sp ∧ ∀ v H', Same H H' → OSp H' v (taken W B sp tick) → Q v H'
local macro_rules | `(tactic| walk_at "rst") => `(tactic| simp only [*, at3_0, at3_1, at3_2, at2_0, at2_1, and_assoc, not_true_eq_false, not_false_eq_true, tNever, List.length_map, tFld, rIxTH, rIxLH, rLenTH, rLenLH, lk1, lfs_g, lfs_s, lfs_p, HO.ins.injEq, HO.tup.injEq, HO.lst.injEq, sp_Book_rounding, sp_Book_action, sp_Book_order, sp_Book_due, sp_Book_zero, sp_Book_beyond, Int.toNat_natCast, sp_visit_after, sp_is_visited, sp_Level_grain, sp_Level_slots, sp_Level_span, sp_Wheel_reach, sp_Wheel___len__, sp_is_integer, sp_is_count, sp_is_within, sp_rounded, tSeq, tAsg, gName, tVar, tC, tOp, rI, rI0, rU, tUn, oAdd, oSub, oMul, oDiv, oMod, oNeg, oLt, oLe, oGt, oGe, oIsN, oNotN, tFn, tCons, tNil, tIfS, tIf, tTest, tB, tNot, tAnd, tOr, tAndV, tOrV, tNotV,
    tRet, tRetN, tNext, tCB, tDrop, tChain, rEq, rNe, oMax2, oMin2, oInt1, rLenF, L2.start, List.map_cons, List.map_nil, List.length_cons, List.length_nil, List.replicate_succ, List.replicate_zero, List.cons_append, List.nil_append, Nat.reduceAdd, Nat.reduceSub, Nat.zero_add,
    List.set_cons_zero, List.set_cons_succ, List.getElem?_cons_zero, List.getElem?_cons_succ, Option.some.injEq, V.int.injEq, V.ref.injEq, V.str.injEq, V.bl.injEq, exists_eq_left', exists_eq_left, exists_and_left, List.cons.injEq, and_true, true_and, decide_eq_true_eq, sc_ii, sc_ss, sc_bb, sc_ni, sc_in, sc_nn, sc_is, reduceCtorEq,
    Bool.not_eq_true', decide_eq_false_iff_not, if_true, if_false, Bool.false_eq_true, exists_eq', exists_const, false_and, and_false, or_false, false_or, exists_false, Bool.not_not, Bool.not_true, Bool.not_false, sUp_up, sFire_fire, sHigh_high, sPut_put, sZone_now, sBey_refuse, sBey_cut, tTup, tLst, sz0, sz1, sz2, sz3, sz4, sz5, sz6])
def t_taken_out (K : Frag) (w : World) : TS :=
  (tSeq (tIfS (tOr (tTest (tOp rEq (tOp rIxTH (tVar 2) (tC (.int 0))) (tC (.int 0)))) (tTest (tOp rEq (tFn (sp_Book_action K) E0 (tCons (tVar 1) tNil)) (tC (.str "fire"))))) (tRet (tC .non)) tNext)
  (tSeq (tAsg (tOp rIxTH (tVar 2) (tC (.int 2))) (gName 4))
  (tSeq (tIfS (tTest (tOp oGt (tVar 4) (tVar 3))) (tRet (tFn (sp_spot_at K) E0 (tCons (tVar 0) (tCons (tVar 1) (tCons (tVar 3) (tCons (tOp oSub (tVar 4) (tVar 3)) (tCons (tVar 4) tNil))))))) tNext)
  (tSeq (tIfS (tTest (tOp rEq (tFn (sp_Book_due K) E0 (tCons (tVar 1) tNil)) (tC (.str "put")))) (tRet (tTup (tCons (tC (.int 0)) (tCons (tVar 3) (tCons (tVar 4) tNil))))) tNext)
  (tRet (tC .non))))))
def n_taken_out : List Str := ["wheel", "book", "spot", "tick", "due"]
theorem rd_taken_out (vs : List V) (H : Hp) (Q : VK) (E : XK) (h : sp_taken_out K vs H Q E) : t_taken_out K w { nx := fun _ H' => Q .non H', rt := Q } (L2.start n_taken_out vs) H := by
  obtain ⟨a, b, p, tick, rfl, W, B, sp, hW, hB, hS, q⟩ := h
  have eB := @bk_ex K H b B hB
  have hS' := hS
  unfold SpAt at hS'
  unfold t_taken_out n_taken_out
  unfold taken at q
  walk_at "rst"
  by_cases h0 : (sp.lv : Int) = 0
  · rw [if_pos (.inl (by omega))] at q
    rw [if_pos h0]
    exact q _ _ (Same.refl H) rfl
  · rw [if_neg h0]
    by_cases h1 : B.fire = true
    · rw [if_pos (.inr h1)] at q
      rw [if_pos h1]
      exact q _ _ (Same.refl H) rfl
    · rw [if_neg (fun z => z.elim (fun z => h0 (by omega)) h1)] at q
      rw [if_neg h1]
      refine ite2 (fun h2 => ?_) fun h2 => ?_
      · rw [if_pos h2] at q
        exact ⟨a, b, tick, sp.due - tick, sp.due, rfl, W, B, hW, hB, by omega, fun p' H' s z => q _ _ s ⟨p', rfl, z⟩⟩
      · rw [if_neg h2] at q
        refine ite2 (fun h3 => ?_) fun h3 => ?_
        · rw [if_pos h3] at q
          exact fun p' hp => q _ _ (Same.new hp) ⟨p', rfl, upd_same⟩
        · rw [if_neg h3] at q
          exact q _ _ (Same.refl H) rfl
def ordV (W : List Lv) (B : Bk) : List V := (order W B).map fun i => V.int (i : Nat)
def sp_level_order (K : Frag) : Sp := fun vs H Q _ => ∃ (a b : Addr), vs = [.ref a, .ref b] ∧ ∃ W B, WhAt K H a W ∧ BkAt K H b B ∧ ∀ p H', Same H H' → H p = none → H' p = some (.lst (ordV W B)) → Q (.ref p) H'
def t_level_order (K : Frag) (w : World) : TS :=
  (tSeq (tAsg (tLstRg (tRg1 (tCB (rLenF (sp_Wheel___len__ K) E0) (tCons (tVar 0) tNil)))) (gName 2))
  (tSeq (tIfS (tTest (tOp rEq (tFn (sp_Book_order K) E0 (tCons (tVar 1) tNil)) (tC (.str "high")))) (tRet (tRevL K (tVar 2))) tNext)
  (tRet (tVar 2))))
def n_level_order : List Str := ["wheel", "book", "indices"]
theorem rd_level_order (vs : List V) (H : Hp) (Q : VK) (E : XK) (h : sp_level_order K vs H Q E) : t_level_order K w { nx := fun _ H' => Q .non H', rt := Q } (L2.start n_level_order vs) H := by
  obtain ⟨a, b, rfl, W, B, hW, hB, q⟩ := h
  have eW := @wh_ex K H a W hW
  have hl := hW.ok.len
  have e1 : rgV 0 (W.length : Int) = (List.range W.length).map fun i => V.int (i : Nat) := by
    unfold rgV
    rw [show ((W.length : Int) - 0).toNat = W.length by omega]
    refine List.map_congr_left fun i _ => ?_
    rw [Int.zero_add]
  unfold t_level_order n_level_order tLstRg tRg1 tRevL
  walk_at "rst"
  refine ⟨by omega, by omega, RgOk.of_le (by omega) (by omega) (by omega) (by omega), fun p hp => ?_⟩
  have s := Same.new (o := .lst (rgV 0 (W.length : Int))) hp
  have eB := @bk_ex K _ b B (hB.same s)
  unfold ordV order at q
  rw [e1] at eB s
  walk_at "rst"
  refine ite2 (fun h1 => ?_) fun h1 => ?_
  · rw [if_pos h1, List.map_reverse] at q
    exact ⟨_, SqL.of upd_same, fun p' hp' => q p' _ (s.trans (Same.new hp')) (s.free hp') upd_same⟩
  · rw [if_neg h1] at q
    exact q p _ s hp upd_same
def sp_visited (K : Frag) : Sp := fun vs H Q _ => ∃ (a b p : Addr) (before now : Int), vs = [.ref a, .ref b, .ref p, .int before, .int now] ∧ ∃ W B sp, WhAt K H a W ∧ BkAt K H b B ∧ SpAt H p sp ∧
  ∀ f xs H', Same H H' → H f = none → H' f = some (.lst xs) → OSps H' xs (visited W B sp before now) → Q (.ref f) H'
def t_visited (K : Frag) (w : World) : TS :=
  (tSeq (tAsg (tLst tNil) (gName 5))
  (tSeq (tFor (iList K (tFn (sp_level_order K) E0 (tCons (tVar 0) (tCons (tVar 1) tNil)))) (gName 6)
    (tIfS (tAnd (tTest (tOp rEq (tOp rIxTH (tVar 2) (tC (.int 0))) (tVar 6))) (tB (tFn (sp_is_visited K) E0 (tCons (tFn (sp_Wheel___getitem__ K) E0 (tCons (tVar 0) (tCons (tVar 6) tNil))) (tCons (tOp rIxTH (tVar 2) (tC (.int 1))) (tCons (tVar 3) (tCons (tVar 4) tNil))))))) (tSeq (tAsg (tFn (sp_taken_out K) E0 (tCons (tVar 0) (tCons (tVar 1) (tCons (tVar 2) (tCons (tVar 4) tNil))))) (gName 2))
  (tSeq (tDrop (tBM K "list" rAppend (tVar 5) (tCons (tVar 2) tNil)))
  (tIfS (tTest (tOp oIsN (tVar 2) (tC .non))) (tRet (tVar 5)) tNext))) tNext))
  (tRet (tVar 5))))
def n_visited : List Str := ["wheel", "book", "spot", "before", "now", "found", "index"]
def visInv (K : Frag) (W : List Lv) (B : Bk) (sp : Spot) (before now : Int) (a b f qd : Addr) (H : Hp) (i : Nat) (σ : L2.St) (H' : Hp) : Prop :=
  ∃ (p' : Addr) (sp' : Spot) (v6 : Option V) (xs : List V) (os : List (Option Spot)), σ = [some (.ref a), some (.ref b), some (.ref p'), some (.int before), some (.int now), some (.ref f), v6] ∧ Same H H' ∧ H' qd = some (.lst (ordV W B)) ∧
      H' f = some (.lst xs) ∧ xs.length ≤ i ∧ SpAt H' p' sp' ∧ OSps H' xs os ∧ visited W B sp before now = os ++ visGo W B before now ((order W B).drop i) sp'
theorem rd_visited (vs : List V) (H : Hp) (Q : VK) (E : XK) (h : sp_visited K vs H Q E) : t_visited K w { nx := fun _ H' => Q .non H', rt := Q } (L2.start n_visited vs) H := by
  obtain ⟨a, b, p, before, now, rfl, W, B, sp, hW, hB, hS, q⟩ := h
  have hl5 := hW.ok.len
  unfold t_visited n_visited tBM rAppend
  walk_at "rst"
  intro f hf
  have s0 := Same.new (o := .lst []) hf
  refine ⟨_, rfl, _, rfl, a, b, rfl, W, B, hW.same s0, hB.same s0, fun qd H1 s1 hqn hq => ?_⟩
  have hqf : qd ≠ f := fun e => by rw [e, upd_same] at hqn; cases hqn
  refine ⟨qd, rfl, ⟨_, SqL.of hq⟩, for_list (xs := ordV W B) (visInv K W B sp before now a b f qd H)
    ⟨p, sp, none, [], [], rfl, s0.trans s1, hq, s1 _ _ upd_same, Nat.le_refl _, (hS.same s0).same s1, OSps.nil, rfl⟩ (fun i σ H' _ ⟨_, _, _, _, _, _, _, h, _⟩ => SqL.of h) ?_ ?_⟩
  · rintro i x σ H2 hx ⟨p', sp', v6, xs, os, rfl, s2, h1, h2, h3, h4, h5, h6⟩
    obtain ⟨j, hj, rfl⟩ : ∃ j, (order W B)[i]? = some j ∧ x = V.int (j : Nat) := by
      unfold ordV at hx
      rw [List.getElem?_map] at hx
      cases e : (order W B)[i]? with
      | none => rw [e] at hx; cases hx
      | some c => rw [e] at hx; exact ⟨c, rfl, (Option.some.inj hx).symm⟩
    have hi := (List.getElem?_eq_some_iff.mp hj).1
    have hjW : j < W.length := mem_order.mp (List.mem_of_getElem? hj)
    have hol : (order W B).length = W.length := by unfold order; split <;> simp
    have hdr : (order W B).drop i = j :: (order W B).drop (i + 1) := by
      rw [List.drop_eq_getElem_cons hi]
      rw [(List.getElem?_eq_some_iff.mp hj).2]
    rw [hdr] at h6
    unfold visGo at h6
    have hS2 := h4
    unfold SpAt at hS2
    have hW2 := hW.same s2
    walk_at "rst"
    refine ite2 (fun ht => ?_) fun ht => ?_
    · refine ⟨a, j, rfl, W, hW2, by omega, by omega, fun c hc => ?_⟩
      have eL := @lv_ex K H2 c (lv W j) hc
      walk_at "rst"
      refine ite2 (fun hv => ?_) fun hv => ?_
      · rw [if_pos ⟨by omega, hv⟩] at h6
        refine ⟨a, b, p', now, rfl, W, B, sp', hW2, hB.same s2, h4, fun v H3 s3 ho => ?_⟩
        have hf3 := s3 _ _ h2
        refine ⟨.inl ⟨rfl, xs, SqL.of hf3⟩, xs, hf3, by have : sizeLine = 16777216 := rfl; omega, ?_⟩
        have s4 : Same H (upd H3 f (.lst (xs ++ [v]))) := Same.updN (s2.trans s3) hf
        have hx4 : OSps (upd H3 f (.lst (xs ++ [v]))) (xs ++ [v]) (os ++ [taken W B sp' now]) := ((h5.same s3).updL hf3).snoc (ho.updL hf3)
        cases hk : taken W B sp' now with
        | none =>
          rw [hk] at ho h6 hx4
          have ev : v = .non := ho
          subst ev
          walk_at "rst"
          exact q f _ _ s4 hf upd_same (by rw [h6]; exact hx4)
        | some s' =>
          rw [hk] at ho h6 hx4
          obtain ⟨p2, ev, hp2⟩ := id ho
          subst ev
          have hq3 := s3 _ _ h1
          have hfin : visInv K W B sp before now a b f qd H (i + 1) [some (.ref a), some (.ref b), some (.ref p2), some (.int before), some (.int now), some (.ref f), some (.int (j : Nat))] (upd H3 f (.lst (xs ++ [.ref p2]))) :=
            ⟨p2, s', _, _, _, rfl, s4, by rw [upd_ne hqf]; exact hq3, upd_same, by simp; exact h3, (by
              unfold SpAt at hp2 ⊢
              rw [upd_ne (fun e => by rw [e, hf3] at hp2; cases hp2)]
              exact hp2), hx4, by rw [h6, List.append_assoc]; rfl⟩
          walk_at "rst"
      · rw [if_neg (fun z => hv z.2)] at h6
        exact ⟨p', sp', _, xs, os, rfl, s2, h1, h2, by omega, h4, h5, h6⟩
    · rw [if_neg (fun z => ht (by rw [z.1]))] at h6
      exact ⟨p', sp', _, xs, os, rfl, s2, h1, h2, by omega, h4, h5, h6⟩
  · rintro σ H2 ⟨p', sp', v6, xs, os, rfl, s2, h1, h2, h3, h4, h5, h6⟩
    exact ⟨_, rfl, q f xs H2 s2 hf h2 (by
      rw [h6, List.drop_of_length_le (by unfold ordV; simp)]
      simpa [visGo] using h5)⟩
def sp_skipped (K : Frag) : Sp := fun vs H Q _ => ∃ (a p : Addr) (tick : Int) (lim : Option Int), vs = [.ref a, .ref p, .int tick, optV lim] ∧ ∃ W sp, WhAt K H a W ∧ SpAt H p sp ∧ sp.lv < W.length ∧
  ∀ f H', Same H H' → H' f = some (.tup [.int (skipped W sp tick lim).1, .int (skipped W sp tick lim).2]) → Q (.ref f) H'
def t_skipped (K : Frag) (w : World) : TS :=
  (tSeq (tAsg (tOp oSub (tOp rIxTH (tVar 1) (tC (.int 2))) (tVar 2)) (gName 4))
  (tSeq (tIfS (tOr (tTest (tOp rNe (tOp rIxTH (tVar 1) (tC (.int 0))) (tOp oSub (tCB (rLenF (sp_Wheel___len__ K) E0) (tCons (tVar 0) tNil)) (tC (.int 1))))) (tTest (tOp oLt (tVar 4) (tFn (sp_Wheel_reach K) E0 (tCons (tVar 0) tNil))))) (tRet (tTup (tCons (tC (.int 0)) (tCons (tC (.int 0)) tNil)))) tNext)
  (tSeq (tAsg (tOp oSub (tFn (sp_visit_after K) E0 (tCons (tFn (sp_Wheel___getitem__ K) E0 (tCons (tVar 0) (tCons (tOp rIxTH (tVar 1) (tC (.int 0))) tNil))) (tCons (tOp rIxTH (tVar 1) (tC (.int 1))) (tCons (tVar 2) tNil)))) (tVar 2)) (gName 5))
  (tSeq (tAsg (tOp oDiv (tOp oSub (tVar 4) (tFn (sp_Wheel_reach K) E0 (tCons (tVar 0) tNil))) (tVar 5)) (gName 6))
  (tSeq (tIfS (tTest (tOp oNotN (tVar 3) (tC .non))) (tAsg (tCB oMin2 (tCons (tCB oInt1 (tCons (tVar 6) tNil)) (tCons (tCB oInt1 (tCons (tOp oDiv (tOp oSub (tVar 3) (tVar 2)) (tVar 5)) tNil)) tNil))) (gName 6)) tNext)
  (tRet (tTup (tCons (tVar 6) (tCons (tVar 5) tNil)))))))))
def n_skipped : List Str := ["wheel", "spot", "tick", "limit", "rest", "step", "many"]
theorem va_le {l : Lv} (hg : 0 < l.g) (hs : 0 < l.s) (pt now : Int) : va l pt now - now ≤ l.s * l.g := by
  unfold va
  have h1 : (pt - now / l.g - 1) % l.s < l.s := Int.emod_lt_of_pos _ hs
  have h2 : (now / l.g + 1 + (pt - now / l.g - 1) % l.s) * l.g ≤ (now / l.g + l.s) * l.g := Int.mul_le_mul_of_nonneg_right (by omega) (by omega)
  have h3 : now / l.g * l.g ≤ now := Int.ediv_mul_le now (by omega)
  rw [Int.add_mul (now / l.g) l.s l.g] at h2
  omega
theorem va_small {W : List Lv} (ok : WOk W) {i : Nat} (hi : i < W.length) (pt now : Int) : CDiv 0 (va (lv W i) pt now - now) := by
  have ha := ok.all _ hi
  have h1 := va_gt (l := lv W i) (by omega) (by omega) pt now
  have h2 := va_le (l := lv W i) (by omega) (by omega) pt now
  have h3 : (lv W i).s * (lv W i).g ≤ 100 * 1000 := Int.mul_le_mul (by omega) (by omega) (by omega) (by omega)
  exact ⟨by omega, by omega⟩
theorem rd_skipped (vs : List V) (H : Hp) (Q : VK) (E : XK) (h : sp_skipped K vs H Q E) : t_skipped K w { nx := fun _ H' => Q .non H', rt := Q } (L2.start n_skipped vs) H := by
  obtain ⟨a, p, tick, lim, rfl, W, sp, hW, hS, hlv, q⟩ := h
  have hp := hW.ok.pos
  have hl5 := hW.ok.len
  have hS2 := hS
  unfold SpAt at hS2
  have eW := @wh_ex K H a W hW
  have key : ∀ x, CDiv x (va (lv W sp.lv) sp.pt tick - tick) := fun x => va_small hW.ok hlv sp.pt tick
  unfold skipped at q
  unfold t_skipped n_skipped
  walk_at "rst"
  refine ⟨by omega, by omega, ite2 (fun h1 => ?_) fun h1 => ite2 (fun h2 => ?_) fun h2 => ?_⟩
  · rw [if_pos (.inl (by omega))] at q
    exact fun f hf => q f _ (Same.new hf) upd_same
  · rw [if_pos (.inr (by omega))] at q
    exact fun f hf => q f _ (Same.new hf) upd_same
  · rw [if_neg (fun z => z.elim (fun z => h1 fun e => z (by omega)) h2)] at q
    refine ⟨a, sp.lv, rfl, W, hW, by omega, by omega, fun c hc => ?_⟩
    have eL := @lv_ex K H c (lv W sp.lv) hc
    cases lim with
    | none =>
      unfold optV
      walk_at "rst"
      exact fun f hf => q f _ (Same.new hf) upd_same
    | some l =>
      unfold optV
      walk_at "rst"
      intro f hf
      refine q f _ (Same.new hf) ?_
      dsimp only
      rw [upd_same]
      have e : min ((sp.due - tick - reach W) / (va (lv W sp.lv) sp.pt tick - tick)) ((l - tick) / (va (lv W sp.lv) sp.pt tick - tick)) = if (l - tick) / (va (lv W sp.lv) sp.pt tick - tick) < (sp.due - tick - reach W) / (va (lv W sp.lv) sp.pt tick - tick) then (l - tick) / (va (lv W sp.lv) sp.pt tick - tick) else (sp.due - tick - reach W) / (va (lv W sp.lv) sp.pt tick - tick) := by
        split <;> omega
      rw [e]
def sp_shifted (K : Frag) : Sp := fun vs H Q _ => ∃ (a b p : Addr) (tick : Int), vs = [.ref a, .ref b, .ref p, .int tick] ∧ ∃ W B sp, WhAt K H a W ∧ BkAt K H b B ∧ SpAt H p sp ∧ tick ≤ sp.due ∧
  ∀ p' H', Same H H' → SpAt H' p' (spotAt W B tick (sp.due - tick) sp.due) → Q (.ref p') H'
def t_shifted (K : Frag) (w : World) : TS :=
  (tRet (tFn (sp_spot_at K) E0 (tCons (tVar 0) (tCons (tVar 1) (tCons (tVar 3) (tCons (tOp oSub (tOp rIxTH (tVar 2) (tC (.int 2))) (tVar 3)) (tCons (tOp rIxTH (tVar 2) (tC (.int 2))) tNil)))))))
def n_shifted : List Str := ["wheel", "book", "spot", "tick"]
theorem rd_shifted (vs : List V) (H : Hp) (Q : VK) (E : XK) (h : sp_shifted K vs H Q E) : t_shifted K w { nx := fun _ H' => Q .non H', rt := Q } (L2.start n_shifted vs) H := by
  obtain ⟨a, b, p, tick, rfl, W, B, sp, hW, hB, hS, hd, q⟩ := h
  have hS2 := hS
  unfold SpAt at hS2
  unfold t_shifted n_shifted
  walk_at "rst"
  exact ⟨a, b, tick, sp.due - tick, sp.due, rfl, W, B, hW, hB, by omega, q⟩
theorem OSps.last {H : Hp} {xs : List V} {os : List (Option Spot)} {o : Option Spot} (h : OSps H xs os) (e : os.getLast? = some o) : ∃ v, xs.getLast? = some v ∧ OSp H v o := by
  have hne : os ≠ [] := fun z => by rw [z] at e; simp at e
  have hpos : 0 < os.length := List.length_pos_iff.mpr hne
  have hl := h.1
  rw [List.getLast?_eq_getElem?] at e ⊢
  have hx : xs.length - 1 < xs.length := by omega
  refine ⟨xs[xs.length - 1], List.getElem?_eq_getElem hx, h.2 _ _ _ (List.getElem?_eq_getElem hx) (by rw [hl]; exact e)⟩
theorem while_true {tb : TS} {D : Ends} {σ : L2.St} {H : Hp} (M : Nat → L2.St → Hp → Prop) (h0 : ∃ m, M m σ H)
    (hs : ∀ m σ H, M m σ H → ∃ n, m = n + 1 ∧ tb { D with nx := M n, ct := M n, bk := D.nx } σ H) : tWhile (tB (tC (.bl true))) tb D σ H := by
  refine ⟨M, h0, fun m σ H hm => ?_⟩
  obtain ⟨n, rfl, ht⟩ := hs m σ H hm
  refine ⟨true, rfl, ?_⟩
  dsimp only
  rw [if_pos rfl]
  exact ⟨M n, fun σ' H' q => ⟨n, by omega, q⟩, ht⟩
def sp_followed (K : Frag) : Sp := fun vs H Q _ => ∃ (a b p : Addr) (before : Int) (lim : Option Int), vs = [.ref a, .ref b, .ref p, .int before, optV lim] ∧ ∃ W B sp, WhAt K H a W ∧ BkAt K H b B ∧ SpAt H p sp ∧ sp.lv < W.length ∧
  ∀ n r, fol W B lim n sp before 0 = some r → ∀ v f H', Same H H' → OSp H' v r.1 → H' f = some (.tup [v, .int r.2.1, .int r.2.2]) → Q (.ref f) H'
def folInv (W : List Lv) (B : Bk) (lim : Option Int) (a b : Addr) (before : Int) (H : Hp) (r : Res) (m : Nat) (σ : L2.St) (H' : Hp) : Prop :=
  ∃ (p' : Addr) (sp' : Spot) (tick mv : Int) (v7 v8 v9 v10 : Option V), σ = [some (.ref a), some (.ref b), some (.ref p'), some (.int before), some (optV lim), some (.int tick), some (.int mv), v7, v8, v9, v10] ∧ Same H H' ∧ SpAt H' p' sp' ∧ sp'.lv < W.length ∧ fol W B lim m sp' tick mv = some r
theorem limSplit {lim : Option Int} {t : Int} {A C : Prop} (h1 : over lim t = true → A) (h2 : over lim t = false → C) : if ¬optV lim = V.non then ∃ x, optV lim = V.int x ∧ if x < t then A else C else C := by
  cases lim with
  | none => rw [if_neg (fun z => z rfl)]; exact h2 rfl
  | some l =>
    rw [if_pos (by unfold optV; intro e; cases e)]
    refine ⟨l, rfl, ite2 (fun h => h1 (decide_eq_true h)) fun h => h2 (decide_eq_false h)⟩
def t_followed (K : Frag) (w : World) : TS :=
  (tSeq (tAsg (tVar 3) (gName 5))
  (tSeq (tAsg (tC (.int 0)) (gName 6))
  (tWhile (tB (tC (.bl true)))
    (tSeq (tAsg (tFn (sp_visit_after K) E0 (tCons (tFn (sp_Wheel___getitem__ K) E0 (tCons (tVar 0) (tCons (tOp rIxTH (tVar 2) (tC (.int 0))) tNil))) (tCons (tOp rIxTH (tVar 2) (tC (.int 1))) (tCons (tVar 5) tNil)))) (gName 7))
  (tSeq (tIfS (tAnd (tTest (tOp oNotN (tVar 4) (tC .non))) (tTest (tOp oGt (tVar 7) (tVar 4)))) (tRet (tTup (tCons (tVar 2) (tCons (tVar 5) (tCons (tVar 6) tNil))))) tNext)
  (tSeq (tAsg (tFn (sp_visited K) E0 (tCons (tVar 0) (tCons (tVar 1) (tCons (tVar 2) (tCons (tOp oSub (tVar 7) (tC (.int 1))) (tCons (tVar 7) tNil)))))) (gName 8))
  (tSeq (tAsg (tVar 7) (gName 5))
  (tSeq (tIfS (tTest (tOp oIsN (tOp rIxLH (tVar 8) (tUn oNeg (tC (.int 1)))) (tC .non))) (tRet (tTup (tCons (tC .non) (tCons (tVar 5) (tCons (tOp oSub (tOp oAdd (tVar 6) (tCB rLenLH (tCons (tVar 8) tNil))) (tC (.int 1))) tNil))))) tNext)
  (tSeq (tAsg (tOp rIxLH (tVar 8) (tUn oNeg (tC (.int 1)))) (gName 2))
  (tSeq (tAsg (tOp oAdd (tVar 6) (tCB rLenLH (tCons (tVar 8) tNil))) (gName 6))
  (tSeq (tAsg (tFn (sp_skipped K) E0 (tCons (tVar 0) (tCons (tVar 2) (tCons (tVar 5) (tCons (tVar 4) tNil))))) (gTup K 2 (gCons (gName 9) (gCons (gName 10) gNil))))
  (tIfS (tTest (tOp oGt (tVar 9) (tC (.int 0)))) (tSeq (tAsg (tOp oAdd (tVar 5) (tOp oMul (tVar 9) (tVar 10))) (gName 5))
  (tSeq (tAsg (tFn (sp_shifted K) E0 (tCons (tVar 0) (tCons (tVar 1) (tCons (tVar 2) (tCons (tVar 5) tNil))))) (gName 2))
  (tAsg (tOp oAdd (tVar 6) (tVar 9)) (gName 6)))) tNext))))))))))))
def n_followed : List Str := ["wheel", "book", "spot", "before", "limit", "tick", "moves", "at", "found", "many", "step"]
theorem rd_followed (vs : List V) (H : Hp) (Q : VK) (E : XK) (h : sp_followed K vs H Q E) : t_followed K w { nx := fun _ H' => Q .non H', rt := Q } (L2.start n_followed vs) H := by
  obtain ⟨a, b, p, before, lim, rfl, W, B, sp, hW, hB, hS, hlv, q⟩ := h
  obtain ⟨r, hr⟩ := fol_ends hW.ok B lim (mu sp before) sp before 0 hlv (Nat.le_refl _)
  have q := q _ r hr
  refine ⟨_, rfl, ?_⟩
  refine while_true (folInv W B lim a b before H r) ⟨_, p, sp, before, 0, none, none, none, none, rfl, Same.refl H, hS, hlv, hr⟩ ?_
  rintro m σ H1 ⟨p', sp', tick, mv, v7, v8, v9, v10, rfl, s1, hS1, hl1, hf⟩
  cases m with
  | zero => cases hf
  | succ n =>
  refine ⟨n, rfl, ?_⟩
  have hW1 := hW.same s1
  have hB1 := hB.same s1
  have hS2 := hS1
  unfold SpAt at hS2
  unfold fol at hf
  unfold gTup gCons gNil
  walk_at "rst"
  refine ⟨a, sp'.lv, rfl, W, hW1, by omega, by omega, fun c hc => ?_⟩
  have eL := @lv_ex K H1 c (lv W sp'.lv) hc
  walk_at "rst"
  refine limSplit (fun ho => ?_) fun ho => ?_
  · dsimp only at hf
    rw [if_pos ho] at hf
    obtain rfl := Option.some.inj hf
    exact fun f hfn => q _ f _ (s1.trans (Same.new hfn)) ⟨p', rfl, hS1.same (Same.new hfn)⟩ upd_same
  · dsimp only at hf
    rw [if_neg (by rw [ho]; decide)] at hf
    refine ⟨a, b, p', _, _, rfl, W, B, sp', hW1, hB1, hS1, fun f xs H2 s2 hfn hx hos => ?_⟩
    cases hlast : (visited W B sp' (va (lv W sp'.lv) sp'.pt tick - 1) (va (lv W sp'.lv) sp'.pt tick)).getLast? with
    | none => rw [hlast] at hf; cases hf
    | some o =>
      rw [hlast] at hf
      obtain ⟨v, hv, hov⟩ := hos.last hlast
      have hat := atI_m1 hv
      have hlen := hos.1
      have s3 := s1.trans s2
      cases o with
      | none =>
        have ev : v = .non := hov
        subst ev
        have hf2 := Option.some.inj hf
        clear hf
        subst hf2
        walk_at "rst"
        exact fun f2 hf2 => q _ f2 _ (s3.trans (Same.new hf2)) rfl (by rw [upd_same])
      | some sp2 =>
        obtain ⟨p2, ev, hp2⟩ := id hov
        subst ev
        obtain ⟨c1, c2, c3, c4⟩ := visGo_last hW.ok _ hlast
        dsimp only at hf
        walk_at "rst"
        refine ⟨a, p2, _, lim, rfl, W, sp2, hW.same s3, hp2, c1, fun f2 H3 s4 hf2 => ?_⟩
        refine ⟨f2, rfl, _, SqT.of hf2, rfl, ?_⟩
        have hp3 := hp2.same s4
        have s5 := s3.trans s4
        have hsm := va_small hW.ok c1 sp2.pt (va (lv W sp'.lv) sp'.pt tick)
        have hk : CMul (skipped W sp2 (va (lv W sp'.lv) sp'.pt tick) lim).1 (skipped W sp2 (va (lv W sp'.lv) sp'.pt tick) lim).2 := by
          refine .inr ?_
          obtain ⟨z1, z2⟩ := hsm
          unfold skipped
          split
          · exact ⟨by decide, by decide⟩
          · cases lim <;> exact ⟨by dsimp only; omega, by dsimp only; omega⟩
        have hdue : 0 < (skipped W sp2 (va (lv W sp'.lv) sp'.pt tick) lim).1 → va (lv W sp'.lv) sp'.pt tick + (skipped W sp2 (va (lv W sp'.lv) sp'.pt tick) lim).1 * (skipped W sp2 (va (lv W sp'.lv) sp'.pt tick) lim).2 ≤ sp2.due := by
          intro hk0
          obtain ⟨k1, k2, k3, k4⟩ := skipped_pos hk0
          rw [k3]
          have h1 := Int.mul_le_mul_of_nonneg_right (c := va (lv W sp2.lv) sp2.pt (va (lv W sp'.lv) sp'.pt tick) - va (lv W sp'.lv) sp'.pt tick) k4 (by have := hsm.1; omega)
          have h2 := Int.ediv_mul_le (sp2.due - va (lv W sp'.lv) sp'.pt tick - reach W) (b := va (lv W sp2.lv) sp2.pt (va (lv W sp'.lv) sp'.pt tick) - va (lv W sp'.lv) sp'.pt tick) (by have := hsm.1; omega)
          have h3 : 2 ≤ reach W := (hW.ok.all (W.length - 1) (by have := hW.ok.pos; omega)).2.2.2.2
          omega
        generalize hkk : skipped W sp2 (va (lv W sp'.lv) sp'.pt tick) lim = kk at hf hk hdue
        walk_at "rst"
        refine ite2 (fun h0 => ?_) fun h0 => ?_
        · rw [if_pos h0] at hf
          refine ⟨a, b, p2, _, rfl, W, B, sp2, hW.same s5, hB.same s5, hp3, hdue h0, fun p4 H4 s6 hp4 => ?_⟩
          exact ⟨p4, _, _, _, _, _, _, _, rfl, s5.trans s6, hp4, spotAt_lt hW.ok _ _ _ _, hf⟩
        · rw [if_neg h0] at hf
          exact ⟨p2, sp2, _, _, _, _, _, _, rfl, s5, hp3, c1, hf⟩
/-- the tick at which a timer fires, and how often it is moved -/
def fin (W : List Lv) (B : Bk) (start delay : Int) : Int × Int := match placeM W B start delay with
  | none => (start, 0)
  | some sp => match fol W B none (mu sp start) sp start 0 with
    | none => (0, 0)
    | some r => r.2
theorem fin_none {W : List Lv} {B : Bk} {start delay : Int} (h : placeM W B start delay = none) : fin W B start delay = (start, 0) := by
  unfold fin
  rw [h]
theorem fol_mono {W : List Lv} {B : Bk} {lim : Option Int} : ∀ (n : Nat) {sp : Spot} {tick mv : Int} {r : Res}, fol W B lim n sp tick mv = some r → ∀ m, n ≤ m → fol W B lim m sp tick mv = some r
  | 0, _, _, _, _, h, _, _ => by cases h
  | n + 1, sp, tick, mv, r, h, m, hm => by
    obtain ⟨m, rfl⟩ : ∃ k, m = k + 1 := ⟨m - 1, by omega⟩
    unfold fol at h ⊢
    dsimp only at h ⊢
    split at h
    · rename_i h1
      rw [if_pos h1]; exact h
    · rename_i h1
      rw [if_neg h1]
      split at h
      · cases h
      · exact h
      · split at h
        · rename_i h2
          rw [if_pos h2]; exact fol_mono n h m (by omega)
        · rename_i h2
          rw [if_neg h2]; exact fol_mono n h m (by omega)
theorem fin_some {W : List Lv} {B : Bk} {start delay : Int} {sp : Spot} {n : Nat} {r : Res} (h : placeM W B start delay = some sp) (ok : WOk W) (hl : sp.lv < W.length) (hf : fol W B none n sp start 0 = some r) : fin W B start delay = r.2 := by
  unfold fin
  rw [h]
  obtain ⟨r', hr'⟩ := fol_ends ok B none (mu sp start) sp start 0 hl (Nat.le_refl _)
  have e1 := fol_mono _ hr' (max n (mu sp start)) (Nat.le_max_right _ _)
  have e2 := fol_mono _ hf (max n (mu sp start)) (Nat.le_max_left _ _)
  rw [e1] at e2
  obtain rfl := Option.some.inj e2
  dsimp only
  rw [hr']
theorem placeM_lt {W : List Lv} (ok : WOk W) {B : Bk} {now delay : Int} {sp : Spot} (h : placeM W B now delay = some sp) : sp.lv < W.length := by
  unfold placeM at h
  split at h
  · cases h
  · obtain rfl := Option.some.inj h
    exact spotAt_lt ok _ _ _ _
def sp_fire_tick (K : Frag) : Sp := fun vs H Q _ => ∃ (a b : Addr) (now delay : Int), vs = [.ref a, .ref b, .int now, .int delay] ∧ ∃ W B, WhAt K H a W ∧ BkAt K H b B ∧ 0 ≤ now ∧ 0 ≤ delay ∧ (reach W ≤ delay → B.bey ≠ 0) ∧
  ∀ H', Same H H' → Q (.int (fin W B now delay).1) H'
def t_fire_tick (K : Frag) (w : World) : TS :=
  (tSeq (tAsg (tFn (sp_place K) E0 (tCons (tVar 0) (tCons (tVar 1) (tCons (tVar 2) (tCons (tVar 3) tNil))))) (gName 4))
  (tSeq (tIfS (tTest (tOp oIsN (tVar 4) (tC .non))) (tRet (tVar 2)) tNext)
  (tRet (tOp rIxTH (tFn (sp_followed K) E0 (tCons (tVar 0) (tCons (tVar 1) (tCons (tVar 4) (tCons (tVar 2) (tCons (tC .non) tNil)))))) (tC (.int 1))))))
def n_fire_tick : List Str := ["wheel", "book", "start", "delay", "spot"]
theorem rd_fire_tick (vs : List V) (H : Hp) (Q : VK) (E : XK) (h : sp_fire_tick K vs H Q E) : t_fire_tick K w { nx := fun _ H' => Q .non H', rt := Q } (L2.start n_fire_tick vs) H := by
  obtain ⟨a, b, now, delay, rfl, W, B, hW, hB, hn, hd, hr, q⟩ := h
  unfold t_fire_tick n_fire_tick
  walk_at "rst"
  refine ⟨a, b, now, delay, rfl, W, B, hW, hB, hn, hd, hr, fun v H1 s1 ho => ?_⟩
  cases hp : placeM W B now delay with
  | none =>
    rw [hp] at ho
    have ev : v = .non := ho
    subst ev
    rw [fin_none hp] at q
    walk_at "rst"

  | some sp =>
    rw [hp] at ho
    obtain ⟨p, ev, hs⟩ := ho
    subst ev
    walk_at "rst"
    refine ⟨a, b, p, now, none, rfl, W, B, sp, hW.same s1, hB.same s1, hs, placeM_lt hW.ok hp, fun n r hf v f H2 s2 _ h2 => ?_⟩
    rw [fin_some hp hW.ok (placeM_lt hW.ok hp) hf] at q
    walk_at "rst"
    exact q H2 (s1.trans s2)
def sp_moves (K : Frag) : Sp := fun vs H Q _ => ∃ (a b : Addr) (now delay : Int), vs = [.ref a, .ref b, .int now, .int delay] ∧ ∃ W B, WhAt K H a W ∧ BkAt K H b B ∧ 0 ≤ now ∧ 0 ≤ delay ∧ (reach W ≤ delay → B.bey ≠ 0) ∧
  ∀ H', Same H H' → Q (.int (fin W B now delay).2) H'
def t_moves (K : Frag) (w : World) : TS :=
  (tSeq (tAsg (tFn (sp_place K) E0 (tCons (tVar 0) (tCons (tVar 1) (tCons (tVar 2) (tCons (tVar 3) tNil))))) (gName 4))
  (tSeq (tIfS (tTest (tOp oIsN (tVar 4) (tC .non))) (tRet (tC (.int 0))) tNext)
  (tRet (tOp rIxTH (tFn (sp_followed K) E0 (tCons (tVar 0) (tCons (tVar 1) (tCons (tVar 4) (tCons (tVar 2) (tCons (tC .non) tNil)))))) (tC (.int 2))))))
def n_moves : List Str := ["wheel", "book", "start", "delay", "spot"]
theorem rd_moves (vs : List V) (H : Hp) (Q : VK) (E : XK) (h : sp_moves K vs H Q E) : t_moves K w { nx := fun _ H' => Q .non H', rt := Q } (L2.start n_moves vs) H := by
  obtain ⟨a, b, now, delay, rfl, W, B, hW, hB, hn, hd, hr, q⟩ := h
  unfold t_moves n_moves
  walk_at "rst"
  refine ⟨a, b, now, delay, rfl, W, B, hW, hB, hn, hd, hr, fun v H1 s1 ho => ?_⟩
  cases hp : placeM W B now delay with
  | none =>
    rw [hp] at ho
    have ev : v = .non := ho
    subst ev
    rw [fin_none hp] at q
    walk_at "rst"

  | some sp =>
    rw [hp] at ho
    obtain ⟨p, ev, hs⟩ := ho
    subst ev
    walk_at "rst"
    refine ⟨a, b, p, now, none, rfl, W, B, sp, hW.same s1, hB.same s1, hs, placeM_lt hW.ok hp, fun n r hf v f H2 s2 _ h2 => ?_⟩
    rw [fin_some hp hW.ok (placeM_lt hW.ok hp) hf] at q
    walk_at "rst"
    exact q H2 (s1.trans s2)
end
end Tw
/-! Tw: whole starts later by grains -/
namespace Tw
open TwM
theorem levelIx_lt {W : List Lv} (ok : WOk W) (d : Int) : TwM.levelIx W d < W.length := by
  have hp := ok.pos
  unfold TwM.levelIx
  cases h : levelOf W d with
  | none => show W.length - 1 < W.length; omega
  | some i => exact (levelOf_lt h).1
theorem levelIx_mono {W : List Lv} (ok : WOk W) {d d' : Int} (h : d ≤ d') : TwM.levelIx W d ≤ TwM.levelIx W d' := by
  have h1 := levelIx_lt ok d
  unfold TwM.levelIx at h1 ⊢
  cases e' : levelOf W d' with
  | none => rw [show (none : Option Nat).getD (W.length - 1) = W.length - 1 from rfl]; omega
  | some i =>
    obtain ⟨a1, a2⟩ := levelOf_lt e'
    cases e : levelOf W d with
    | none => have := levelOf_none e i a1; omega
    | some j =>
      show j ≤ i
      rcases Nat.lt_or_ge i j with hj | hj
      · have := levelOf_ge e i hj; omega
      · exact hj
theorem spotAt_lv (W : List Lv) (B : Bk) (now rest due : Int) : (spotAt W B now rest due).lv = TwM.levelIx W rest := by
  unfold spotAt TwM.levelIx
  split <;> rename_i h <;> rw [h] <;> rfl
/-- the grains up to the level k divide D -/
def Dv (W : List Lv) (k : Nat) (D : Int) : Prop := ∀ j, j ≤ k → (lv W j).g ∣ D
def sh (W : List Lv) (D : Int) (sp : Spot) : Spot := ⟨sp.lv, sp.pt + D / (lv W sp.lv).g, sp.due + D⟩
theorem rnd_shift {up : Bool} {t g m : Int} (hg : 0 < g) : rnd up (t + g * m) g = rnd up t g + m := by
  unfold rnd
  split
  · rw [show -(t + g * m) = -t + g * (-m) by rw [Int.mul_neg]; omega, Int.add_mul_ediv_left _ _ (by omega)]; omega
  · rw [Int.add_mul_ediv_left _ _ (by omega)]
theorem rnd_shiftD {up : Bool} {t g D : Int} (hg : 0 < g) (hd : g ∣ D) : rnd up (t + D) g = rnd up t g + D / g := by
  obtain ⟨m, rfl⟩ := hd
  rw [rnd_shift hg, Int.mul_ediv_cancel_left _ (by omega)]
theorem div_shift {t g D : Int} (hg : 0 < g) (hd : g ∣ D) : (t + D) / g = t / g + D / g := by
  obtain ⟨m, rfl⟩ := hd
  rw [Int.add_mul_ediv_left _ _ (by omega), Int.mul_ediv_cancel_left _ (by omega)]
theorem va_shift {l : Lv} {pt now D : Int} (hg : 0 < l.g) (hd : l.g ∣ D) : va l (pt + D / l.g) (now + D) = va l pt now + D := by
  unfold va
  rw [div_shift hg hd]
  have e : pt + D / l.g - (now / l.g + D / l.g) - 1 = pt - now / l.g - 1 := by omega
  rw [e]
  have e2 : now / l.g + D / l.g + 1 + (pt - now / l.g - 1) % l.s = (now / l.g + 1 + (pt - now / l.g - 1) % l.s) + D / l.g := by omega
  rw [e2, Int.add_mul, Int.ediv_mul_cancel hd]
theorem isVis_shift {l : Lv} {pt b now D : Int} (hg : 0 < l.g) (hd : l.g ∣ D) : isVis l (pt + D / l.g) (b + D) (now + D) = isVis l pt b now := by
  unfold isVis
  rw [div_shift hg hd, div_shift hg hd]
  have e : pt + D / l.g - (b / l.g + D / l.g) - 1 = pt - b / l.g - 1 := by omega
  have e2 : now / l.g + D / l.g - (b / l.g + D / l.g) = now / l.g - b / l.g := by omega
  rw [e, e2]
section
variable {W : List Lv} {B : Bk} {k : Nat} {D : Int}
theorem spotAt_shift (ok : WOk W) (hD : Dv W k D) {now rest due : Int} (hr : TwM.levelIx W rest ≤ k) : spotAt W B (now + D) rest (due + D) = sh W D (spotAt W B now rest due) := by
  have hp := ok.pos
  unfold TwM.levelIx at hr
  unfold spotAt sh
  cases e : levelOf W rest with
  | none =>
    rw [e] at hr
    have hr' : W.length - 1 ≤ k := hr
    have hg := (ok.all (W.length - 1) (by omega)).1
    dsimp only
    rw [show now + D + reach W - 1 = (now + reach W - 1) + D by omega, rnd_shiftD (by omega) (hD _ hr')]
  | some i =>
    rw [e] at hr
    have hr' : i ≤ k := hr
    have hg := (ok.all i (levelOf_lt e).1).1
    dsimp only
    rw [show now + D + rest = (now + rest) + D by omega, rnd_shiftD (by omega) (hD _ hr')]
theorem taken_shift (ok : WOk W) (hD : Dv W k D) {sp : Spot} {tick : Int} (hr : TwM.levelIx W (sp.due - tick) ≤ k) : taken W B (sh W D sp) (tick + D) = (taken W B sp tick).map (sh W D) := by
  unfold taken
  have e1 : (sh W D sp).lv = sp.lv := rfl
  have e2 : (sh W D sp).due = sp.due + D := rfl
  rw [e1, e2]
  split
  · rfl
  · by_cases h : tick < sp.due
    · rw [if_pos (by omega), if_pos h, show sp.due + D - (tick + D) = sp.due - tick by omega, spotAt_shift ok hD hr]
      rfl
    · rw [if_neg (by omega), if_neg h]
      split
      · show some _ = some _
        unfold sh
        dsimp only
        rw [ok.first, Int.ediv_one]
      · rfl
theorem visGo_shift (ok : WOk W) (hD : Dv W k D) {before now : Int} : ∀ (is : List Nat) {sp : Spot}, sp.lv ≤ k → sp.lv < W.length → TwM.levelIx W (sp.due - now) ≤ k → visGo W B (before + D) (now + D) is (sh W D sp) = (visGo W B before now is sp).map (Option.map (sh W D))
  | [], sp, _, _, _ => rfl
  | i :: is, sp, hk, hl, hr => by
    have hg := (ok.all sp.lv hl).1
    unfold visGo
    have e1 : (sh W D sp).lv = sp.lv := rfl
    have e3 : (sh W D sp).pt = sp.pt + D / (lv W sp.lv).g := rfl
    rw [e1, e3]
    by_cases hc : sp.lv = i ∧ isVis (lv W i) sp.pt before now = true
    · have hc' : sp.lv = i ∧ isVis (lv W i) (sp.pt + D / (lv W sp.lv).g) (before + D) (now + D) = true := ⟨hc.1, by rw [← hc.1, isVis_shift (by omega) (hD _ hk), hc.1]; exact hc.2⟩
      rw [if_pos hc, if_pos hc', taken_shift ok hD hr]
      cases e : taken W B sp now with
      | none => rfl
      | some s' =>
        obtain ⟨a1, a2, a3, a4, a5⟩ := taken_some ok e
        have hk' : s'.lv ≤ k := by
          rcases a5 with ⟨b1, b2⟩ | ⟨b1, b2, b3⟩
          · rw [b2, spotAt_lv]; exact hr
          · rw [b3]; exact Nat.zero_le _
        have ih := visGo_shift ok hD (before := before) (now := now) is (sp := s') hk' a1 (by rw [a2]; exact hr)
        show some (sh W D s') :: visGo W B (before + D) (now + D) is (sh W D s') = _
        rw [ih]
        rfl
    · have hc' : ¬ (sp.lv = i ∧ isVis (lv W i) (sp.pt + D / (lv W sp.lv).g) (before + D) (now + D) = true) := fun z => hc ⟨z.1, by
        have := z.2
        rw [← z.1, isVis_shift (by omega) (hD _ hk), z.1] at this
        exact this⟩
      rw [if_neg hc, if_neg hc']
      exact visGo_shift ok hD is hk hl hr
theorem visited_shift (ok : WOk W) (hD : Dv W k D) {before now : Int} {sp : Spot} (hk : sp.lv ≤ k) (hl : sp.lv < W.length) (hr : TwM.levelIx W (sp.due - now) ≤ k) : visited W B (sh W D sp) (before + D) (now + D) = (visited W B sp before now).map (Option.map (sh W D)) :=
  visGo_shift ok hD _ hk hl hr
theorem skipped_shift (ok : WOk W) (hD : Dv W k D) {tick : Int} {sp : Spot} (hk : sp.lv ≤ k) (hl : sp.lv < W.length) : skipped W (sh W D sp) (tick + D) none = skipped W sp tick none := by
  have hg := (ok.all sp.lv hl).1
  have e1 : (sh W D sp).lv = sp.lv := rfl
  have e2 : (sh W D sp).due = sp.due + D := rfl
  have e3 : (sh W D sp).pt = sp.pt + D / (lv W sp.lv).g := rfl
  unfold skipped
  rw [e1, e2, e3, va_shift (by omega) (hD _ hk), show sp.due + D - (tick + D) = sp.due - tick by omega, show va (lv W sp.lv) sp.pt tick + D - (tick + D) = va (lv W sp.lv) sp.pt tick - tick by omega]
def shR (W : List Lv) (D : Int) (r : Res) : Res := (r.1.map (sh W D), r.2.1 + D, r.2.2)
theorem fol_shift (ok : WOk W) (hD : Dv W k D) : ∀ (n : Nat) {sp : Spot} {tick mv : Int}, sp.lv ≤ k → sp.lv < W.length → TwM.levelIx W (sp.due - tick) ≤ k → fol W B none n (sh W D sp) (tick + D) mv = (fol W B none n sp tick mv).map (shR W D)
  | 0, sp, tick, mv, _, _, _ => rfl
  | n + 1, sp, tick, mv, hk, hl, hr => by
    have hall := ok.all sp.lv hl
    have hgt := va_gt (l := lv W sp.lv) (by omega) (by omega) sp.pt tick
    have e1 : (sh W D sp).lv = sp.lv := rfl
    have e3 : (sh W D sp).pt = sp.pt + D / (lv W sp.lv).g := rfl
    unfold fol
    rw [e1, e3, va_shift (by omega) (hD _ hk)]
    generalize ht : va (lv W sp.lv) sp.pt tick = t at hgt ⊢
    have hr' : TwM.levelIx W (sp.due - t) ≤ k := Nat.le_trans (levelIx_mono ok (by omega)) hr
    dsimp only
    rw [show over none (t + D) = false from rfl, show over none t = false from rfl, if_neg Bool.false_ne_true, if_neg Bool.false_ne_true]
    rw [show t + D - 1 = (t - 1) + D by omega, visited_shift ok hD hk hl hr', List.getLast?_map, List.length_map]
    cases e : (visited W B sp (t - 1) t).getLast? with
    | none => rfl
    | some o =>
      cases o with
      | none => rfl
      | some s' =>
        obtain ⟨c1, c2, c3, c4⟩ := visGo_last ok _ e
        have hk' : s'.lv ≤ k := by
          rcases c4 with ⟨b1, b2⟩ | ⟨b1, b2⟩
          · rw [b2, spotAt_lv]; exact hr'
          · rw [b2]; exact Nat.zero_le _
        show (if 0 < (skipped W (sh W D s') (t + D) none).1 then _ else _) = _
        rw [skipped_shift ok hD hk' c1]
        dsimp only [Option.map]
        by_cases h0 : 0 < (skipped W s' t none).1
        · rw [if_pos h0, if_pos h0]
          have hk2 : 0 < (skipped W s' t none).2 := by
            obtain ⟨_, _, k3, _⟩ := skipped_pos h0
            have hall' := ok.all _ c1
            have := va_gt (l := lv W s'.lv) (by omega) (by omega) s'.pt t
            rw [k3]; omega
          have hpos : 0 < (skipped W s' t none).1 * (skipped W s' t none).2 := Int.mul_pos h0 hk2
          generalize (skipped W s' t none).1 * (skipped W s' t none).2 = j at hpos ⊢
          have hr2 : TwM.levelIx W (s'.due - (t + j)) ≤ k := Nat.le_trans (levelIx_mono ok (by rw [c2]; omega)) hr'
          have e4 : (sh W D s').due = s'.due + D := rfl
          rw [e4, show t + D + j = (t + j) + D by omega, show s'.due + D - (t + j + D) = s'.due - (t + j) by omega, spotAt_shift ok hD hr2]
          exact fol_shift ok hD n (by rw [spotAt_lv]; exact hr2) (spotAt_lt ok _ _ _ _) (by rw [spotAt_due]; exact hr2)
        · rw [if_neg h0, if_neg h0]
          exact fol_shift ok hD n hk' c1 (by rw [c2]; exact hr')
theorem dvd_le (ok : WOk W) : ∀ (n j : Nat), j + n < W.length → (lv W j).g ∣ (lv W (j + n)).g
  | 0, j, _ => Int.dvd_refl _
  | n + 1, j, h => Int.dvd_trans (dvd_le ok n j (by omega)) (ok.dv (j + n) (by omega))
theorem dv_of (ok : WOk W) (hk : k < W.length) (m : Int) : Dv W k ((lv W k).g * m) := fun j hj => by
  have := dvd_le ok (k - j) j (by omega)
  rw [show j + (k - j) = k by omega] at this
  exact Int.dvd_trans this (Int.dvd_mul_right _ _)
theorem asc_le (ok : WOk W) : ∀ (n j : Nat), j + n + 1 < W.length → (lv W j).p < (lv W (j + n + 1)).p
  | 0, j, h => ok.asc j h
  | n + 1, j, h => Int.lt_trans (asc_le ok n j (by omega)) (ok.asc (j + n + 1) (by omega))
/-- where a delay is placed -/
theorem place_form (ok : WOk W) (hb3 : B.bey < 3) {delay : Int} (hd : 1 ≤ delay) (hb : reach W ≤ delay → B.bey ≠ 0) :
    ∃ r, 1 ≤ r ∧ TwM.levelIx W r = TwM.levelIx W delay ∧ ∀ now, placeM W B now delay = some (spotAt W B now r (now + r)) := by
  have hp := ok.pos
  have hre : 2 ≤ reach W := (ok.all (W.length - 1) (by omega)).2.2.2.2
  have e0 : (if 1 > delay then 1 else delay) = delay := by split <;> omega
  by_cases hc : reach W ≤ delay ∧ B.bey = 2
  · refine ⟨reach W - 1, by omega, ?_, fun now => ?_⟩
    · have e1 : levelOf W delay = none := levelOf_isN fun j hj => by
        rcases Nat.lt_or_ge (j + 1) W.length with h | h
        · have := asc_le ok (W.length - 1 - j - 1) j (by omega)
          rw [show j + (W.length - 1 - j - 1) + 1 = W.length - 1 by omega] at this
          have : (lv W j).p < reach W := this
          omega
        · rw [show j = W.length - 1 by omega]
          exact hc.1
      have e2 : TwM.levelIx W delay = W.length - 1 := by unfold TwM.levelIx; rw [e1]; rfl
      rw [e2]
      unfold TwM.levelIx
      cases e : levelOf W (reach W - 1) with
      | none => rfl
      | some i =>
        show i = W.length - 1
        obtain ⟨a1, a2⟩ := levelOf_lt e
        rcases Nat.lt_or_ge i (W.length - 1) with h | h
        · have := asc_le ok (W.length - 1 - i - 1) i (by omega)
          rw [show i + (W.length - 1 - i - 1) + 1 = W.length - 1 by omega] at this
          have : (lv W i).p < reach W := this
          omega
        · omega
    · unfold placeM
      rw [if_neg (fun z => by have := z.1; omega)]
      dsimp only
      rw [e0, if_pos hc]
  · refine ⟨delay, hd, rfl, fun now => ?_⟩
    unfold placeM
    rw [if_neg (fun z => by have := z.1; omega)]
    dsimp only
    rw [e0, if_neg hc]
/-- a whole number of grains later -/
theorem later (ok : WOk W) (hb3 : B.bey < 3) {delay : Int} (hd : 1 ≤ delay) (hb : reach W ≤ delay → B.bey ≠ 0) (start m : Int) :
    ∃ s1 s2, placeM W B start delay = some s1 ∧ placeM W B (start + (lv W (TwM.levelIx W delay)).g * m) delay = some s2 ∧ s1.lv = s2.lv ∧ s2.pt - s1.pt = m ∧ s2.due - s1.due = (lv W (TwM.levelIx W delay)).g * m ∧
      (fin W B (start + (lv W (TwM.levelIx W delay)).g * m) delay).1 = (fin W B start delay).1 + (lv W (TwM.levelIx W delay)).g * m ∧ (fin W B (start + (lv W (TwM.levelIx W delay)).g * m) delay).2 = (fin W B start delay).2 := by
  obtain ⟨r, hr1, hr2, hpl⟩ := place_form ok hb3 hd hb
  have hk := levelIx_lt ok delay
  generalize hkk : TwM.levelIx W delay = k at hk hr2 ⊢
  have hg := (ok.all k hk).1
  have hD := dv_of ok hk m
  have hsh := spotAt_shift (B := B) (now := start) (rest := r) (due := start + r) ok hD (Nat.le_of_eq hr2)
  have hlv : (spotAt W B start r (start + r)).lv = k := by rw [spotAt_lv]; exact hr2
  have e1 := hpl start
  have e2 : placeM W B (start + (lv W k).g * m) delay = some (sh W ((lv W k).g * m) (spotAt W B start r (start + r))) := by
    rw [hpl, ← hsh, show start + (lv W k).g * m + r = start + r + (lv W k).g * m by omega]
  have hl : (spotAt W B start r (start + r)).lv < W.length := by rw [hlv]; exact hk
  obtain ⟨q, hq⟩ := fol_ends ok B none (mu (spotAt W B start r (start + r)) start) _ start 0 hl (Nat.le_refl _)
  have hq2 := fol_shift (B := B) ok hD (mu (spotAt W B start r (start + r)) start) (sp := spotAt W B start r (start + r)) (tick := start) (mv := 0) (by omega) hl (by rw [spotAt_due, show start + r - start = r by omega]; exact Nat.le_of_eq hr2)
  rw [hq] at hq2
  have f1 := fin_some e1 ok hl hq
  have f2 := fin_some e2 ok (by show (spotAt W B start r (start + r)).lv < W.length; exact hl) hq2
  refine ⟨_, _, e1, e2, rfl, ?_, ?_, ?_, ?_⟩
  · show (spotAt W B start r (start + r)).pt + (lv W k).g * m / (lv W (spotAt W B start r (start + r)).lv).g - (spotAt W B start r (start + r)).pt = m
    rw [hlv, Int.mul_ediv_cancel_left _ (by omega)]
    omega
  · show (spotAt W B start r (start + r)).due + (lv W k).g * m - (spotAt W B start r (start + r)).due = (lv W k).g * m
    omega
  · rw [f1, f2]; rfl
  · rw [f1, f2]; rfl
end
end Tw
/-! Tw: common divisors, inverses, first hits -/
namespace Tw
open TwM
/-- g is the greatest common divisor -/
def IsG (a b g : Int) : Prop := 0 < g ∧ ∀ d, (d ∣ a ∧ d ∣ b) ↔ d ∣ g
theorem IsG.eq {a b g g' : Int} (h : IsG a b g) (h' : IsG a b g') : g = g' := by
  have h1 : g ∣ g' := (h'.2 g).mp ((h.2 g).mpr (Int.dvd_refl g))
  have h2 : g' ∣ g := (h.2 g').mp ((h'.2 g').mpr (Int.dvd_refl g'))
  exact Int.dvd_antisymm (Int.le_of_lt h.1) (Int.le_of_lt h'.1) h1 h2
theorem IsG.left {a b g : Int} (h : IsG a b g) : g ∣ a := ((h.2 g).mpr (Int.dvd_refl g)).1
theorem IsG.right {a b g : Int} (h : IsG a b g) : g ∣ b := ((h.2 g).mpr (Int.dvd_refl g)).2
theorem dvd_step (a b d : Int) : (d ∣ b % a ∧ d ∣ a) ↔ (d ∣ a ∧ d ∣ b) := by
  constructor
  · rintro ⟨h1, h2⟩
    refine ⟨h2, ?_⟩
    have := Int.dvd_add (Int.dvd_trans h2 (Int.dvd_mul_right a (b / a))) h1
    rwa [Int.mul_ediv_add_emod] at this
  · rintro ⟨h1, h2⟩
    refine ⟨?_, h1⟩
    have := Int.dvd_sub h2 (Int.dvd_trans h1 (Int.dvd_mul_right a (b / a)))
    rwa [← Int.emod_def] at this
theorem dvd_absI (a d : Int) : d ∣ (if a < 0 then -a else a) ↔ d ∣ a := by
  split
  · exact Int.dvd_neg
  · exact Iff.rfl
/-- what first_hit tells -/
def FH (base length goal modulus : Int) (o : Option Int) : Prop := ∃ g, IsG length modulus g ∧ match o with
  | none => ¬ g ∣ goal - base
  | some k => 1 ≤ k ∧ k ≤ modulus / g ∧ modulus ∣ base + k * length - goal
theorem isG_small {a b g : Int} (h : IsG a b g) : IsG (a / g) (b / g) 1 := by
  have hg := h.1
  obtain ⟨x, hx⟩ := h.left
  obtain ⟨y, hy⟩ := h.right
  have e1 : a / g = x := by rw [hx, Int.mul_ediv_cancel_left _ (by omega)]
  have e2 : b / g = y := by rw [hy, Int.mul_ediv_cancel_left _ (by omega)]
  rw [e1, e2]
  refine ⟨by decide, fun d => ⟨fun ⟨h1, h2⟩ => ?_, fun h1 => ⟨Int.dvd_trans h1 (Int.one_dvd _), Int.dvd_trans h1 (Int.one_dvd _)⟩⟩⟩
  have h3 : g * d ∣ g := (h.2 (g * d)).mp ⟨by rw [hx]; exact Int.mul_dvd_mul_left g h1, by rw [hy]; exact Int.mul_dvd_mul_left g h2⟩
  obtain ⟨z, hz⟩ := h3
  have h4 : g * 1 = g * (d * z) := by rw [Int.mul_one, ← Int.mul_assoc]; exact hz
  exact ⟨z, Int.eq_of_mul_eq_mul_left (by omega) h4⟩
theorem fh_none {base length goal modulus g : Int} (h : IsG length modulus g) (hn : (goal - base) % g ≠ 0) : FH base length goal modulus none :=
  ⟨g, h, fun z => hn (Int.emod_eq_zero_of_dvd z)⟩
theorem fh_some {base length goal modulus g inv : Int} (hm : 0 < modulus) (h : IsG length modulus g) (hn : (goal - base) % g = 0) (hi : modulus / g ∣ inv * (length / g) - 1) :
    FH base length goal modulus (some (if (goal - base) / g * inv % (modulus / g) = 0 then modulus / g else (goal - base) / g * inv % (modulus / g))) := by
  have hg := h.1
  obtain ⟨x, hx⟩ := h.left
  obtain ⟨y, hy⟩ := h.right
  obtain ⟨c, hc⟩ := Int.dvd_of_emod_eq_zero hn
  have e1 : length / g = x := by rw [hx, Int.mul_ediv_cancel_left _ (by omega)]
  have e2 : modulus / g = y := by rw [hy, Int.mul_ediv_cancel_left _ (by omega)]
  have e3 : (goal - base) / g = c := by rw [hc, Int.mul_ediv_cancel_left _ (by omega)]
  rw [e1, e2] at hi
  rw [e2, e3]
  have hy0 : 0 < y := by
    rcases Int.lt_or_le 0 y with z | z
    · exact z
    · have := Int.mul_nonpos_of_nonneg_of_nonpos (Int.le_of_lt hg) z
      omega
  have hd : y ∣ (c * inv % y) * x - c := by
    obtain ⟨z, hz⟩ := hi
    refine ⟨c * z - (c * inv / y) * x, ?_⟩
    have e4 : c * inv % y = c * inv - y * (c * inv / y) := Int.emod_def _ _
    rw [e4, Int.sub_mul]
    have e5 : c * inv * x = c * (y * z + 1) := by rw [← hz, Int.mul_assoc]; congr 1; omega
    rw [e5, Int.mul_add, Int.mul_one, Int.mul_sub, Int.mul_assoc y, ← Int.mul_assoc c y z, Int.mul_comm c y, Int.mul_assoc y c z]
    omega
  have hr0 := Int.emod_nonneg (c * inv) (b := y) (by omega)
  have hr1 := Int.emod_lt_of_pos (c * inv) hy0
  generalize c * inv % y = r at hd hr0 hr1 ⊢
  have fin : ∀ k, y ∣ k * x - c → modulus ∣ base + k * length - goal := by
    rintro k ⟨z, hz⟩
    refine ⟨z, ?_⟩
    have e6 : k * length = g * (k * x) := by rw [hx, ← Int.mul_assoc, Int.mul_comm k g, Int.mul_assoc]
    have e7 : k * x = c + y * z := by omega
    rw [e6, e7, Int.mul_add, hy, ← Int.mul_assoc]
    omega
  refine ⟨g, h, ?_⟩
  dsimp only
  rw [e2]
  by_cases h0 : r = 0
  · rw [if_pos h0]
    subst h0
    refine ⟨by omega, Int.le_refl _, fin y ?_⟩
    obtain ⟨z, hz⟩ := hd
    exact ⟨x + z, by rw [Int.mul_add, ← hz]; omega⟩
  · rw [if_neg h0]
    exact ⟨by omega, by omega, fin r hd⟩
/-- fired at once where a slot is visited -/
theorem visGo_fire {W : List Lv} {B : Bk} (hf : B.fire = true) {before now : Int} : ∀ (is : List Nat) {sp : Spot}, sp.lv ∈ is → isVis (lv W sp.lv) sp.pt before now = true → visGo W B before now is sp = [none]
  | [], sp, h, _ => by simp at h
  | i :: is, sp, h, hv => by
    unfold visGo
    by_cases e : sp.lv = i
    · have et : taken W B sp now = none := by unfold taken; rw [if_pos (.inr hf)]
      rw [if_pos ⟨e, by rw [← e]; exact hv⟩, et]
    · rw [if_neg (fun z => e z.1)]
      exact visGo_fire hf is (by rcases List.mem_cons.mp h with q | q; exact absurd q e; exact q) hv
theorem isVis_at {l : Lv} {pt t : Int} (hg : 0 < l.g) (hs : 0 < l.s) (h : l.g * l.s ∣ t - pt * l.g) : isVis l pt (t - 1) t = true := by
  obtain ⟨j, hj⟩ := h
  have e : t = (pt + l.s * j) * l.g := by rw [Int.add_mul, Int.mul_comm (l.s * j) l.g, ← Int.mul_assoc]; omega
  unfold isVis
  have e1 : t / l.g = pt + l.s * j := by rw [e, Int.mul_ediv_cancel _ (by omega)]
  have e2 : (t - 1) / l.g = pt + l.s * j - 1 := by
    rw [e, show (pt + l.s * j) * l.g - 1 = (l.g - 1) + (pt + l.s * j - 1) * l.g by rw [Int.sub_mul]; omega, Int.add_mul_ediv_right _ _ (by omega), Int.ediv_eq_zero_of_lt (by omega) (by omega)]
    omega
  rw [e1, e2]
  have e3 : pt - (pt + l.s * j - 1) - 1 = -(l.s * j) := by omega
  have e4 : -(l.s * j) % l.s = 0 := Int.emod_eq_zero_of_dvd ⟨-j, by rw [Int.mul_neg]⟩
  rw [e3, e4]
  simp
  omega
end Tw
/-! Tw: least common multiples -/
namespace Tw
def IsL (a b m : Int) : Prop := 0 < m ∧ ∀ d, m ∣ d ↔ (a ∣ d ∧ b ∣ d)
theorem isG_is {a b : Int} (ha : 0 < a) {g : Int} (h : IsG a b g) : g = Int.gcd a b := by
  refine h.eq ⟨?_, fun d => ⟨fun z => Int.dvd_coe_gcd z.1 z.2, fun z => ⟨Int.dvd_trans z (Int.gcd_dvd_left ..), Int.dvd_trans z (Int.gcd_dvd_right ..)⟩⟩⟩
  have := Int.gcd_pos_of_ne_zero_left b (a := a) (by omega)
  omega
theorem isL_of {a b g : Int} (ha : 0 < a) (hb : 0 < b) (h : IsG a b g) : IsL a b (a / g * b) := by
  have hg := h.1
  obtain ⟨x, hx⟩ := h.left
  have e1 : a / g = x := by rw [hx, Int.mul_ediv_cancel_left _ (by omega)]
  have hx0 : 0 < x := by
    rcases Int.lt_or_le 0 x with z | z
    · exact z
    · have := Int.mul_nonpos_of_nonneg_of_nonpos (Int.le_of_lt hg) z
      omega
  have e2 : ((Int.lcm a b : Nat) : Int) = x * b := by
    have k := Int.gcd_mul_lcm a b
    have k2 : ((Int.gcd a b * Int.lcm a b : Nat) : Int) = a * b := by
      rw [k, Int.natCast_mul, Int.natAbs_of_nonneg (Int.le_of_lt ha), Int.natAbs_of_nonneg (Int.le_of_lt hb)]
    rw [Int.natCast_mul, ← isG_is ha h, hx, Int.mul_assoc] at k2
    rw [hx]
    exact Int.eq_of_mul_eq_mul_left (by omega) k2
  rw [e1, ← e2]
  refine ⟨by rw [e2]; exact Int.mul_pos hx0 hb, fun d => ⟨fun z => ⟨Int.dvd_trans (Int.dvd_lcm_left ..) z, Int.dvd_trans (Int.dvd_lcm_right ..) z⟩, fun z => Int.coe_lcm_dvd z.1 z.2⟩⟩
/-- the least common multiple of some numbers -/
def LcmOf (es : List Int) (m : Int) : Prop := 0 < m ∧ ∀ d, m ∣ d ↔ ∀ e ∈ es, e ∣ d
theorem LcmOf.eq {es : List Int} {m m' : Int} (h : LcmOf es m) (h' : LcmOf es m') : m = m' :=
  Int.dvd_antisymm (Int.le_of_lt h.1) (Int.le_of_lt h'.1) ((h.2 m').mpr ((h'.2 m').mp (Int.dvd_refl _))) ((h'.2 m).mpr ((h.2 m).mp (Int.dvd_refl _)))
theorem LcmOf.one : LcmOf [] 1 := ⟨by decide, fun d => ⟨fun _ _ z => by simp at z, fun _ => Int.one_dvd _⟩⟩
theorem LcmOf.single {a : Int} (h : 0 < a) : LcmOf [a] a := ⟨h, fun d => ⟨fun z e he => by rw [List.mem_singleton.mp he]; exact z, fun z => z a (by simp)⟩⟩
theorem LcmOf.snoc {es : List Int} {m b m' : Int} (h : LcmOf es m) (h' : IsL m b m') : LcmOf (es ++ [b]) m' := ⟨h'.1, fun d => by
  rw [h'.2 d, h.2 d]
  constructor
  · rintro ⟨z1, z2⟩ e he
    rcases List.mem_append.mp he with he | he
    · exact z1 e he
    · rw [List.mem_singleton.mp he]; exact z2
  · intro z
    exact ⟨fun e he => z e (by simp [he]), z b (by simp)⟩⟩
theorem LcmOf.cons {es : List Int} {m a m' : Int} (h : LcmOf es m) (h' : IsL a m m') : LcmOf (a :: es) m' := ⟨h'.1, fun d => by
  rw [h'.2 d, h.2 d]
  constructor
  · rintro ⟨z1, z2⟩ e he
    rcases List.mem_cons.mp he with rfl | he
    · exact z1
    · exact z2 e he
  · intro z
    exact ⟨z a (by simp), fun e he => z e (by simp [he])⟩⟩
end Tw
/-! Tw: rings, in plain Lean -/
namespace Tw
open TwM
theorem php : ∀ (g : Nat) (l : List Nat), l.Nodup → (∀ x ∈ l, x < g) → l.length ≤ g
  | 0, l, _, h => by
    cases l with
    | nil => exact Nat.le_refl _
    | cons x l => exact absurd (h x List.mem_cons_self) (Nat.not_lt_zero _)
  | g + 1, l, hn, h => by
    have h1 := php g (l.erase g) (hn.erase g) fun x hx => by
      have h2 := (hn.mem_erase_iff).mp hx
      have := h x h2.2
      have : x ≠ g := h2.1
      omega
    rw [List.length_erase] at h1
    split at h1 <;> omega
/-- n values below g, all unlike -/
theorem php_fn {f : Nat → Int} {g : Int} {n : Nat} (hg : 0 ≤ g) (hr : ∀ i, i < n → 0 ≤ f i ∧ f i < g) (hd : ∀ i j, i < j → j < n → f i ≠ f j) : (n : Int) ≤ g := by
  have hn : ((List.range n).map fun i => (f i).toNat).Nodup := by
    rw [List.Nodup, List.pairwise_map]
    refine (List.pairwise_lt_range (n := n)).imp_of_mem fun {a b} ha hb hlt => ?_
    have h1 := hr a (List.mem_range.mp ha)
    have h2 := hr b (List.mem_range.mp hb)
    have := hd a b hlt (List.mem_range.mp hb)
    omega
  have := php g.toNat _ hn fun x hx => by
    obtain ⟨i, hi, rfl⟩ := List.mem_map.mp hx
    have := hr i (List.mem_range.mp hi)
    omega
  rw [List.length_map, List.length_range] at this
  rcases Nat.eq_zero_or_pos n with z | z
  · subst z
    exact hg
  · have := hr 0 z
    omega
section
variable {W : List Lv} {B : Bk}
/-- the firings of a timer that is set anew -/
def tkR (W : List Lv) (B : Bk) (d start : Int) : Nat → Int
  | 0 => start
  | n + 1 => (fin W B (tkR W B d start n) d).1
/-- lead, length and ticks of a ring -/
structure RingIs (W : List Lv) (B : Bk) (d g start : Int) (N lead : Nat) : Prop where
  dif : ∀ i j, i < j → j < N → tkR W B d start i % g ≠ tkR W B d start j % g
  lt : lead < N
  eq : tkR W B d start lead % g = tkR W B d start N % g
theorem RingIs.uniq {d g start : Int} {N N' lead lead' : Nat} (h : RingIs W B d g start N lead) (h' : RingIs W B d g start N' lead') : N = N' ∧ lead = lead' := by
  have hN : N = N' := by
    rcases Nat.lt_trichotomy N N' with z | z | z
    · exact absurd h.eq (h'.dif lead N h.lt z)
    · exact z
    · exact absurd h'.eq (h.dif lead' N' h'.lt z)
  subst hN
  refine ⟨rfl, ?_⟩
  rcases Nat.lt_trichotomy lead lead' with z | z | z
  · exact absurd (h.eq.trans h'.eq.symm) (h.dif lead lead' z h'.lt)
  · exact z
  · exact absurd (h'.eq.trans h.eq.symm) (h.dif lead' lead z h.lt)
/-- a whole number of grains later -/
theorem tkR_later (ok : WOk W) (hb3 : B.bey < 3) {d : Int} (hd : 1 ≤ d) (hb : reach W ≤ d → B.bey ≠ 0) (start m : Int) : ∀ n, tkR W B d (start + (lv W (TwM.levelIx W d)).g * m) n = tkR W B d start n + (lv W (TwM.levelIx W d)).g * m
  | 0 => rfl
  | n + 1 => by
    show (fin W B (tkR W B d (start + (lv W (TwM.levelIx W d)).g * m) n) d).1 = _
    rw [tkR_later ok hb3 hd hb start m n]
    obtain ⟨_, _, _, _, _, _, _, h, _⟩ := later (B := B) ok hb3 hd hb (tkR W B d start n) m
    exact h
theorem RingIs.later (ok : WOk W) (hb3 : B.bey < 3) {d : Int} (hd : 1 ≤ d) (hb : reach W ≤ d → B.bey ≠ 0) {start : Int} (m : Int) {N lead : Nat} (h : RingIs W B d (lv W (TwM.levelIx W d)).g start N lead) : RingIs W B d (lv W (TwM.levelIx W d)).g (start + (lv W (TwM.levelIx W d)).g * m) N lead := by
  have e : ∀ n, tkR W B d (start + (lv W (TwM.levelIx W d)).g * m) n % (lv W (TwM.levelIx W d)).g = tkR W B d start n % (lv W (TwM.levelIx W d)).g := fun n => by
    rw [tkR_later ok hb3 hd hb, Int.add_mul_emod_self_left]
  refine ⟨fun i j a b => ?_, h.lt, ?_⟩
  · rw [e, e]; exact h.dif i j a b
  · rw [e, e]; exact h.eq
end
end Tw
namespace Tw
open PySem PySem.Spec PyProof.Rows L2 He TwM
open PySem.W (Frag)
theorem split_bws (B : Bk) (hb : B.bey < 3) : Txt.split (Txt.join " " (bws B)) " " = bws B ∧ (Txt.join " " (bws B)).length ≤ 100 := by
  obtain ⟨u, f, hi, p, z, n⟩ := B
  have key : ∀ (u f hi p z : Bool), ∀ n : Fin 3, Txt.split (Txt.join " " (bws ⟨u, f, hi, p, z, n.val⟩)) " " = bws ⟨u, f, hi, p, z, n.val⟩ ∧ (Txt.join " " (bws ⟨u, f, hi, p, z, n.val⟩)).length ≤ 100 := by decide +kernel
  exact key u f hi p z ⟨n, hb⟩
end Tw
/-! Tw: unpacking what is a list or a tuple -/
namespace Tw
open PySem PySem.Spec PyProof.Rows L2
/-- (a, b, ..) = a list or a tuple of that length -/
def gUnA (K : PySem.W.Frag) (n : Nat) (t : TGs) : TG := fun v σ H Q => ∃ a xs, v = .ref a ∧ (SqL K H a xs ∨ SqT K H a xs) ∧ xs.length = n ∧ t xs σ H Q
theorem pg_or {X : Cx} {e : Expr} {n : Nat} {t : TGs} (h1 : PG X e (gUnl X.K n t)) (h2 : PG X e (gTup X.K n t)) : PG X e (gUnA X.K n t) := by
  refine ⟨fun pins s σ H v u Q I r hw => ?_⟩
  obtain ⟨a, xs, e1, hq | hq, hl, hw⟩ := hw
  · exact h1.run pins s σ H v u Q I r ⟨a, xs, e1, hq, hl, hw⟩
  · exact h2.run pins s σ H v u Q I r ⟨a, xs, e1, hq, hl, hw⟩
end Tw
/-! Tw: readings of what makes books, levels, wheels -/
namespace Tw
open PySem PySem.Spec PyProof.Rows L2 He TwM
open PySem.W (Frag)
local macro_rules | `(tactic| walk_at "rsu") => `(tactic| simp only [*, at3_0, at3_1, at3_2, at2_0, at2_1, and_assoc, not_true_eq_false, not_false_eq_true, tNever, List.length_map, tFld, rIxTH, rIxLH, rLenTH, rLenLH, lk1, lfs_g, lfs_s, lfs_p, HO.ins.injEq, HO.tup.injEq, HO.lst.injEq, sp_Book_rounding, sp_Book_action, sp_Book_order, sp_Book_due, sp_Book_zero, sp_Book_beyond, Int.toNat_natCast, sp_visit_after, sp_is_visited, sp_Level_grain, sp_Level_slots, sp_Level_span, sp_Wheel_reach, sp_Wheel___len__, sp_is_integer, sp_is_count, sp_is_within, sp_rounded, tSeq, tAsg, gName, tVar, tC, tOp, rI, rI0, rU, tUn, oAdd, oSub, oMul, oDiv, oMod, oNeg, oLt, oLe, oGt, oGe, oIsN, oNotN, tFn, tCons, tNil, tIfS, tIf, tTest, tB, tNot, tAnd, tOr, tAndV, tOrV, tNotV,
    tRet, tRetN, tNext, tCB, tDrop, tChain, rEq, rNe, oMax2, oMin2, oInt1, rLenF, L2.start, List.map_cons, List.map_nil, List.length_cons, List.length_nil, List.replicate_succ, List.replicate_zero, List.cons_append, List.nil_append, Nat.reduceAdd, Nat.reduceSub, Nat.zero_add,
    List.set_cons_zero, List.set_cons_succ, List.getElem?_cons_zero, List.getElem?_cons_succ, Option.some.injEq, V.int.injEq, V.ref.injEq, V.str.injEq, V.bl.injEq, exists_eq_left', exists_eq_left, exists_and_left, List.cons.injEq, and_true, true_and, decide_eq_true_eq, sc_ii, sc_ss, sc_bb, sc_ni, sc_in, sc_nn, sc_is, reduceCtorEq,
    Bool.not_eq_true', decide_eq_false_iff_not, if_true, if_false, Bool.false_eq_true, exists_eq', exists_const, false_and, and_false, or_false, false_or, exists_false, Bool.not_not, Bool.not_true, Bool.not_false, sUp_up, sFire_fire, sHigh_high, sPut_put, sZone_now, sBey_refuse, sBey_cut, tTup, tLst, sz0, sz1, sz2, sz3, sz4, sz5, sz6])
section
variable {K : Frag} {w : World}
/-- all but x stays -/
def SameX (x : Addr) (H H' : Hp) : Prop := ∀ b o, b ≠ x → H b = some o → H' b = some o
theorem SameX.refl (x : Addr) (H : Hp) : SameX x H H := fun _ _ _ h => h
theorem SameX.same {x : Addr} {H H1 H2 : Hp} (h : SameX x H H1) (s : Same H1 H2) : SameX x H H2 := fun b o n e => s _ _ (h b o n e)
theorem SameX.upd {x : Addr} {H H1 : Hp} {o : HO} (h : SameX x H H1) : SameX x H (upd H1 x o) := fun b u n e => by
  rw [upd_ne n]; exact h b u n e
theorem Same.toX {x : Addr} {H H1 : Hp} (s : Same H H1) : SameX x H H1 := fun b o _ e => s b o e
/-- after a making: what stood ahead of it stays -/
theorem SameX.made {H2 H' : Hp} {x dx : Addr} {o o' : HO} (hx : H2 x = none) (hd : H2 dx = none) (h : SameX x (L2.upd (L2.upd H2 dx o) x o') H') : Same H2 H' := fun b u e => by
  have n1 : b ≠ x := ne_of_none e hx
  have n2 : b ≠ dx := ne_of_none e hd
  exact h b u n1 (by rw [upd_ne n1, upd_ne n2]; exact e)
theorem bws_len (B : Bk) : (bws B).length = 6 := rfl
theorem iv0 (b : Bool) : inV (.str (sUp b)) [.str "down", .str "up"] = true := by cases b <;> decide +kernel
theorem iv1 (b : Bool) : inV (.str (sFire b)) [.str "fire", .str "move"] = true := by cases b <;> decide +kernel
theorem iv2 (b : Bool) : inV (.str (sHigh b)) [.str "high", .str "low"] = true := by cases b <;> decide +kernel
theorem iv3 (b : Bool) : inV (.str (sPut b)) [.str "now", .str "put"] = true := by cases b <;> decide +kernel
theorem iv4 (b : Bool) : inV (.str (sZone b)) [.str "now", .str "one"] = true := by cases b <;> decide +kernel
theorem iv5 (n : Nat) (h : n < 3) : inV (.str (sBey n)) [.str "refuse", .str "last", .str "cut"] = true := by
  match n, h with
  | 0, _ => decide +kernel
  | 1, _ => decide +kernel
  | 2, _ => decide +kernel
def sp_is_value (K : Frag) : Sp := fun vs H Q _ => ∃ (i : Nat) (B : Bk) (x y : Str), vs = [.str x, .str y] ∧ B.bey < 3 ∧ six[i]? = some x ∧ (bws B)[i]? = some y ∧ Q (.bl true) H
def t_is_value (K : Frag) (w : World) : TS :=
  (tRet (tAndV (tCB (rIsi K) (tCons (tVar 1) (tCons (tC (.ty "str")) tNil))) (tOp (rIn K false) (tVar 1) (tOp (rIxD K w) (tC (.ref (ga K "VALUES"))) (tVar 0)))))
def n_is_value : List Str := ["switch", "value"]
theorem rd_is_value (T : Kf K w) (vs : List V) (H : Hp) (Q : VK) (E : XK) (h : sp_is_value K vs H Q E) : t_is_value K w { nx := fun _ H' => Q .non H', rt := Q } (L2.start n_is_value vs) H := by
  obtain ⟨i, B, x, y, rfl, hb, hx, hy, q⟩ := h
  have key : ∀ xs, SqT K H (dva K (ga K "VALUES") x) xs → xs.all flatV = true → inV (.str y) xs = true → t_is_value K w { nx := fun _ H' => Q .non H', rt := Q } (L2.start n_is_value [.str x, .str y]) H := by
    intro xs h1 h2 h3
    unfold t_is_value n_is_value
    walk_at "rsu"
    refine isi_base (.base (.str y)) (b := true) (by decide +kernel) ⟨true, rfl, iteT ?_⟩
    have hm : x ∈ six := List.mem_of_getElem? hx
    exact ⟨_, x, _, rfl, rfl, T.vd x hm, _, xs, rfl, .inr h1, rfl, h2, by rw [if_neg Bool.false_ne_true, h3]; exact q⟩
  obtain ⟨u, f, hi, p, z, n⟩ := B
  have hn : n < 3 := hb
  match i with
  | 0 =>
    obtain rfl := Option.some.inj hx
    obtain rfl := Option.some.inj hy
    exact key _ (T.v0 H) (by decide +kernel) (iv0 u)
  | 1 =>
    obtain rfl := Option.some.inj hx
    obtain rfl := Option.some.inj hy
    exact key _ (T.v1 H) (by decide +kernel) (iv1 f)
  | 2 =>
    obtain rfl := Option.some.inj hx
    obtain rfl := Option.some.inj hy
    exact key _ (T.v2 H) (by decide +kernel) (iv2 hi)
  | 3 =>
    obtain rfl := Option.some.inj hx
    obtain rfl := Option.some.inj hy
    exact key _ (T.v3 H) (by decide +kernel) (iv3 p)
  | 4 =>
    obtain rfl := Option.some.inj hx
    obtain rfl := Option.some.inj hy
    exact key _ (T.v4 H) (by decide +kernel) (iv4 z)
  | 5 =>
    obtain rfl := Option.some.inj hx
    obtain rfl := Option.some.inj hy
    exact key _ (T.v5 H) (by decide +kernel) (iv5 n hn)
  | i + 6 => cases hx
def sp_Book___init__ (K : Frag) : Sp := fun vs H Q _ => ∃ (x dx : Addr) (B : Bk), vs = .ref x :: (bws B).map V.str ∧ B.bey < 3 ∧ H x = some (.ins (ga K "Book") dx []) ∧ ∀ H', SameX x H H' → BkAt K H' x B → Q .non H'
def t_Book___init__ (K : Frag) (w : World) : TS :=
  (tSeq (tAsg (tTup (tCons (tVar 1) (tCons (tVar 2) (tCons (tVar 3) (tCons (tVar 4) (tCons (tVar 5) (tCons (tVar 6) tNil))))))) (gName 7))
  (tSeq (tFor (RZ.iZipA K (tCons (tC (.ref (ga K "SWITCHES"))) (tCons (tVar 7) tNil))) (gTup K 2 (gCons (gName 8) (gCons (gName 9) gNil)))
    (tIfS (tNot (tB (tFn (sp_is_value K) E0 (tCons (tVar 8) (tCons (tVar 9) tNil))))) tNever tNext))
  (sFld K (tVar 0) (tVar 7) "kept_values")))
def n_Book___init__ : List Str := ["self", "rounding", "action", "order", "due", "zero", "beyond", "given", "switch", "value"]
theorem rd_Book___init__ (T : Kf K w) (vs : List V) (H : Hp) (Q : VK) (E : XK) (h : sp_Book___init__ K vs H Q E) : t_Book___init__ K w { nx := fun _ H' => Q .non H', rt := Q } (L2.start n_Book___init__ vs) H := by
  obtain ⟨x, dx, B, rfl, hb, hx, q⟩ := h
  have c1 := T.cB
  have c2 := T.nBv
  have e0 : (bws B).map V.str = [.str (sUp B.up), .str (sFire B.fire), .str (sHigh B.high), .str (sPut B.put), .str (sZone B.zone), .str (sBey B.bey)] := rfl
  rw [e0]
  unfold t_Book___init__ n_Book___init__ sFld
  walk_at "rsu"
  intro g hg
  have s0 := Same.new (o := .tup ((bws B).map V.str)) hg
  rw [← e0]
  refine ⟨_, rfl, _, _, _, _, rfl, .inr ⟨T.sw _, SqT.of upd_same, RZ.for_zipT (K := K) (a := ga K "SWITCHES") (b := g) (xs := six.map V.str) (ys := (bws B).map V.str) rfl
    (fun i σ H' => ∃ v8 v9, σ = [some (.ref x), some (.str (sUp B.up)), some (.str (sFire B.fire)), some (.str (sHigh B.high)), some (.str (sPut B.put)), some (.str (sZone B.zone)), some (.str (sBey B.bey)), some (.ref g), v8, v9] ∧ Same (upd H g (.tup ((bws B).map V.str))) H')
    ⟨none, none, rfl, Same.refl _⟩ (fun i σ H' ⟨_, _, _, s⟩ => ⟨T.sw H', SqT.of (s _ _ upd_same)⟩) ?_ ?_⟩⟩
  · rintro i a b Tq σ H1 ha hb' ⟨v8, v9, rfl, s⟩ hT
    rw [List.getElem?_map] at ha hb'
    cases ea : six[i]? with
    | none => rw [ea] at ha; cases ha
    | some x1 =>
      cases eb : (bws B)[i]? with
      | none => rw [eb] at hb'; cases hb'
      | some y1 =>
        rw [ea] at ha
        rw [eb] at hb'
        obtain rfl := Option.some.inj ha
        obtain rfl := Option.some.inj hb'
        refine ⟨_, _, rfl, SqT.of upd_same, rfl, _, _, rfl, _, _, rfl, rfl, ?_⟩
        have s' := s.trans (Same.new (o := .tup [.str x1, .str y1]) hT)
        walk_at "rsu"
        exact ⟨i, B, x1, y1, rfl, hb, ea, eb, true, rfl, by rw [if_neg Bool.noConfusion]; exact s'⟩
  · rintro σ H1 ⟨v8, v9, rfl, s⟩
    have hx1 := s _ _ (s0 _ _ hx)
    have ht1 := s _ _ (upd_same (H := H) (a := g) (o := .tup ((bws B).map V.str)))
    have hgx : g ≠ x := fun e => by rw [e, hx] at hg; cases hg
    walk_at "rsu"
    refine ⟨by decide, q _ (SameX.upd (Same.toX (s0.trans s))) ⟨hb, dx, g, ?_, ?_⟩⟩
    · rw [upd_same]; rfl
    · rw [upd_ne hgx]; exact ht1
def gV_Book_rounding_action_order_due_zero_beyond : List V → List V → List V := fun vs zs => vs ++ zs
def gV_Level_span : List V → List V → List V := fun vs zs => vs ++ zs
def sp_book_of (K : Frag) : Sp := fun vs H Q _ => ∃ (l : Addr) (B : Bk), vs = [.ref l] ∧ B.bey < 3 ∧ (H l = some (.lst ((bws B).map V.str)) ∨ H l = some (.tup ((bws B).map V.str))) ∧ ∀ a H', Same H H' → BkAt K H' a B → Q (.ref a) H'
def t_book_of (K : Frag) (w : World) : TS :=
  (tSeq (tAsg (tVar 0) (gUnA K 6 (gCons (gName 1) (gCons (gName 2) (gCons (gName 3) (gCons (gName 4) (gCons (gName 5) (gCons (gName 6) gNil))))))))
  (tRet (tMakeK (ga K "Book") 0 6 (sp_Book___init__ K) gV_Book_rounding_action_order_due_zero_beyond E0 tNil (tCons (tVar 1) (tCons (tVar 2) (tCons (tVar 3) (tCons (tVar 4) (tCons (tVar 5) (tCons (tVar 6) tNil)))))))))
def n_book_of : List Str := ["values", "rounding", "action", "order", "due", "zero", "beyond"]
theorem rd_book_of (vs : List V) (H : Hp) (Q : VK) (E : XK) (h : sp_book_of K vs H Q E) : t_book_of K w { nx := fun _ H' => Q .non H', rt := Q } (L2.start n_book_of vs) H := by
  obtain ⟨l, B, rfl, hb, hl, q⟩ := h
  refine ⟨_, rfl, l, _, rfl, hl.imp SqL.of SqT.of, rfl, _, _, rfl, _, _, rfl, _, _, rfl, _, _, rfl, _, _, rfl, _, _, rfl, rfl, ?_⟩
  refine ⟨_, rfl, _, rfl, _, rfl, _, rfl, _, rfl, _, rfl, rfl, rfl, fun x dx hx hd hn => ?_⟩
  exact ⟨x, dx, B, rfl, hb, upd_same, fun H' s z => ⟨rfl, q x H' (SameX.made hx hd s) z⟩⟩
def sp_Book_from_text (K : Frag) : Sp := fun vs H Q _ => ∃ (B : Bk), vs = [.ref (ga K "Book"), .str (Txt.join " " (bws B))] ∧ B.bey < 3 ∧ ∀ a H', Same H H' → BkAt K H' a B → Q (.ref a) H'
def t_Book_from_text (K : Frag) (w : World) : TS :=
  (tSeq (tIfS (tNot (tB (tCB (rIsi K) (tCons (tVar 1) (tCons (tC (.ty "str")) tNil))))) tNever tNext)
  (tSeq (tAsg (tM1 oSplit (tVar 1) (tC (.str " "))) (gName 2))
  (tSeq (tIfS (tTest (tOp rNe (tCB rLenLH (tCons (tVar 2) tNil)) (tCB (oLen K) (tCons (tC (.ref (ga K "SWITCHES"))) tNil)))) tNever tNext)
  (tSeq (tFor (iZm K (tCons (tC (.ref (ga K "SWITCHES"))) (tCons (tVar 2) tNil))) (gTup K 2 (gCons (gName 3) (gCons (gName 4) gNil)))
    (tIfS (tNot (tB (tFn (sp_is_value K) E0 (tCons (tVar 3) (tCons (tVar 4) tNil))))) tNever tNext))
  (tRet (tFn (sp_book_of K) E0 (tCons (tVar 2) tNil)))))))
def n_Book_from_text : List Str := ["cls", "text", "words", "switch", "word"]
theorem rd_Book_from_text (T : Kf K w) (vs : List V) (H : Hp) (Q : VK) (E : XK) (h : sp_Book_from_text K vs H Q E) : t_Book_from_text K w { nx := fun _ H' => Q .non H', rt := Q } (L2.start n_Book_from_text vs) H := by
  obtain ⟨B, rfl, hb, q⟩ := h
  obtain ⟨e1, e2⟩ := split_bws B hb
  have e6 := bws_len B
  generalize Txt.join " " (bws B) = tx at e1 e2 ⊢
  unfold t_Book_from_text n_Book_from_text tM1 oSplit oLen rNewStrs
  walk_at "rsu"
  refine isi_base (.base (.str tx)) (b := true) (by decide +kernel) ⟨true, rfl, ?_⟩
  rw [if_neg Bool.noConfusion]
  refine ⟨rfl, Nat.le_trans (Nat.add_le_add_right e2 2) (by decide), fun l hl => ⟨_, upd_same, _, .inr (T.sw _), ?_⟩⟩
  have s0 := Same.new (o := .lst ((bws B).map V.str)) hl
  rw [if_neg (fun z => z rfl)]
  refine ⟨_, rfl, _, _, _, _, rfl, T.sw _, SqL.of upd_same, for_zm (K := K) (a := ga K "SWITCHES") (b := l) (xs := six.map V.str) (ys := (bws B).map V.str) rfl
    (fun i σ H' => ∃ v8 v9, σ = [some (.ref (ga K "Book")), some (.str tx), some (.ref l), v8, v9] ∧ Same (upd H l (.lst ((bws B).map V.str))) H')
    ⟨none, none, rfl, Same.refl _⟩ (fun i σ H' ⟨_, _, _, s⟩ => ⟨T.sw H', SqL.of (s _ _ upd_same)⟩) ?_ ?_⟩
  · rintro i a b Tq σ H1 ha hb' ⟨v8, v9, rfl, s⟩ hT
    rw [List.getElem?_map] at ha hb'
    cases ea : six[i]? with
    | none => rw [ea] at ha; cases ha
    | some x1 =>
      cases eb : (bws B)[i]? with
      | none => rw [eb] at hb'; cases hb'
      | some y1 =>
        rw [ea] at ha
        rw [eb] at hb'
        obtain rfl := Option.some.inj ha
        obtain rfl := Option.some.inj hb'
        refine ⟨_, _, rfl, SqT.of upd_same, rfl, _, _, rfl, _, _, rfl, rfl, ?_⟩
        have s' := s.trans (Same.new (o := .tup [.str x1, .str y1]) hT)
        walk_at "rsu"
        exact ⟨i, B, x1, y1, rfl, hb, ea, eb, true, rfl, by rw [if_neg Bool.noConfusion]; exact s'⟩
  · rintro σ H1 ⟨v8, v9, rfl, s⟩
    exact ⟨_, rfl, l, B, rfl, hb, .inl (s _ _ upd_same), fun a H' s' z => q a H' ((s0.trans s).trans s') z⟩
def sp_Level___init__ (K : Frag) : Sp := fun vs H Q _ => ∃ (x dx : Addr) (l : Lv) (v : V), vs = [.ref x, .int l.g, .int l.s, v] ∧ (v = .int l.p ∨ v = .non ∧ l.p = l.s * l.g) ∧ LOk l ∧ 2 ≤ l.p ∧ l.p ≤ 4 * l.s * l.g ∧ H x = some (.ins (ga K "Level") dx []) ∧ ∀ H', SameX x H H' → LvAt K H' x l → Q .non H'
def t_Level___init__ (K : Frag) (w : World) : TS :=
  (tSeq (tIfS (tNot (tB (tFn (sp_is_within K) E0 (tCons (tVar 1) (tCons (tC (.int 1)) (tCons (tC (.int 1000)) tNil)))))) tNever tNext)
  (tSeq (tIfS (tNot (tB (tFn (sp_is_within K) E0 (tCons (tVar 2) (tCons (tC (.int 2)) (tCons (tC (.int 100)) tNil)))))) tNever tNext)
  (tSeq (tIfS (tAnd (tTest (tOp oNotN (tVar 3) (tC .non))) (tNot (tB (tFn (sp_is_within K) E0 (tCons (tVar 3) (tCons (tC (.int 2)) (tCons (tOp oMul (tOp oMul (tC (.int 4)) (tVar 2)) (tVar 1)) tNil))))))) tNever tNext)
  (tSeq (sFld K (tVar 0) (tVar 1) "kept_grain")
  (tSeq (sFld K (tVar 0) (tVar 2) "kept_slots")
  (sFld K (tVar 0) (tIf (tTest (tOp oIsN (tVar 3) (tC .non))) (tOp oMul (tVar 2) (tVar 1)) (tVar 3)) "kept_span"))))))
def n_Level___init__ : List Str := ["self", "grain", "slots", "span"]
theorem rd_Level___init__ (T : Klv K w) (vs : List V) (H : Hp) (Q : VK) (E : XK) (h : sp_Level___init__ K vs H Q E) : t_Level___init__ K w { nx := fun _ H' => Q .non H', rt := Q } (L2.start n_Level___init__ vs) H := by
  obtain ⟨x, dx, l, v, rfl, hv, ok, hp1, hp2, hx, q⟩ := h
  obtain ⟨g1, g2, s1, s2⟩ := id ok
  have c1 := T.cL
  have c2 := T.nLg
  have c3 := T.nLs
  have c4 := T.nLp
  have hpt : putF "kept_span" (.int l.p) (putF "kept_slots" (.int l.s) (putF "kept_grain" (.int l.g) [])) = lfs l := rfl
  have hfin : Q .non (upd (upd (upd H x (.ins (ga K "Level") dx (putF "kept_grain" (.int l.g) []))) x (.ins (ga K "Level") dx (putF "kept_slots" (.int l.s) (putF "kept_grain" (.int l.g) []))))
      x (.ins (ga K "Level") dx (putF "kept_span" (.int l.p) (putF "kept_slots" (.int l.s) (putF "kept_grain" (.int l.g) []))))) :=
    q _ (SameX.upd (SameX.upd (SameX.upd (SameX.refl x H)))) ⟨ok, dx, by rw [upd_same, hpt]⟩
  unfold t_Level___init__ n_Level___init__ sFld
  rcases hv with rfl | ⟨rfl, hpe⟩
  · walk_at "rsu"
    exact ⟨.inr ⟨by omega, by omega⟩, .inr ⟨by omega, by omega⟩, by decide, _, _, _, upd_same, c1, c3, by show 1 < 1000; decide, _, _, _, upd_same, c1, c4, by show 2 < 1000; decide, hfin⟩
  · rw [hpe] at hfin
    walk_at "rsu"
    exact ⟨by decide, _, _, _, upd_same, c1, c3, by show 1 < 1000; decide, .inr ⟨by omega, by omega⟩, _, _, _, upd_same, c1, c4, by show 2 < 1000; decide, hfin⟩
/-- a loop over zip of two tuples of any lengths -/
theorem for_zipN {K : PySem.W.Frag} {a b : Addr} {xs ys : List V} {g : TG} {tb : TS} {D : Ends} {σ : L2.St} {H : Hp} (hl : ys.length ≤ xs.length) (Pv : Nat → L2.St → Hp → Prop) (h0 : Pv 0 σ H) (hq : ∀ i σ H, Pv i σ H → SqT K H a xs ∧ SqT K H b ys)
    (hs : ∀ (i : Nat) (x y : V) (T : Addr) (σ : L2.St) (H : Hp), xs[i]? = some x → ys[i]? = some y → Pv i σ H → H T = none → g (.ref T) σ (upd H T (.tup [x, y])) fun σ2 H2 => tb { D with nx := Pv (i + 1), ct := Pv (i + 1), bk := D.nx } σ2 H2) (hd : ∀ σ H, Pv ys.length σ H → D.nx σ H) :
    ∃ W : Nat → Nat → L2.St → Hp → Prop, (∃ m, W 0 m σ H) ∧ ∀ i m σ H, W i m σ H →
      ((RZ.ItzT K a b).stop i H ∧ D.nx σ H) ∨ ((RZ.ItzT K a b).go i H ∧ ∃ N : L2.St → Hp → Prop, (∀ σ' H', N σ' H' → ∃ m', m' < m ∧ W (i + 1) m' σ' H') ∧ ∀ v H', (RZ.ItzT K a b).yld i H v H' → g v σ H' fun σ2 H2 => tb { D with nx := N, ct := N, bk := D.nx } σ2 H2) := by
  refine ⟨fun i m σ H => m = ys.length - i ∧ i ≤ ys.length ∧ Pv i σ H, ⟨ys.length, rfl, Nat.zero_le _, h0⟩, ?_⟩
  rintro i m σ H ⟨rfl, hi, p⟩
  obtain ⟨qx, qy⟩ := hq i σ H p
  rcases Nat.lt_or_ge i ys.length with hy | hy
  · refine .inr ⟨⟨xs, ys, _, _, qx, qy, List.getElem?_eq_getElem (by omega), List.getElem?_eq_getElem hy⟩, Pv (i + 1), ?_, ?_⟩
    · exact fun σ' H' p' => ⟨ys.length - (i + 1), by omega, rfl, hy, p'⟩
    · rintro v H' ⟨T, x', y', rfl, hT, rfl, f1, f2⟩
      exact hs i x' y' T σ H (f1 xs qx) (f2 ys qy) p hT
  · obtain rfl : i = ys.length := by omega
    exact .inl ⟨⟨xs, ys, qx, qy, .inr hy⟩, hd σ H p⟩
def sp_are_levels (K : Frag) : Sp := fun vs H Q _ => ∃ (t : Addr) (as : List Addr) (W : List Lv), vs = [.ref t] ∧ H t = some (.tup (as.map V.ref)) ∧ as.length = W.length ∧ (∀ i c, as[i]? = some c → LvAt K H c (lv W i)) ∧ WOk W ∧ ∀ H', Same H H' → Q (.bl true) H'
def t_are_levels (K : Frag) (w : World) : TS :=
  (tSeq (tIfS (tOr (tNot (tTest (tChain oLe oLe (tC (.int 1)) (tCB rLenTH (tCons (tVar 0) tNil)) (tC (.int 5))))) (tNot (tB (tCB (rAll K) (tCons (tLc (iTup K (tVar 0)) (gName 1) tYes (tCB (rIsi K) (tCons (tVar 1) (tCons (tC (.ref (ga K "Level"))) tNil))) [1]) tNil))))) (tRet (tC (.bl false))) tNext)
  (tSeq (tIfS (tTest (tOp rNe (tFn (sp_Level_grain K) E0 (tCons (tOp rIxTH (tVar 0) (tC (.int 0))) tNil)) (tC (.int 1)))) (tRet (tC (.bl false))) tNext)
  (tSeq (tFor (RZ.iZipA K (tCons (tVar 0) (tCons (tSl (rSlT K) (tVar 0) (tPart (tC (.int 1))) tNoPart) tNil))) (gTup K 2 (gCons (gName 2) (gCons (gName 3) gNil)))
    (tIfS (tOr (tTest (tOp rNe (tOp oMod (tFn (sp_Level_grain K) E0 (tCons (tVar 3) tNil)) (tFn (sp_Level_grain K) E0 (tCons (tVar 2) tNil))) (tC (.int 0)))) (tTest (tOp oLe (tFn (sp_Level_span K) E0 (tCons (tVar 3) tNil)) (tFn (sp_Level_span K) E0 (tCons (tVar 2) tNil))))) (tRet (tC (.bl false))) tNext))
  (tRet (tC (.bl true))))))
def n_are_levels : List Str := ["levels", "level", "one", "other"]
theorem rd_are_levels (T : Kl K w) (vs : List V) (H : Hp) (Q : VK) (E : XK) (h : sp_are_levels K vs H Q E) : t_are_levels K w { nx := fun _ H' => Q .non H', rt := Q } (L2.start n_are_levels vs) H := by
  obtain ⟨t, as, W, rfl, ht, hl, hc, ok, q⟩ := h
  have hp := ok.pos
  have hl5 := ok.len
  have c1 := T.cL
  have a0 : ∃ c, as[0]? = some c := ⟨as[0]'(by omega), List.getElem?_eq_getElem (by omega)⟩
  obtain ⟨c0, hc0⟩ := a0
  have hat : atI (as.map V.ref) 0 = some (.ref c0) := atI_nat (j := 0) (by rw [List.getElem?_map, hc0]; rfl)
  have hcut : cutV (as.map V.ref) (some 1) none = (as.drop 1).map V.ref := by
    unfold cutV
    have e1 : HT.sIx (as.map V.ref).length 0 (some 1) = 1 := by
      rw [List.length_map]
      show min (1 : Int).toNat as.length = 1
      have : (1 : Int).toNat = 1 := rfl
      omega
    rw [e1]
    show List.take ((as.map V.ref).length - 1) _ = _
    rw [List.take_of_length_le (by simp), List.map_drop]
  unfold t_are_levels n_are_levels
  walk_at "rsu"
  rw [if_pos (by omega), if_neg (by omega)]
  refine ⟨_, rfl, t, rfl, ⟨_, SqT.of ht⟩, fun D hD => lc_tup (K := K) (a := t) (xs := as.map V.ref) (fun i H' => Same H H' ∧ H' D = some (.lst ((List.replicate i true).map V.bl)))
    ⟨Same.new hD, upd_same⟩ (fun i H' _ z => SqT.of (z.1 _ _ ht)) ?_ ?_⟩
  · rintro i x H1 hx ⟨s1, hD1⟩
    obtain ⟨c, hci, rfl⟩ : ∃ c, as[i]? = some c ∧ x = V.ref c := by
      rw [List.getElem?_map] at hx
      cases e : as[i]? with
      | none => rw [e] at hx; cases hx
      | some c => rw [e] at hx; exact ⟨c, rfl, (Option.some.inj hx).symm⟩
    obtain ⟨_, dx, hca⟩ := (hc i c hci).same s1
    have hi : i < as.length := (List.getElem?_eq_some_iff.mp hci).1
    refine ⟨rfl, ?_⟩
    simp only [tYes, if_true]
    refine ⟨_, rfl, .ref c, _, _, _, true, rfl, .own _, .base (.ins hca c1 T.iL.ca T.iL.cn T.iL.ct T.iL.cm), T.kL, _, hD1, ?_, ?_⟩
    · have : sizeLine = 16777216 := rfl
      simp
      omega
    · exact ⟨Same.updN s1 hD, by rw [upd_same, List.replicate_succ', List.map_append]; rfl⟩
  · rintro H1 ⟨s1, hD1⟩
    have ht1 := s1 _ _ ht
    have eL := @lv_ex K H1 c0 (lv W 0) ((hc 0 c0 hc0).same s1)
    have hf := ok.first
    refine ⟨D, _, rfl, SqL.of hD1, ?_⟩
    walk_at "rsu"
    rw [if_neg (by simp)]
    refine ⟨_, rfl, _, rfl, _, rfl, t, _, rfl, SqT.of ht1, ?_, fun p hp => ?_⟩
    · rintro ⟨z, _⟩
      have : (as.map V.ref).length = as.length := List.length_map ..
      revert z
      show min (1 : Int).toNat (as.map V.ref).length ≠ 0
      have : (1 : Int).toNat = 1 := rfl
      omega
    rw [hcut]
    have s2 : Same H1 (upd H1 p (.tup ((as.drop 1).map V.ref))) := Same.new hp
    refine ⟨_, _, _, _, rfl, .inr ⟨SqT.of (s2 _ _ ht1), SqT.of upd_same, for_zipN (K := K) (a := t) (b := p) (xs := as.map V.ref) (ys := (as.drop 1).map V.ref) (by simp)
      (fun i σ H' => ∃ v2 v3, σ = [some (.ref t), none, v2, v3] ∧ Same H H' ∧ H' p = some (.tup ((as.drop 1).map V.ref))) ⟨none, none, rfl, Same.trans s1 s2, upd_same⟩ (fun i σ H' ⟨_, _, _, z, z2⟩ => ⟨SqT.of (z _ _ ht), SqT.of z2⟩) ?_ ?_⟩⟩
    · rintro i x y Tq σ H2 hx hy ⟨v2, v3, rfl, s3, hp2⟩ hT
      obtain ⟨c, hci, rfl⟩ : ∃ c, as[i]? = some c ∧ x = V.ref c := by
        rw [List.getElem?_map] at hx
        cases e : as[i]? with
        | none => rw [e] at hx; cases hx
        | some c => rw [e] at hx; exact ⟨c, rfl, (Option.some.inj hx).symm⟩
      obtain ⟨d, hdi, rfl⟩ : ∃ c, as[i + 1]? = some c ∧ y = V.ref c := by
        rw [List.getElem?_map, List.getElem?_drop, Nat.add_comm] at hy
        cases e : as[i + 1]? with
        | none => rw [e] at hy; cases hy
        | some c => rw [e] at hy; exact ⟨c, rfl, (Option.some.inj hy).symm⟩
      have hi : i + 1 < as.length := (List.getElem?_eq_some_iff.mp hdi).1
      have s4 : Same H2 (upd H2 Tq (.tup [.ref c, .ref d])) := Same.new hT
      have e1 := @lv_ex K _ c (lv W i) (((hc i c hci).same s3).same s4)
      have e2 := @lv_ex K _ d (lv W (i + 1)) (((hc (i + 1) d hdi).same s3).same s4)
      have hdv := ok.dv i (by omega)
      have has := ok.asc i (by omega)
      have hall := ok.all i (by omega)
      have s5 := Same.trans s3 s4
      have hpT := s4 _ _ hp2
      refine ⟨_, _, rfl, SqT.of upd_same, rfl, _, _, rfl, _, _, rfl, rfl, ?_⟩
      walk_at "rsu"
      refine ⟨by omega, ?_⟩
      rw [if_neg (fun z => z (Int.emod_eq_zero_of_dvd hdv)), if_neg (by omega)]
      exact trivial
    · rintro σ H2 ⟨v2, v3, rfl, s3, hp2⟩
      exact q H2 s3
def sq_Wheel___init__ (K : Frag) : Sp := fun vs H Q _ => ∃ (x dx t : Addr) (as : List Addr) (W : List Lv), vs = [.ref x, .ref t] ∧ H x = some (.ins (ga K "Wheel") dx []) ∧ H t = some (.tup (as.map V.ref)) ∧ as.length = W.length ∧ (∀ i c, as[i]? = some c → LvAt K H c (lv W i)) ∧ WOk W ∧
  ∀ H', SameX x H H' → WhAt K H' x W → Q .non H'
def sp_Wheel___init__ (K : Frag) : Sp := fun vs H Q E => ∃ ws rest, vs = ws ++ rest ∧ ws.length = 1 ∧ rest.length ≤ sizeLine ∧ ∀ p, H p = none → sq_Wheel___init__ K (ws ++ [V.ref p]) (upd H p (.tup rest)) Q E
def t_Wheel___init__ (K : Frag) (w : World) : TS :=
  (tSeq (tIfS (tNot (tB (tFn (sp_are_levels K) E0 (tCons (tVar 1) tNil)))) tNever tNext)
  (sFld K (tVar 0) (tCB (oTupT K) (tCons (tVar 1) tNil)) "kept_levels"))
def n_Wheel___init__ : List Str := ["self", "levels"]
theorem rd_Wheel___init__ (T : Kl K w) (vs : List V) (H : Hp) (Q : VK) (E : XK) (h : sq_Wheel___init__ K vs H Q E) : t_Wheel___init__ K w { nx := fun _ H' => Q .non H', rt := Q } (L2.start n_Wheel___init__ vs) H := by
  obtain ⟨x, dx, t, as, W, rfl, hx, ht, hl, hc, ok, q⟩ := h
  refine ⟨_, rfl, t, as, W, rfl, ht, hl, hc, ok, fun H1 s1 => ⟨true, rfl, iteF ?_⟩⟩
  have hx1 := s1 _ _ hx
  have ht1 := s1 _ _ ht
  refine ⟨_, rfl, t, _, rfl, SqT.of ht1, _, rfl, x, _, dx, _, rfl, hx1, T.cW, T.nWl, by decide, ?_⟩
  have hxt : t ≠ x := fun e => by rw [e, hx] at ht; cases ht
  refine q _ (SameX.upd (Same.toX s1)) ⟨ok, dx, t, as, by rw [upd_same]; rfl, by rw [upd_ne hxt]; exact ht1, hl, fun i c hi => ?_⟩
  obtain ⟨ok1, dc, h1⟩ := (hc i c hi).same s1
  refine ⟨ok1, dc, ?_⟩
  rw [upd_ne (fun e => ?_)]
  · exact h1
  · rw [e, hx1] at h1
    have h2 := Option.some.inj h1
    injection h2 with _ _ h3
    unfold lfs at h3
    cases h3
/-- making a wheel of levels -/
theorem wh_make {H : Hp} {Q : VK} {as : List Addr} {W : List Lv} (hl : as.length = W.length) (hc : ∀ i c, as[i]? = some c → LvAt K H c (lv W i)) (ok : WOk W) (q : ∀ a H', Same H H' → WhAt K H' a W → Q (.ref a) H') (x dx : Addr) (hx : H x = none) (hd : H dx = none) (hn : dx ≠ x) :
    sp_Wheel___init__ K (.ref x :: as.map V.ref) (upd (upd H dx (.own x)) x (.ins (ga K "Wheel") dx [])) (fun v H2 => v = .non ∧ Q (.ref x) H2) E0 := by
  refine ⟨[.ref x], as.map V.ref, rfl, rfl, by have := ok.len; have : sizeLine = 16777216 := rfl; simp; omega, fun p hp => ?_⟩
  have n1 : p ≠ x := fun e => by rw [e, upd_same] at hp; cases hp
  have n2 : x ≠ p := fun e => n1 e.symm
  refine ⟨x, dx, p, as, W, rfl, by rw [upd_ne n2, upd_same], upd_same, hl, fun i c hi => ?_, ok, fun H' s z => ⟨rfl, q x H' ?_ z⟩⟩
  · obtain ⟨o, dc, h1⟩ := hc i c hi
    refine ⟨o, dc, ?_⟩
    have m1 : c ≠ x := ne_of_none h1 hx
    have m2 : c ≠ dx := ne_of_none h1 hd
    have h2 : upd (upd H dx (.own x)) x (.ins (ga K "Wheel") dx []) c = some (.ins (ga K "Level") dc (lfs (lv W i))) := by rw [upd_ne m1, upd_ne m2]; exact h1
    rw [upd_ne (ne_of_none h2 hp)]
    exact h2
  · refine SameX.made (o := .own x) (o' := .ins (ga K "Wheel") dx []) hx hd fun b o nb e => s b o nb ?_
    rw [upd_ne (ne_of_none e hp)]
    exact e
/-- making a level -/
theorem lv_make {H : Hp} {Q : VK} {l : Lv} {v : V} (hv : v = .int l.p ∨ v = .non ∧ l.p = l.s * l.g) (ok : LOk l) (h1 : 2 ≤ l.p) (h2 : l.p ≤ 4 * l.s * l.g) (q : ∀ a H', Same H H' → LvAt K H' a l → Q (.ref a) H') (x dx : Addr) (hx : H x = none) (hd : H dx = none) :
    sp_Level___init__ K [.ref x, .int l.g, .int l.s, v] (upd (upd H dx (.own x)) x (.ins (ga K "Level") dx [])) (fun v H2 => v = .non ∧ Q (.ref x) H2) E0 :=
  ⟨x, dx, l, v, rfl, hv, ok, h1, h2, upd_same, fun H' s z => ⟨rfl, q x H' (SameX.made hx hd s) z⟩⟩
end
end Tw
/-! Tw: the laws' own pool of draws -/
namespace Tw
open PySem PySem.Spec PyProof.Rows L2 He TwM
open PySem.W (Frag)
theorem ix5_0 : ixN 5 0 = some 0 := rfl
theorem ix5_1 : ixN 5 1 = some 1 := rfl
theorem ix5_2 : ixN 5 2 = some 2 := rfl
theorem ix5_3 : ixN 5 3 = some 3 := rfl
theorem ix5_4 : ixN 5 4 = some 4 := rfl
theorem at5_0 (a b c d e : V) : atI [a, b, c, d, e] 0 = some a := rfl
theorem at5_1 (a b c d e : V) : atI [a, b, c, d, e] 1 = some b := rfl
theorem at5_2 (a b c d e : V) : atI [a, b, c, d, e] 2 = some c := rfl
theorem at5_3 (a b c d e : V) : atI [a, b, c, d, e] 3 = some d := rfl
theorem at5_4 (a b c d e : V) : atI [a, b, c, d, e] 4 = some e := rfl
theorem upd_two (H : Hp) (a : Addr) (o u : HO) : upd (upd H a o) a u = upd H a u := by
  funext b
  unfold upd
  split <;> rfl
theorem updS (H : Hp) (a : Addr) (o : HO) : upd H a o a = some o := upd_same
theorem updN {H : Hp} {a b : Addr} {o : HO} (h : (b = a) = False) : upd H a o b = H b := upd_ne (fun e => by rw [h] at e; exact e)
local macro_rules | `(tactic| walk_at "rsv") => `(tactic| simp only [*, at3_0, at3_1, at3_2, at2_0, at2_1, ix5_0, ix5_1, ix5_2, ix5_3, ix5_4, at5_0, at5_1, at5_2, at5_3, at5_4, updS, upd_two, gSub, rSetL, updN, and_assoc, not_true_eq_false, not_false_eq_true, tNever, List.length_map, tFld, rIxTH, rIxLH, rLenTH, rLenLH, lk1, lfs_g, lfs_s, lfs_p, HO.ins.injEq, HO.tup.injEq, HO.lst.injEq, sp_Book_rounding, sp_Book_action, sp_Book_order, sp_Book_due, sp_Book_zero, sp_Book_beyond, Int.toNat_natCast, sp_visit_after, sp_is_visited, sp_Level_grain, sp_Level_slots, sp_Level_span, sp_Wheel_reach, sp_Wheel___len__, sp_is_integer, sp_is_count, sp_is_within, sp_rounded, tSeq, tAsg, gName, tVar, tC, tOp, rI, rI0, rU, tUn, oAdd, oSub, oMul, oDiv, oMod, oNeg, oLt, oLe, oGt, oGe, oIsN, oNotN, tFn, tCons, tNil, tIfS, tIf, tTest, tB, tNot, tAnd, tOr, tAndV, tOrV, tNotV,
    tRet, tRetN, tNext, tCB, tDrop, tChain, rEq, rNe, oMax2, oMin2, oInt1, rLenF, L2.start, List.map_cons, List.map_nil, List.length_cons, List.length_nil, List.replicate_succ, List.replicate_zero, List.cons_append, List.nil_append, Nat.reduceAdd, Nat.reduceSub, Nat.zero_add,
    List.set_cons_zero, List.set_cons_succ, List.getElem?_cons_zero, List.getElem?_cons_succ, Option.some.injEq, V.int.injEq, V.ref.injEq, V.str.injEq, V.bl.injEq, exists_eq_left', exists_eq_left, exists_and_left, List.cons.injEq, and_true, true_and, decide_eq_true_eq, sc_ii, sc_ss, sc_bb, sc_ni, sc_in, sc_nn, sc_is, reduceCtorEq,
    Bool.not_eq_true', decide_eq_false_iff_not, if_true, if_false, Bool.false_eq_true, exists_eq', exists_const, false_and, and_false, or_false, false_or, exists_false, Bool.not_not, Bool.not_true, Bool.not_false, sUp_up, sFire_fire, sHigh_high, sPut_put, sZone_now, sBey_refuse, sBey_cut, tTup, tLst, sz0, sz1, sz2, sz3, sz4, sz5, sz6])
section
variable {K : Frag} {w : World}
theorem Same.lst {H H' : Hp} {a : Addr} {xs : List V} (e : Same H H') (h : SqL K H a xs) : SqL K H' a xs := by
  rcases h with (h | ⟨o, h⟩) | h
  · exact .inl (.inl (e _ _ h))
  · exact .inl (.inr ⟨o, e _ _ h⟩)
  · exact .inr h
structure PoolAt (H : Hp) (p l : Addr) : Prop where
  ne : p ≠ l
  at_ : ∃ (cs : List Int) (i1 i2 i3 i4 : Int), H p = some (.lst [.ref l, .int i1, .int i2, .int i3, .int i4]) ∧ H l = some (.lst (cs.map V.int)) ∧ 0 ≤ i1
/-- all but the pool stays -/
def SameP (p l : Addr) (H H' : Hp) : Prop := ∀ b o, b ≠ p → b ≠ l → H b = some o → H' b = some o
theorem SameP.refl (p l : Addr) (H : Hp) : SameP p l H H := fun _ _ _ _ h => h
theorem SameP.trans {p l : Addr} {H H1 H2 : Hp} (h : SameP p l H H1) (s : SameP p l H1 H2) : SameP p l H H2 := fun b o n m e => s _ _ n m (h b o n m e)
theorem Same.toP {p l : Addr} {H H1 : Hp} (s : Same H H1) : SameP p l H H1 := fun b o _ _ e => s b o e
theorem SameP.updp {p l : Addr} {H H1 : Hp} {o : HO} (h : SameP p l H H1) : SameP p l H (upd H1 p o) := fun b u n m e => by
  rw [upd_ne n]; exact h b u n m e
theorem SameP.updl {p l : Addr} {H H1 : Hp} {o : HO} (h : SameP p l H H1) : SameP p l H (upd H1 l o) := fun b u n m e => by
  rw [upd_ne m]; exact h b u n m e
theorem PoolAt.same {p l : Addr} {H H1 : Hp} (h : PoolAt H p l) (s : Same H H1) : PoolAt H1 p l := by
  obtain ⟨n, cs, i1, i2, i3, i4, h1, h2, h3⟩ := h
  exact ⟨n, cs, i1, i2, i3, i4, s _ _ h1, s _ _ h2, h3⟩
theorem PoolAt.ins {p l : Addr} {H H1 : Hp} (h : PoolAt H p l) (s : SameP p l H H1) {a C dx : Addr} {fs : List (Str × V)} (e : H a = some (.ins C dx fs)) : H1 a = some (.ins C dx fs) := by
  obtain ⟨n, cs, i1, i2, i3, i4, h1, h2, h3⟩ := h
  exact s _ _ (fun z => by rw [z, h1] at e; cases e) (fun z => by rw [z, h2] at e; cases e) e
theorem PoolAt.tup {p l : Addr} {H H1 : Hp} (h : PoolAt H p l) (s : SameP p l H H1) {a : Addr} {xs : List V} (e : H a = some (.tup xs)) : H1 a = some (.tup xs) := by
  obtain ⟨n, cs, i1, i2, i3, i4, h1, h2, h3⟩ := h
  exact s _ _ (fun z => by rw [z, h1] at e; cases e) (fun z => by rw [z, h2] at e; cases e) e
theorem LvAt.sameP {p l : Addr} {H H1 : Hp} (h : PoolAt H p l) (s : SameP p l H H1) {a : Addr} {v : Lv} (e : LvAt K H a v) : LvAt K H1 a v := ⟨e.ok, e.at_.elim fun dx q => ⟨dx, h.ins s q⟩⟩
theorem WhAt.sameP {p l : Addr} {H H1 : Hp} (h : PoolAt H p l) (s : SameP p l H H1) {a : Addr} {W : List Lv} (e : WhAt K H a W) : WhAt K H1 a W := by
  obtain ⟨ok, dx, t, as, h1, h2, h3, h4⟩ := e
  exact ⟨ok, dx, t, as, h.ins s h1, h.tup s h2, h3, fun i c q => (h4 i c q).sameP h s⟩
theorem BkAt.sameP {p l : Addr} {H H1 : Hp} (h : PoolAt H p l) (s : SameP p l H H1) {a : Addr} {B : Bk} (e : BkAt K H a B) : BkAt K H1 a B := by
  obtain ⟨ok, dx, t, h1, h2⟩ := e
  exact ⟨ok, dx, t, h.ins s h1, h.tup s h2⟩
/-- what a draw promises -/
def Drawn (H : Hp) (p l : Addr) (many : Int) (Q : VK) : Prop := ∀ (v : Int) (H' : Hp), SameP p l H H' → PoolAt H' p l → 0 ≤ v → v < many → Q (.int v) H'
def sp__law_mixed (K : Frag) : Sp := fun vs H Q _ => ∃ (p l : Addr) (many : Int), vs = [.ref p, .int many] ∧ PoolAt H p l ∧ 0 < many ∧ many.natAbs.log2 < 1920 ∧ Drawn H p l many Q
def t__law_mixed (K : Frag) (w : World) : TS :=
  (tSeq (tAsg (tOp oAdd (tOp rIxLH (tVar 0) (tC (.int 2))) (tC (.int 1))) (gSub (tVar 0) (tC (.int 2)) L2.rSetL))
  (tSeq (tAsg (tOp rIxLH (tVar 0) (tC (.int 3))) (gName 2))
  (tSeq (tFor (iRng1 (tCons (tOp oAdd (tC (.int 1)) (tOp oDiv (tCB oLenS (tCons (tCB oStrI (tCons (tVar 1) tNil)) tNil)) (tC (.int 9)))) tNil)) (gName 3)
    (tSeq (tAsg (tOp oMod (tOp oAdd (tOp oAdd (tOp oMul (tOp rIxLH (tVar 0) (tC (.int 3))) (tC (.int 48271))) (tOp oMul (tOp rIxLH (tVar 0) (tC (.int 2))) (tC (.int 12345)))) (tC (.int 89126))) (tC (.int 2147483647))) (gSub (tVar 0) (tC (.int 3)) L2.rSetL))
  (tAsg (tOp oAdd (tOp oMul (tVar 2) (tC (.int 2147483647))) (tOp oDiv (tOp rIxLH (tVar 0) (tC (.int 3))) (tC (.int 7)))) (gName 2))))
  (tRet (tOp oMod (tVar 2) (tVar 1))))))
def n__law_mixed : List Str := ["_law_pool", "_law_many", "_law_found", "_law_turn"]
theorem rd__law_mixed (vs : List V) (H : Hp) (Q : VK) (E : XK) (h : sp__law_mixed K vs H Q E) : t__law_mixed K w { nx := fun _ H' => Q .non H', rt := Q } (L2.start n__law_mixed vs) H := by
  obtain ⟨p, l, many, rfl, ⟨hne, cs, i1, i2, i3, i4, h1, h2, h3⟩, hm, hlog, q⟩ := h
  have hlp : (l = p) = False := eq_false (fun e => hne e.symm)
  unfold t__law_mixed n__law_mixed
  walk_at "rsv"
  have hz := PySem.int_text_fits hlog
  have hz' : (Str.ofString (toString many)).length < 2 ^ 24 + 1 := Nat.lt_of_le_of_lt hz (by decide)
  have s1 : SameP p l H (upd H p (.lst [.ref l, .int i1, .int (i2 + 1), .int i3, .int i4])) := (SameP.refl p l H).updp
  refine ⟨_, rfl, _, rfl, hlog, _, rfl, hz, _, _, rfl, rfl, ⟨by decide, by decide⟩, _, _, rfl, rfl, _, rfl, by omega, by omega, for_range
    (fun i σ H' => ∃ (f : Int) (v3 : Option V) (j2 j3 : Int), σ = [some (.ref p), some (.int many), some (.int f), v3] ∧ SameP p l H H' ∧ H' p = some (.lst [.ref l, .int i1, .int j2, .int j3, .int i4]) ∧ H' l = some (.lst (cs.map V.int)))
    ⟨i3, none, _, i3, rfl, s1, updS _ _ _, by rw [updN hlp]; exact h2⟩ ?_ ?_⟩
  · rintro i σ H1 hi ⟨f, v3, j2, j3, rfl, s2, k1, k2⟩
    walk_at "rsv"
    exact ⟨.inr ⟨by decide, by decide⟩, .inr ⟨by decide, by decide⟩, by decide, .inr ⟨by decide, by decide⟩, ⟨by decide, by decide⟩, s2.updp⟩
  · rintro σ H1 ⟨f, v3, j2, j3, rfl, s2, k1, k2⟩
    exact ⟨_, rfl, _, rfl, _, _, rfl, rfl, hm, q _ _ s2 ⟨hne, cs, i1, j2, j3, i4, k1, k2, h3⟩ (Int.emod_nonneg _ (by omega)) (Int.emod_lt_of_pos _ hm)⟩
def sp__law_draw (K : Frag) : Sp := fun vs H Q _ => ∃ (p l : Addr) (many : Int), vs = [.ref p, .int many] ∧ PoolAt H p l ∧ 0 < many ∧ many.natAbs.log2 < 1920 ∧ Drawn H p l many Q
def t__law_draw (K : Frag) (w : World) : TS :=
  (tSeq (tIfS (tOr (tTest (tOp oGe (tOp rIxLH (tVar 0) (tC (.int 1))) (tCB rLenLH (tCons (tOp rIxLH (tVar 0) (tC (.int 0))) tNil)))) (tTest (tOp rEq (tVar 1) (tC (.int 1))))) (tRet (tIf (tTest (tOp oGt (tVar 1) (tC (.int 1)))) (tFn (sp__law_mixed K) E0 (tCons (tVar 0) (tCons (tVar 1) tNil))) (tC (.int 0)))) tNext)
  (tSeq (tIfS (tTest (tOp oLt (tOp rIxLH (tOp rIxLH (tVar 0) (tC (.int 0))) (tOp rIxLH (tVar 0) (tC (.int 1)))) (tOp oPow (tC (.int 10)) (tC (.int 18))))) (tSeq (tAsg (tOp oMod (tOp oAdd (tOp oAdd (tOp oAdd (tOp oMul (tOp rIxLH (tVar 0) (tC (.int 3))) (tC (.int 31))) (tOp rIxLH (tOp rIxLH (tVar 0) (tC (.int 0))) (tOp rIxLH (tVar 0) (tC (.int 1))))) (tOp rIxLH (tVar 0) (tC (.int 2)))) (tC (.int 1))) (tC (.int 2147483647))) (gSub (tVar 0) (tC (.int 3)) L2.rSetL))
  (tSeq (tAsg (tOp oAdd (tOp rIxLH (tVar 0) (tC (.int 4))) (tC (.int 1))) (gSub (tVar 0) (tC (.int 4)) L2.rSetL))
  (tSeq (tIfS (tTest (tOp rEq (tOp oMod (tOp rIxLH (tVar 0) (tC (.int 4))) (tC (.int 3))) (tC (.int 0)))) (tAsg (tOp oAdd (tOp rIxLH (tVar 0) (tC (.int 1))) (tC (.int 1))) (gSub (tVar 0) (tC (.int 1)) L2.rSetL)) tNext)
  (tRet (tFn (sp__law_mixed K) E0 (tCons (tVar 0) (tCons (tVar 1) tNil))))))) tNext)
  (tSeq (tAsg (tOp oMod (tOp rIxLH (tOp rIxLH (tVar 0) (tC (.int 0))) (tOp rIxLH (tVar 0) (tC (.int 1)))) (tVar 1)) (gName 2))
  (tSeq (tAsg (tOp oDivW (tOp rIxLH (tOp rIxLH (tVar 0) (tC (.int 0))) (tOp rIxLH (tVar 0) (tC (.int 1)))) (tVar 1)) (gSub (tOp rIxLH (tVar 0) (tC (.int 0))) (tOp rIxLH (tVar 0) (tC (.int 1))) L2.rSetL))
  (tSeq (tIfS (tTest (tOp rEq (tOp rIxLH (tOp rIxLH (tVar 0) (tC (.int 0))) (tOp rIxLH (tVar 0) (tC (.int 1)))) (tC (.int 0)))) (tAsg (tOp oAdd (tOp rIxLH (tVar 0) (tC (.int 1))) (tC (.int 1))) (gSub (tVar 0) (tC (.int 1)) L2.rSetL)) tNext)
  (tRet (tVar 2)))))))
def n__law_draw : List Str := ["_law_pool", "_law_many", "_law_found"]
theorem rd__law_draw (vs : List V) (H : Hp) (Q : VK) (E : XK) (h : sp__law_draw K vs H Q E) : t__law_draw K w { nx := fun _ H' => Q .non H', rt := Q } (L2.start n__law_draw vs) H := by
  obtain ⟨p, l, many, rfl, ⟨hne, cs, i1, i2, i3, i4, h1, h2, h3⟩, hm, hlog, q⟩ := h
  have hlp : (l = p) = False := eq_false (fun e => hne e.symm)
  have hpl : (p = l) = False := eq_false hne
  have hmix : ∀ (H' : Hp), SameP p l H H' → PoolAt H' p l → sp__law_mixed K [.ref p, .int many] H' Q E0 := fun H' s z => ⟨p, l, many, rfl, z, hm, hlog, fun v H2 s2 z2 a b => q v H2 (s.trans s2) z2 a b⟩
  have hpow : (10 : Int) ^ (18 : Int).toNat = 1000000000000000000 := by decide
  have hcp : CPow 10 18 := ⟨by decide, by decide, by decide⟩
  have hq : q = q := rfl
  unfold t__law_draw n__law_draw
  by_cases hlen : (cs.length : Int) ≤ i1
  · by_cases hm1 : 1 < many
    · walk_at "rsv"
      exact hmix H (SameP.refl p l H) ⟨hne, cs, i1, i2, i3, i4, h1, h2, h3⟩
    · have e1 : many = 1 := by omega
      subst e1
      walk_at "rsv"
      exact q 0 H (SameP.refl p l H) ⟨hne, cs, i1, i2, i3, i4, h1, h2, h3⟩ (by decide) (by decide)
  · obtain ⟨j, rfl⟩ : ∃ j : Nat, i1 = (j : Int) := ⟨i1.toNat, by omega⟩
    have hj : j < cs.length := by omega
    obtain ⟨c, hc⟩ : ∃ c, cs[j]? = some c := ⟨cs[j], List.getElem?_eq_getElem hj⟩
    have hat : atI (cs.map V.int) (j : Int) = some (.int c) := atI_nat (by rw [List.getElem?_map, hc]; rfl)
    have hix : ixN cs.length (j : Int) = some j := by
      unfold ixN
      rw [if_pos (by omega), if_pos (by omega)]
      rfl
    have hset : ∀ y : Int, (cs.map V.int).set j (.int y) = (cs.set j y).map V.int := fun y => by rw [List.map_set]
    have hat2 : ∀ y : Int, atI (((cs.set j y)).map V.int) (j : Int) = some (.int y) := fun y => atI_nat (by rw [List.getElem?_map, List.getElem?_set_self hj]; rfl)
    walk_at "rsv"
    have s0 := SameP.refl p l H
    refine ite2 (fun e1 => ?_) fun e1 => ite2 (fun h4 => ?_) fun h4 => ?_
    · rw [if_neg (by omega)]
      exact q 0 H s0 ⟨hne, cs, _, i2, i3, i4, h1, h2, h3⟩ (by omega) (by omega)
    · refine ⟨.inr ⟨by decide, by decide⟩, by decide, by decide, ite2 (fun _ => ?_) fun _ => ?_⟩
      · exact hmix _ s0.updp ⟨hne, cs, _, _, _, _, updS _ _ _, by rw [updN hlp]; exact h2, by omega⟩
      · exact hmix _ s0.updp ⟨hne, cs, _, _, _, _, updS _ _ _, by rw [updN hlp]; exact h2, by omega⟩
    · have q0 := Int.emod_nonneg c (b := many) (by omega)
      have q1 := Int.emod_lt_of_pos c hm
      refine ⟨⟨hm, Nat.lt_trans hlog (by decide)⟩, ite2 (fun _ => ?_) fun _ => ?_⟩
      · exact q _ _ (SameP.updp s0.updl) ⟨hne, cs.set j (c / many), _, _, _, _, updS _ _ _, by rw [updN hlp]; exact updS _ _ _, by omega⟩ q0 q1
      · exact q _ _ s0.updl ⟨hne, cs.set j (c / many), _, _, _, _, by rw [updN hpl]; exact h1, updS _ _ _, by omega⟩ q0 q1
end
end Tw
/-! Tw: more of the laws' own defs -/
namespace Tw
open PySem PySem.Spec PyProof.Rows L2 He TwM
open PySem.W (Frag)
local macro_rules | `(tactic| walk_at "rsw") => `(tactic| simp only [*, at3_0, at3_1, at3_2, at2_0, at2_1, ix5_0, ix5_1, ix5_2, ix5_3, ix5_4, at5_0, at5_1, at5_2, at5_3, at5_4, updS, upd_two, gSub, rSetL, updN, and_assoc, not_true_eq_false, not_false_eq_true, tNever, List.length_map, tFld, rIxTH, rIxLH, rLenTH, rLenLH, lk1, lfs_g, lfs_s, lfs_p, HO.ins.injEq, HO.tup.injEq, HO.lst.injEq, sp_Book_rounding, sp_Book_action, sp_Book_order, sp_Book_due, sp_Book_zero, sp_Book_beyond, Int.toNat_natCast, sp_visit_after, sp_is_visited, sp_Level_grain, sp_Level_slots, sp_Level_span, sp_Wheel_reach, sp_Wheel___len__, sp_is_integer, sp_is_count, sp_is_within, sp_rounded, tSeq, tAsg, gName, tVar, tC, tOp, rI, rI0, rU, tUn, oAdd, oSub, oMul, oDiv, oMod, oNeg, oLt, oLe, oGt, oGe, oIsN, oNotN, tFn, tCons, tNil, tIfS, tIf, tTest, tB, tNot, tAnd, tOr, tAndV, tOrV, tNotV,
    tRet, tRetN, tNext, tCB, tDrop, tChain, rEq, rNe, oMax2, oMin2, oInt1, rLenF, L2.start, List.map_cons, List.map_nil, List.length_cons, List.length_nil, List.replicate_succ, List.replicate_zero, List.cons_append, List.nil_append, Nat.reduceAdd, Nat.reduceSub, Nat.zero_add,
    List.set_cons_zero, List.set_cons_succ, List.getElem?_cons_zero, List.getElem?_cons_succ, Option.some.injEq, V.int.injEq, V.ref.injEq, V.str.injEq, V.bl.injEq, exists_eq_left', exists_eq_left, exists_and_left, List.cons.injEq, and_true, true_and, decide_eq_true_eq, sc_ii, sc_ss, sc_bb, sc_ni, sc_in, sc_nn, sc_is, reduceCtorEq,
    Bool.not_eq_true', decide_eq_false_iff_not, if_true, if_false, Bool.false_eq_true, exists_eq', exists_const, false_and, and_false, or_false, false_or, exists_false, Bool.not_not, Bool.not_true, Bool.not_false, sUp_up, sFire_fire, sHigh_high, sPut_put, sZone_now, sBey_refuse, sBey_cut, tTup, tLst, sz0, sz1, sz2, sz3, sz4, sz5, sz6])
section
variable {K : Frag} {w : World}
def sp__law_begin (K : Frag) : Sp := fun vs H Q _ => ∃ (a : Addr) (ns : List Int), vs = [.ref a] ∧ SqL K H a (ns.map V.int) ∧ ns.length ≤ 63 ∧ ∀ p l H', PoolAt H' p l → Same H H' → Q (.ref p) H'
def t__law_begin (K : Frag) (w : World) : TS :=
  (tSeq (tAsg (tC (.int 7)) (gName 1))
  (tSeq (tFor (iList K (tSl (rSlL K) (tVar 0) tNoPart (tPart (tC (.int 40))))) (gName 2)
    (tAsg (tOp oMod (tOp oAdd (tOp oAdd (tOp oMul (tVar 1) (tC (.int 31))) (tOp oMod (tCB oInt1 (tCons (tVar 2) tNil)) (tC (.int 2147483647)))) (tC (.int 11))) (tC (.int 2147483647))) (gName 1)))
  (tRet (tLst (tCons (tLc (iList K (tVar 0)) (gName 2) tYes (tCB oAbs (tCons (tCB oInt1 (tCons (tVar 2) tNil)) tNil)) [2]) (tCons (tC (.int 0)) (tCons (tC (.int 0)) (tCons (tVar 1) (tCons (tC (.int 0)) tNil)))))))))
def n__law_begin : List Str := ["_law_script", "_law_seed", "_law_cell"]
theorem rd__law_begin (vs : List V) (H : Hp) (Q : VK) (E : XK) (h : sp__law_begin K vs H Q E) : t__law_begin K w { nx := fun _ H' => Q .non H', rt := Q } (L2.start n__law_begin vs) H := by
  obtain ⟨a, ns, rfl, ha, hl, q⟩ := h
  unfold t__law_begin n__law_begin
  walk_at "rsw"
  refine ⟨_, rfl, _, rfl, a, _, rfl, ha, fun p hp => ⟨p, rfl, ⟨_, SqL.of upd_same⟩, for_list (K := K) (a := p) (xs := cutV (ns.map V.int) none (some 40))
    (fun i σ H' => ∃ (s : Int) (v2 : Option V), σ = [some (.ref a), some (.int s), v2] ∧ Same (upd H p (.lst (cutV (ns.map V.int) none (some 40)))) H') ⟨_, none, rfl, Same.refl _⟩ (fun i σ H' _ ⟨_, _, _, z⟩ => SqL.of (z _ _ upd_same)) ?_ ?_⟩⟩
  · rintro i x σ H1 hx ⟨s, v2, rfl, s1⟩
    obtain ⟨c, rfl⟩ : ∃ c : Int, x = .int c := by
      have hm := List.mem_of_getElem? hx
      unfold cutV at hm
      obtain ⟨c, _, e⟩ := List.mem_map.mp (List.mem_of_mem_drop (List.mem_of_mem_take hm))
      exact ⟨c, e.symm⟩
    walk_at "rsw"
    exact ⟨.inr ⟨by decide, by decide⟩, by decide, by decide⟩
  · rintro σ H1 ⟨s, v2, rfl, s1⟩
    have s2 : Same H H1 := Same.trans (Same.new hp) s1
    refine ⟨_, rfl, a, rfl, ⟨_, Same.lst s2 ha⟩, fun D hD => lc_list (K := K) (a := a) (xs := ns.map V.int) (fun i H' => Same H1 H' ∧ H' D = some (.lst ((ns.take i).map fun n => V.int (if n < 0 then -n else n))))
      ⟨Same.new hD, by rw [upd_same]; rfl⟩ (fun i H' _ z => Same.lst z.1 (Same.lst s2 ha)) ?_ ?_⟩
    · rintro i x H2 hx ⟨s3, hD2⟩
      obtain ⟨c, hc, rfl⟩ : ∃ c, ns[i]? = some c ∧ x = V.int c := by
        rw [List.getElem?_map] at hx
        cases e : ns[i]? with
        | none => rw [e] at hx; cases hx
        | some c => rw [e] at hx; exact ⟨c, rfl, (Option.some.inj hx).symm⟩
      have hi : i < ns.length := (List.getElem?_eq_some_iff.mp hc).1
      refine ⟨rfl, ?_⟩
      simp only [tYes, if_true]
      refine ⟨_, rfl, .inl ⟨c, rfl, c, rfl, _, hD2, ?_, Same.updN s3 hD, ?_⟩⟩
      · have : sizeLine = 16777216 := rfl
        rw [List.length_map, List.length_take]
        omega
      · rw [updS, List.take_succ, hc, List.map_append]
        rfl
    · rintro H2 ⟨s3, hD2⟩
      refine ⟨_, rfl, (by show 5 ≤ sizeLine; decide), fun r hr => ?_⟩
      have hDr : D ≠ r := ne_of_none hD2 hr
      refine q r D _ ⟨fun e => hDr e.symm, ns.map fun n => if n < 0 then -n else n, 0, 0, s, 0, updS _ _ _, ?_, by decide⟩ ((s2.trans s3).trans (Same.new hr))
      rw [upd_ne hDr, hD2, List.length_map, List.take_length, List.map_map]
      rfl
/-- the pool's address stays apart from what is laid -/
theorem PoolAt.apart {p l r : Addr} {H : Hp} (h : PoolAt H p l) (hr : H r = none) : r ≠ p ∧ r ≠ l := by
  obtain ⟨n, cs, i1, i2, i3, i4, h1, h2, h3⟩ := h
  exact ⟨fun e => (ne_of_none h1 hr) e.symm, fun e => (ne_of_none h2 hr) e.symm⟩
theorem PoolAt.new {p l r : Addr} {H : Hp} {o : HO} (h : PoolAt H p l) (hr : H r = none) : PoolAt (upd H r o) p l := h.same (Same.new hr)
theorem SameP.step {p l : Addr} {H H1 H2 : Hp} (h : SameP p l H H1) (s : Same H1 H2) : SameP p l H H2 := fun b o n m e => s _ _ (h b o n m e)
/-- a draw at once -/
theorem draw {H : Hp} {p l : Addr} {many : Int} {Q : VK} (h : PoolAt H p l) (hm : 0 < many) (hl : many.natAbs.log2 < 1920) (q : Drawn H p l many Q) : sp__law_draw K [.ref p, .int many] H Q E0 := ⟨p, l, many, rfl, h, hm, hl, q⟩
theorem log_small {x : Int} (h0 : 0 ≤ x) (h : x < 2 ^ 100) : x.natAbs.log2 < 1920 := by
  by_cases hz : x.natAbs = 0
  · rw [hz]; decide
  · have h2 : x.natAbs < 2 ^ 100 := by omega
    exact Nat.lt_trans ((Nat.log2_lt hz).mpr h2) (by decide)
theorem atV {xs : List V} {i : Int} (h0 : 0 ≤ i) (h : i < xs.length) : ∃ v, xs[i.toNat]? = some v ∧ atI xs i = some v := by
  have hi : i.toNat < xs.length := by omega
  refine ⟨xs[i.toNat], List.getElem?_eq_getElem hi, ?_⟩
  have := atI_nat (xs := xs) (j := i.toNat) (List.getElem?_eq_getElem hi)
  rwa [Int.toNat_of_nonneg h0] at this
/-- an item of a list of ints -/
theorem atInts {xs : List Int} {i : Int} (h0 : 0 ≤ i) (h : i < xs.length) : ∃ v, v ∈ xs ∧ atI (xs.map V.int) i = some (.int v) := by
  obtain ⟨v, h1, h2⟩ := atV (xs := xs.map V.int) h0 (by rw [List.length_map]; exact h)
  rw [List.getElem?_map] at h1
  cases e : xs[i.toNat]? with
  | none => rw [e] at h1; cases h1
  | some c => rw [e] at h1; obtain rfl := Option.some.inj h1; exact ⟨c, List.mem_of_getElem? e, h2⟩
def sp__law_span (K : Frag) : Sp := fun vs H Q _ => ∃ (p l : Addr) (g s low : Int), vs = [.ref p, .int g, .int s, .int low] ∧ PoolAt H p l ∧ 1 ≤ g ∧ g ≤ 1000000 ∧ 1 ≤ s ∧ s ≤ 1000 ∧
  ∀ (x : Int) (H' : Hp), SameP p l H H' → PoolAt H' p l → 2 ≤ x → low < x → (low + 1 ≤ 4 * s * g → x ≤ 4 * s * g ∨ x = 2) → Q (.int x) H'
def t__law_span (K : Frag) (w : World) : TS :=
  (tSeq (tAsg (tOp oMul (tVar 2) (tVar 1)) (gName 4))
  (tSeq (tAsg (tLst (tCons (tVar 4) (tCons (tVar 4) (tCons (tOp oAdd (tVar 4) (tC (.int 1))) (tCons (tOp oSub (tVar 4) (tC (.int 1))) (tCons (tOp oAdd (tOp oSub (tVar 4) (tVar 1)) (tC (.int 2))) (tCons (tOp oAdd (tOp oSub (tVar 4) (tVar 1)) (tC (.int 1))) (tCons (tOp oAdd (tOp oSub (tVar 4) (tVar 1)) (tC (.int 3))) (tCons (tOp oMul (tC (.int 2)) (tVar 4)) (tCons (tOp oAdd (tVar 3) (tC (.int 1))) tNil)))))))))) (gName 5))
  (tSeq (tAsg (tOp rCat (tVar 5) (tLst (tCons (tOp oAdd (tVar 3) (tVar 1)) (tCons (tOp oAdd (tOp oAdd (tVar 3) (tC (.int 1))) (tFn (sp__law_draw K) E0 (tCons (tVar 0) (tCons (tOp oMul (tC (.int 3)) (tVar 4)) tNil)))) tNil)))) (gName 5))
  (tSeq (tAsg (tOp rIxLH (tVar 5) (tFn (sp__law_draw K) E0 (tCons (tVar 0) (tCons (tC (.int 11)) tNil)))) (gName 6))
  (tRet (tCB (rNuC3 nuMax3) (tCons (tCB oInt1 (tCons (tOp oAdd (tVar 3) (tC (.int 1))) tNil)) (tCons (tCB oInt1 (tCons (tCB oMin2 (tCons (tCB oInt1 (tCons (tOp oMul (tC (.int 4)) (tVar 4)) tNil)) (tCons (tCB oInt1 (tCons (tVar 6) tNil)) tNil))) tNil)) (tCons (tC (.int 2)) tNil)))))))))
def n__law_span : List Str := ["_law_pool", "_law_grain", "_law_slots", "_law_low", "_law_turn", "_law_some", "_law_found"]
theorem rd__law_span (vs : List V) (H : Hp) (Q : VK) (E : XK) (h : sp__law_span K vs H Q E) : t__law_span K w { nx := fun _ H' => Q .non H', rt := Q } (L2.start n__law_span vs) H := by
  obtain ⟨p, l, g, s, low, rfl, hp, g1, g2, s1, s2, q⟩ := h
  unfold t__law_span n__law_span
  have hsg : s * g ≤ 1000 * 1000000 := Int.mul_le_mul s2 g2 (by omega) (by omega)
  have hsg0 : 1 * 1 ≤ s * g := Int.mul_le_mul s1 g1 (by omega) (by omega)
  have e4 : 4 * s * g = 4 * (s * g) := Int.mul_assoc 4 s g
  rw [e4] at q
  walk_at "rsw"
  refine ⟨.inr ⟨by omega, by omega⟩, .inr ⟨by omega, by omega⟩, by decide, fun r hr => ⟨.inr ⟨by omega, by omega⟩, ?_⟩⟩
  have ap := hp.apart hr
  refine draw (hp.new hr) (by omega) (log_small (by omega) (by omega)) fun v H1 z1 hp1 hv0 hv1 => ⟨v, rfl, fun r2 hr2 => ?_⟩
  have hr1 := z1 r _ ap.1 ap.2 (updS _ _ _)
  have n12 : r ≠ r2 := ne_of_none hr1 hr2
  refine ⟨r, r2, _, _, rfl, rfl, by rw [upd_ne n12]; exact hr1, updS _ _ _, (by show 9 + 2 ≤ sizeLine; decide), fun r3 hr3 => ?_⟩
  have hp2 := hp1.new (o := .lst [.int (low + g), .int (low + 1 + v)]) hr2
  have ap3 := hp2.apart hr3
  refine draw (hp2.new hr3) (by decide) (by decide) fun i H2 z2 hp3 hi0 hi1 => ?_
  have hr4 := z2 r3 _ ap3.1 ap3.2 (updS _ _ _)
  obtain ⟨x, _, hx⟩ := atInts (xs := [s * g, s * g, s * g + 1, s * g - 1, s * g - g + 2, s * g - g + 1, s * g - g + 3, 2 * (s * g), low + 1, low + g, low + 1 + v]) hi0 hi1
  refine ⟨r3, rfl, _, i, rfl, hr4, .int x, hx, .inr ⟨by omega, by omega⟩, .inl ⟨x, rfl, ?_⟩⟩
  have hsp : SameP p l H H2 := ((SameP.step (SameP.trans ((SameP.refl p l H).step (Same.new hr)) z1) (Same.new hr2)).step (Same.new hr3)).trans z2
  generalize hm : (if x < 4 * (s * g) then x else 4 * (s * g)) = m
  have hm1 : m ≤ 4 * (s * g) := by rw [← hm]; split <;> omega
  by_cases ha : low + 1 < m
  · by_cases hb : m < 2
    · refine ⟨_, _, _, .int 2, rfl, ?_, q 2 H2 hsp hp3 (by omega) (by omega) (fun _ => .inr rfl)⟩
      simp [nuMax3, nuMax2, nuLt, nuCB, ha, hb]
    · refine ⟨_, _, _, .int m, rfl, ?_, q m H2 hsp hp3 (by omega) (by omega) (fun _ => .inl hm1)⟩
      simp [nuMax3, nuMax2, nuLt, nuCB, ha, hb]
  · by_cases hb : low + 1 < 2
    · refine ⟨_, _, _, .int 2, rfl, ?_, q 2 H2 hsp hp3 (by omega) (by omega) (fun _ => .inr rfl)⟩
      simp [nuMax3, nuMax2, nuLt, nuCB, ha, hb]
    · refine ⟨_, _, _, .int (low + 1), rfl, ?_, q (low + 1) H2 hsp hp3 (by omega) (by omega) (fun z => .inl z)⟩
      simp [nuMax3, nuMax2, nuLt, nuCB, ha, hb]
end
end Tw
/-! Tw: drawn books, rows and wheels -/
namespace Tw
open PySem PySem.Spec PyProof.Rows L2 He TwM StX
open PySem.W (Frag)
local macro_rules | `(tactic| walk_at "rsx2") => `(tactic| simp only [*, at3_0, at3_1, at3_2, at2_0, at2_1, updS, upd_two, gSub, rSetL, updN, and_assoc, not_true_eq_false, not_false_eq_true, tNever, List.length_map, tFld, rIxTH, rIxLH, rLenTH, rLenLH, lk1, lfs_g, lfs_s, lfs_p, HO.ins.injEq, HO.tup.injEq, HO.lst.injEq, sp_Book_rounding, sp_Book_action, sp_Book_order, sp_Book_due, sp_Book_zero, sp_Book_beyond, Int.toNat_natCast, sp_visit_after, sp_is_visited, sp_Level_grain, sp_Level_slots, sp_Level_span, sp_Wheel_reach, sp_Wheel___len__, sp_is_integer, sp_is_count, sp_is_within, sp_rounded, tSeq, tAsg, gName, tVar, tC, tOp, rI, rI0, rU, tUn, oAdd, oSub, oMul, oDiv, oMod, oNeg, oLt, oLe, oGt, oGe, oIsN, oNotN, tFn, tCons, tNil, tIfS, tIf, tTest, tB, tNot, tAnd, tOr, tAndV, tOrV, tNotV,
    tRet, tRetN, tNext, tCB, tDrop, tChain, rEq, rNe, oMax2, oMin2, oInt1, rLenF, L2.start, List.map_cons, List.map_nil, List.length_cons, List.length_nil, List.replicate_succ, List.replicate_zero, List.cons_append, List.nil_append, Nat.reduceAdd, Nat.reduceSub, Nat.zero_add,
    List.set_cons_zero, List.set_cons_succ, List.getElem?_cons_zero, List.getElem?_cons_succ, Option.some.injEq, V.int.injEq, V.ref.injEq, V.str.injEq, V.bl.injEq, exists_eq_left', exists_eq_left, exists_and_left, List.cons.injEq, and_true, true_and, decide_eq_true_eq, sc_ii, sc_ss, sc_bb, sc_ni, sc_in, sc_nn, sc_is, reduceCtorEq,
    Bool.not_eq_true', decide_eq_false_iff_not, if_true, if_false, Bool.false_eq_true, exists_eq', exists_const, false_and, and_false, or_false, false_or, exists_false, Bool.not_not, Bool.not_true, Bool.not_false, sUp_up, sFire_fire, sHigh_high, sPut_put, sZone_now, sBey_refuse, sBey_cut, tTup, tLst, sz0, sz1, sz2, sz3, sz4, sz5, sz6])
section
variable {K : Frag} {w : World}
theorem pkUp {i : Int} {x : V} (h0 : 0 ≤ i) (h : i < 2) (e : atI [V.str "down", V.str "up"] i = some x) : ∃ b, x = .str (sUp b) := by
  rcases (show i = 0 ∨ i = 1 by omega) with rfl | rfl
  · exact ⟨false, (Option.some.inj e).symm⟩
  · exact ⟨true, (Option.some.inj e).symm⟩
theorem pkFire {i : Int} {x : V} (h0 : 0 ≤ i) (h : i < 3) (e : atI [V.str "move", V.str "fire", V.str "move"] i = some x) : ∃ b, x = .str (sFire b) := by
  rcases (show i = 0 ∨ i = 1 ∨ i = 2 by omega) with rfl | rfl | rfl
  · exact ⟨false, (Option.some.inj e).symm⟩
  · exact ⟨true, (Option.some.inj e).symm⟩
  · exact ⟨false, (Option.some.inj e).symm⟩
theorem pkHigh {i : Int} {x : V} (h0 : 0 ≤ i) (h : i < 2) (e : atI [V.str "high", V.str "low"] i = some x) : ∃ b, x = .str (sHigh b) := by
  rcases (show i = 0 ∨ i = 1 by omega) with rfl | rfl
  · exact ⟨true, (Option.some.inj e).symm⟩
  · exact ⟨false, (Option.some.inj e).symm⟩
theorem pkPut {i : Int} {x : V} (h0 : 0 ≤ i) (h : i < 2) (e : atI [V.str "now", V.str "put"] i = some x) : ∃ b, x = .str (sPut b) := by
  rcases (show i = 0 ∨ i = 1 by omega) with rfl | rfl
  · exact ⟨false, (Option.some.inj e).symm⟩
  · exact ⟨true, (Option.some.inj e).symm⟩
theorem pkZone {i : Int} {x : V} (h0 : 0 ≤ i) (h : i < 2) (e : atI [V.str "now", V.str "one"] i = some x) : ∃ b, x = .str (sZone b) := by
  rcases (show i = 0 ∨ i = 1 by omega) with rfl | rfl
  · exact ⟨false, (Option.some.inj e).symm⟩
  · exact ⟨true, (Option.some.inj e).symm⟩
theorem pkBey {i : Int} {x : V} (h0 : 0 ≤ i) (h : i < 3) (e : atI [V.str "refuse", V.str "last", V.str "cut"] i = some x) : ∃ n, n < 3 ∧ x = .str (sBey n) := by
  rcases (show i = 0 ∨ i = 1 ∨ i = 2 by omega) with rfl | rfl | rfl
  · exact ⟨0, by decide, (Option.some.inj e).symm⟩
  · exact ⟨1, by decide, (Option.some.inj e).symm⟩
  · exact ⟨2, by decide, (Option.some.inj e).symm⟩
/-- an item of a new list at a drawn index -/
theorem drawAt {H : Hp} {p l r : Addr} {n : Int} {xs : List V} {Q : VK} (hp : PoolAt H p l) (hr : H r = none) (hn : 0 < n) (hl : n.natAbs.log2 < 1920) (hx : n = xs.length)
    (q : ∀ i x H', SameP p l H H' → PoolAt H' p l → H' r = some (.lst xs) → 0 ≤ i → i < n → atI xs i = some x → Q x H') :
    sp__law_draw K [.ref p, .int n] (upd H r (.lst xs)) (fun y H2 => ∃ ys i, y = .int i ∧ H2 r = some (.lst ys) ∧ ∃ x, atI ys i = some x ∧ Q x H2) E0 := by
  have ap := hp.apart hr
  refine draw (hp.new hr) hn hl fun i H2 s1 hp1 h0 h1 => ?_
  have e := s1 r _ ap.1 ap.2 (updS _ _ _)
  obtain ⟨x, _, hx'⟩ := atV (xs := xs) h0 (by omega)
  exact ⟨xs, i, rfl, e, x, hx', q i x H2 (SameP.trans ((SameP.refl p l H).step (Same.new hr)) s1) hp1 e h0 h1 hx'⟩
def sp__law_draw_values (K : Frag) : Sp := fun vs H Q _ => ∃ (p l : Addr), vs = [.ref p] ∧ PoolAt H p l ∧
  ∀ (r : Addr) (B : Bk) (H' : Hp), SameP p l H H' → PoolAt H' p l → H r = none → H' r = some (.lst ((bws B).map V.str)) → B.bey < 3 → Q (.ref r) H'
def t__law_draw_values (K : Frag) (w : World) : TS :=
  (tSeq (tAsg (tLst (tCons (tOp rIxLH (tLst (tCons (tC (.str "down")) (tCons (tC (.str "up")) tNil))) (tFn (sp__law_draw K) E0 (tCons (tVar 0) (tCons (tC (.int 2)) tNil)))) (tCons (tOp rIxLH (tLst (tCons (tC (.str "move")) (tCons (tC (.str "fire")) (tCons (tC (.str "move")) tNil)))) (tFn (sp__law_draw K) E0 (tCons (tVar 0) (tCons (tC (.int 3)) tNil)))) tNil))) (gName 1))
  (tSeq (tAsg (tOp rCat (tVar 1) (tLst (tCons (tOp rIxLH (tLst (tCons (tC (.str "high")) (tCons (tC (.str "low")) tNil))) (tFn (sp__law_draw K) E0 (tCons (tVar 0) (tCons (tC (.int 2)) tNil)))) (tCons (tOp rIxLH (tLst (tCons (tC (.str "now")) (tCons (tC (.str "put")) tNil))) (tFn (sp__law_draw K) E0 (tCons (tVar 0) (tCons (tC (.int 2)) tNil)))) tNil)))) (gName 1))
  (tRet (tOp rCat (tVar 1) (tLst (tCons (tOp rIxLH (tLst (tCons (tC (.str "now")) (tCons (tC (.str "one")) tNil))) (tFn (sp__law_draw K) E0 (tCons (tVar 0) (tCons (tC (.int 2)) tNil)))) (tCons (tOp rIxLH (tLst (tCons (tC (.str "refuse")) (tCons (tC (.str "last")) (tCons (tC (.str "cut")) tNil)))) (tFn (sp__law_draw K) E0 (tCons (tVar 0) (tCons (tC (.int 3)) tNil)))) tNil)))))))
def n__law_draw_values : List Str := ["_law_pool", "_law_found"]
theorem rd__law_draw_values (vs : List V) (H : Hp) (Q : VK) (E : XK) (h : sp__law_draw_values K vs H Q E) : t__law_draw_values K w { nx := fun _ H' => Q .non H', rt := Q } (L2.start n__law_draw_values vs) H := by
  obtain ⟨p, l, rfl, hp, q⟩ := h
  unfold t__law_draw_values n__law_draw_values
  walk_at "rsx2"
  intro r1 hr1
  refine drawAt hp hr1 (by decide) (by decide) rfl fun i1 x1 H1 s1 hp1 _ a1 b1 c1 => ?_
  intro r2 hr2
  refine drawAt hp1 hr2 (by decide) (by decide) rfl fun i2 x2 H2 s2 hp2 _ a2 b2 c2 => ?_
  intro r3 hr3
  have hp3 := hp2.new (o := .lst [x1, x2]) hr3
  have ap3 := hp2.apart hr3
  intro r4 hr4
  refine drawAt hp3 hr4 (by decide) (by decide) rfl fun i4 x4 H4 s4 hp4 _ a4 b4 c4 => ?_
  intro r5 hr5
  refine drawAt hp4 hr5 (by decide) (by decide) rfl fun i5 x5 H5 s5 hp5 _ a5 b5 c5 => ?_
  intro r6 hr6
  have k3 := (s4.trans s5) r3 _ ap3.1 ap3.2 (updS _ _ _)
  have n36 : r3 ≠ r6 := ne_of_none k3 hr6
  refine ⟨r3, r6, _, _, rfl, rfl, by rw [upd_ne n36]; exact k3, updS _ _ _, (by show 2 + 2 ≤ sizeLine; decide), fun r7 hr7 => ?_⟩
  have hp6 := hp5.new (o := .lst [x4, x5]) hr6
  have ap7 := hp6.apart hr7
  have hp7 := hp6.new (o := .lst ([x1, x2] ++ [x4, x5])) hr7
  dsimp only
  intro r8 hr8
  refine drawAt hp7 hr8 (by decide) (by decide) rfl fun i8 x8 H8 s8 hp8 _ a8 b8 c8 => ?_
  intro r9 hr9
  refine drawAt hp8 hr9 (by decide) (by decide) rfl fun i9 x9 H9 s9 hp9 _ a9 b9 c9 => ?_
  intro r10 hr10
  have k7 := (s8.trans s9) r7 _ ap7.1 ap7.2 (updS _ _ _)
  have n710 : r7 ≠ r10 := ne_of_none k7 hr10
  refine ⟨r7, r10, _, _, rfl, rfl, by rw [upd_ne n710]; exact k7, updS _ _ _, (by show 4 + 2 ≤ sizeLine; decide), fun r11 hr11 => ?_⟩
  have hp10 := hp9.new (o := .lst [x8, x9]) hr10
  have ap11 := hp10.apart hr11
  obtain ⟨u, rfl⟩ := pkUp a1 b1 c1
  obtain ⟨f, rfl⟩ := pkFire a2 b2 c2
  obtain ⟨g, rfl⟩ := pkHigh a4 b4 c4
  obtain ⟨pu, rfl⟩ := pkPut a5 b5 c5
  obtain ⟨z, rfl⟩ := pkZone a8 b8 c8
  obtain ⟨n, hn, rfl⟩ := pkBey a9 b9 c9
  have t10 := (((((((s1.trans s2).step (Same.new hr3)).trans (s4.trans s5)).step (Same.new hr6)).step (Same.new hr7)).trans (s8.trans s9)).step (Same.new (o := .lst [.str (sZone z), .str (sBey n)]) hr10))
  have tt := t10.step (Same.new (o := .lst ([.str (sUp u), .str (sFire f)] ++ [.str (sHigh g), .str (sPut pu)] ++ [.str (sZone z), .str (sBey n)])) hr11)
  refine q r11 ⟨u, f, g, pu, z, n⟩ _ tt (hp10.new hr11) ?_ (updS _ _ _) hn
  cases e : H r11 with
  | none => rfl
  | some o => exact absurd (t10 r11 o ap11.1 ap11.2 e) (by rw [hr11]; exact fun z => by cases z)
def lvR (l : Lv) : List V := [.int l.g, .int l.s, .int l.p]
structure RowsAt (H : Hp) (r : Addr) (W : List Lv) : Prop where
  at_ : ∃ ts : List Addr, H r = some (.lst (ts.map V.ref)) ∧ ts.length = W.length ∧ ∀ i t, ts[i]? = some t → H t = some (.tup (lvR (lv W i)))
structure ROk (W : List Lv) : Prop where
  ok : WOk W
  sp : ∀ i, i < W.length → (lv W i).p ≤ 4 * (lv W i).s * (lv W i).g
theorem ROk.lok {W : List Lv} (h : ROk W) {i : Nat} (hi : i < W.length) : LOk (lv W i) := by
  have := h.ok.all i hi
  exact ⟨by omega, by omega, by omega, by omega⟩
def sp__law_wheel_of (K : Frag) : Sp := fun vs H Q _ => ∃ (r : Addr) (as : List Addr) (W : List Lv), vs = [.ref r] ∧ H r = some (.lst (as.map V.ref)) ∧ as.length = W.length ∧ (∀ i c, as[i]? = some c → LvAt K H c (lv W i)) ∧ WOk W ∧
  ∀ a H', Same H H' → WhAt K H' a W → Q (.ref a) H'
def t__law_wheel_of (K : Frag) (w : World) : TS :=
  (tSeq (tIfS (tTest (tOp rEq (tCB rLenLH (tCons (tVar 0) tNil)) (tC (.int 1)))) (tRet (tMakeR (ga K "Wheel") (sp_Wheel___init__ K) E0 (tCons (tOp rIxLH (tVar 0) (tC (.int 0))) tNil))) tNext)
  (tSeq (tIfS (tTest (tOp rEq (tCB rLenLH (tCons (tVar 0) tNil)) (tC (.int 2)))) (tRet (tMakeR (ga K "Wheel") (sp_Wheel___init__ K) E0 (tCons (tOp rIxLH (tVar 0) (tC (.int 0))) (tCons (tOp rIxLH (tVar 0) (tC (.int 1))) tNil)))) tNext)
  (tSeq (tIfS (tTest (tOp rEq (tCB rLenLH (tCons (tVar 0) tNil)) (tC (.int 3)))) (tRet (tMakeR (ga K "Wheel") (sp_Wheel___init__ K) E0 (tCons (tOp rIxLH (tVar 0) (tC (.int 0))) (tCons (tOp rIxLH (tVar 0) (tC (.int 1))) (tCons (tOp rIxLH (tVar 0) (tC (.int 2))) tNil))))) tNext)
  (tSeq (tIfS (tTest (tOp rEq (tCB rLenLH (tCons (tVar 0) tNil)) (tC (.int 4)))) (tRet (tMakeR (ga K "Wheel") (sp_Wheel___init__ K) E0 (tCons (tOp rIxLH (tVar 0) (tC (.int 0))) (tCons (tOp rIxLH (tVar 0) (tC (.int 1))) (tCons (tOp rIxLH (tVar 0) (tC (.int 2))) (tCons (tOp rIxLH (tVar 0) (tC (.int 3))) tNil)))))) tNext)
  (tSeq (tIfS (tTest (tOp rEq (tCB rLenLH (tCons (tVar 0) tNil)) (tC (.int 5)))) (tRet (tMakeR (ga K "Wheel") (sp_Wheel___init__ K) E0 (tCons (tOp rIxLH (tVar 0) (tC (.int 0))) (tCons (tOp rIxLH (tVar 0) (tC (.int 1))) (tCons (tOp rIxLH (tVar 0) (tC (.int 2))) (tCons (tOp rIxLH (tVar 0) (tC (.int 3))) (tCons (tOp rIxLH (tVar 0) (tC (.int 4))) tNil))))))) tNext)
  (tRet (tIf (tTest (tOp oGt (tCB rLenLH (tCons (tVar 0) tNil)) (tC (.int 5)))) (tMakeR (ga K "Wheel") (sp_Wheel___init__ K) E0 (tCons (tOp rIxLH (tVar 0) (tC (.int 0))) (tCons (tOp rIxLH (tVar 0) (tC (.int 1))) (tCons (tOp rIxLH (tVar 0) (tC (.int 2))) (tCons (tOp rIxLH (tVar 0) (tC (.int 3))) (tCons (tOp rIxLH (tVar 0) (tC (.int 4))) (tCons (tOp rIxLH (tVar 0) (tC (.int 5))) tNil))))))) (tMakeR (ga K "Wheel") (sp_Wheel___init__ K) E0 tNil))))))))
def n__law_wheel_of : List Str := ["_law_some"]
theorem rd__law_wheel_of (vs : List V) (H : Hp) (Q : VK) (E : XK) (h : sp__law_wheel_of K vs H Q E) : t__law_wheel_of K w { nx := fun _ H' => Q .non H', rt := Q } (L2.start n__law_wheel_of vs) H := by
  obtain ⟨r, as, W, rfl, hr, hl, hc, ok, q⟩ := h
  have hm := wh_make (K := K) hl hc ok q
  have hp := ok.pos
  have hl5 := ok.len
  unfold t__law_wheel_of n__law_wheel_of tMakeR
  walk_at "rsx2"
  rcases as with _ | ⟨a1, _ | ⟨a2, _ | ⟨a3, _ | ⟨a4, _ | ⟨a5, _ | ⟨a6, as⟩⟩⟩⟩⟩⟩
  · have h : 0 = W.length := hl; omega
  · have h : 1 = W.length := hl
    rw [if_pos (by omega)]
    exact ⟨_, rfl, hm⟩
  · have h : 2 = W.length := hl
    rw [if_neg (by omega), if_pos (by omega)]
    exact ⟨_, rfl, _, rfl, hm⟩
  · have h : 3 = W.length := hl
    rw [if_neg (by omega), if_neg (by omega), if_pos (by omega)]
    exact ⟨_, rfl, _, rfl, _, rfl, hm⟩
  · have h : 4 = W.length := hl
    rw [if_neg (by omega), if_neg (by omega), if_neg (by omega), if_pos (by omega)]
    exact ⟨_, rfl, _, rfl, _, rfl, _, rfl, hm⟩
  · have h : 5 = W.length := hl
    rw [if_neg (by omega), if_neg (by omega), if_neg (by omega), if_neg (by omega), if_pos (by omega)]
    exact ⟨_, rfl, _, rfl, _, rfl, _, rfl, _, rfl, hm⟩
  · have h : as.length + 6 = W.length := hl; omega
def sp__law_made_wheel (K : Frag) : Sp := fun vs H Q _ => ∃ (r : Addr) (W : List Lv), vs = [.ref r] ∧ RowsAt H r W ∧ ROk W ∧ ∀ a H', Same H H' → WhAt K H' a W → Q (.ref a) H'
def t__law_made_wheel (K : Frag) (w : World) : TS :=
  (tRet (tFn (sp__law_wheel_of K) E0 (tCons (tLc (iList K (tVar 0)) (gTup K 3 (gCons (gName 1) (gCons (gName 2) (gCons (gName 3) gNil)))) tYes (tMakeK (ga K "Level") 2 1 (sp_Level___init__ K) gV_Level_span E0 (tCons (tVar 1) (tCons (tVar 2) tNil)) (tCons (tVar 3) tNil)) [1, 2, 3]) tNil)))
def n__law_made_wheel : List Str := ["_law_rows", "_law_grain", "_law_slots", "_law_size"]
theorem rd__law_made_wheel (vs : List V) (H : Hp) (Q : VK) (E : XK) (h : sp__law_made_wheel K vs H Q E) : t__law_made_wheel K w { nx := fun _ H' => Q .non H', rt := Q } (L2.start n__law_made_wheel vs) H := by
  obtain ⟨r, W, rfl, ⟨ts, hr, hl, ht⟩, ok, q⟩ := h
  have hl5 := ok.ok.len
  refine ⟨_, rfl, r, rfl, ⟨_, SqL.of hr⟩, fun D hD => lc_list (K := K) (a := r) (xs := ts.map V.ref)
    (fun i H' => Same H H' ∧ ∃ as : List Addr, as.length = i ∧ H' D = some (.lst (as.map V.ref)) ∧ ∀ j c, as[j]? = some c → LvAt K H' c (lv W j)) ⟨Same.new hD, [], rfl, upd_same, fun j c e => by simp at e⟩ (fun i H' _ z => SqL.of (z.1 _ _ hr)) ?_ ?_⟩
  · rintro i x H1 hx ⟨s1, as, ha, hD1, hc⟩
    obtain ⟨t, hti, rfl⟩ : ∃ c, ts[i]? = some c ∧ x = V.ref c := by
      rw [List.getElem?_map] at hx
      cases e : ts[i]? with
      | none => rw [e] at hx; cases hx
      | some c => rw [e] at hx; exact ⟨c, rfl, (Option.some.inj hx).symm⟩
    have hi : i < ts.length := (List.getElem?_eq_some_iff.mp hti).1
    have hall := ok.ok.all i (by omega)
    refine ⟨t, _, rfl, SqT.of (s1 _ _ (ht i t hti)), rfl, _, _, rfl, _, _, rfl, _, _, rfl, rfl, rfl, ?_⟩
    simp only [tYes, if_true]
    refine ⟨_, rfl, _, rfl, _, rfl, rfl, rfl, fun a dx hx hdx hne => ?_⟩
    refine ⟨a, dx, lv W i, _, rfl, .inl rfl, ok.lok (by omega), hall.2.2.2.2, ok.sp i (by omega), upd_same, fun H2 sx hL => ⟨rfl, ?_⟩⟩
    have s2 := SameX.made hx hdx sx
    refine ⟨as.map V.ref, s2 _ _ hD1, ?_, ?_⟩
    · have : sizeLine = 16777216 := rfl
      rw [List.length_map]
      omega
    have s3 : Same H (upd H2 D (.lst (as.map V.ref ++ [.ref a]))) := Same.updN (s1.trans s2) hD
    have hLu : ∀ {c : Addr} {l : Lv}, LvAt K H2 c l → LvAt K (upd H2 D (.lst (as.map V.ref ++ [.ref a]))) c l := fun {c l} h => by
      obtain ⟨o, d, e⟩ := h
      refine ⟨o, d, ?_⟩
      rw [upd_ne (fun z => by rw [z, s2 _ _ hD1] at e; cases e)]
      exact e
    refine ⟨s3, as ++ [a], by simp [ha], by rw [upd_same, List.map_append]; rfl, fun j c e => ?_⟩
    rw [List.getElem?_append] at e
    split at e
    · exact hLu ((hc j c e).same s2)
    · rename_i hj
      have hj' : j = i := by
        have := (List.getElem?_eq_some_iff.mp e).1
        simp at this
        omega
      subst hj'
      rw [ha, Nat.sub_self] at e
      obtain rfl := Option.some.inj e
      exact hLu hL
  · rintro H1 ⟨s1, as, ha, hD1, hc⟩
    exact ⟨D, as, W, rfl, hD1, by rw [ha, List.length_map, hl], hc, ok.ok, fun a H2 s2 hw => q a H2 (s1.trans s2) hw⟩
end
end Tw
/-! Tw: made books, levels of delays, drawn rows -/
namespace Tw
open PySem PySem.Spec PyProof.Rows L2 He TwM StX
open PySem.W (Frag)
local macro_rules | `(tactic| walk_at "rsy2") => `(tactic| simp only [*, at3_0, at3_1, at3_2, at2_0, at2_1, updS, upd_two, gSub, rSetL, updN, and_assoc, not_true_eq_false, not_false_eq_true, tNever, List.length_map, tFld, rIxTH, rIxLH, rLenTH, rLenLH, lk1, lfs_g, lfs_s, lfs_p, HO.ins.injEq, HO.tup.injEq, HO.lst.injEq, sp_Book_rounding, sp_Book_action, sp_Book_order, sp_Book_due, sp_Book_zero, sp_Book_beyond, Int.toNat_natCast, sp_visit_after, sp_is_visited, sp_Level_grain, sp_Level_slots, sp_Level_span, sp_Wheel_reach, sp_Wheel___len__, sp_is_integer, sp_is_count, sp_is_within, sp_rounded, tSeq, tAsg, gName, tVar, tC, tOp, rI, rI0, rU, tUn, oAdd, oSub, oMul, oDiv, oMod, oNeg, oLt, oLe, oGt, oGe, oIsN, oNotN, tFn, tCons, tNil, tIfS, tIf, tTest, tB, tNot, tAnd, tOr, tAndV, tOrV, tNotV,
    tRet, tRetN, tNext, tCB, tDrop, tChain, rEq, rNe, oMax2, oMin2, oInt1, rLenF, L2.start, List.map_cons, List.map_nil, List.length_cons, List.length_nil, List.replicate_succ, List.replicate_zero, List.cons_append, List.nil_append, Nat.reduceAdd, Nat.reduceSub, Nat.zero_add,
    List.set_cons_zero, List.set_cons_succ, List.getElem?_cons_zero, List.getElem?_cons_succ, Option.some.injEq, V.int.injEq, V.ref.injEq, V.str.injEq, V.bl.injEq, exists_eq_left', exists_eq_left, exists_and_left, List.cons.injEq, and_true, true_and, decide_eq_true_eq, sc_ii, sc_ss, sc_bb, sc_ni, sc_in, sc_nn, sc_is, reduceCtorEq,
    Bool.not_eq_true', decide_eq_false_iff_not, if_true, if_false, Bool.false_eq_true, exists_eq', exists_const, false_and, and_false, or_false, false_or, exists_false, Bool.not_not, Bool.not_true, Bool.not_false, sUp_up, sFire_fire, sHigh_high, sPut_put, sZone_now, sBey_refuse, sBey_cut, tTup, tLst, sz0, sz1, sz2, sz3, sz4, sz5, sz6])
section
variable {K : Frag} {w : World}
theorem bws_sum (B : Bk) : ((bws B).map (·.length)).sum + (bws B).length * (" " : Str).length ≤ 16777216 := by
  have key : ∀ (u f hi p z : Bool), ((bws ⟨u, f, hi, p, z, B.bey⟩).map (·.length)).sum ≤ 24 + (sBey B.bey).length := by
    intro u f hi p z
    have h1 : ∀ u, (sUp u).length ≤ 4 := by decide +kernel
    have h2 : ∀ u, (sFire u).length ≤ 4 := by decide +kernel
    have h3 : ∀ u, (sHigh u).length ≤ 4 := by decide +kernel
    have h4 : ∀ u, (sPut u).length ≤ 4 := by decide +kernel
    have h5 : ∀ u, (sZone u).length ≤ 4 := by decide +kernel
    have := h1 u
    have := h2 f
    have := h3 hi
    have := h4 p
    have := h5 z
    show (sUp u).length + ((sFire f).length + ((sHigh hi).length + ((sPut p).length + ((sZone z).length + ((sBey B.bey).length + 0))))) ≤ _
    omega
  have h6 : (sBey B.bey).length ≤ 6 := by
    match B.bey with
    | 0 => decide +kernel
    | 1 => decide +kernel
    | n + 2 => show ("cut" : Str).length ≤ 6; decide +kernel
  have h7 : (bws B).length = 6 := rfl
  have h8 : (" " : Str).length = 1 := by decide +kernel
  have h9 := key B.up B.fire B.high B.put B.zone
  have h10 : (⟨B.up, B.fire, B.high, B.put, B.zone, B.bey⟩ : Bk) = B := rfl
  rw [h10] at h9
  rw [h7, h8]
  omega
def sp__law_made_book (K : Frag) : Sp := fun vs H Q _ => ∃ (r : Addr) (B : Bk), vs = [.ref r] ∧ H r = some (.lst ((bws B).map V.str)) ∧ B.bey < 3 ∧ ∀ a H', Same H H' → BkAt K H' a B → Q (.ref a) H'
def t__law_made_book (K : Frag) (w : World) : TS :=
  (tRet (ClX.tCMeth (ga K "Book") (sp_Book_from_text K) E0 (tC (.ref (ga K "Book"))) (tCons (tM1 (oJoin K) (tC (.str " ")) (tVar 0)) tNil)))
def n__law_made_book : List Str := ["_law_values"]
theorem rd__law_made_book (vs : List V) (H : Hp) (Q : VK) (E : XK) (h : sp__law_made_book K vs H Q E) : t__law_made_book K w { nx := fun _ H' => Q .non H', rt := Q } (L2.start n__law_made_book vs) H := by
  obtain ⟨r, B, rfl, hr, hb, q⟩ := h
  exact ⟨rfl, ⟨_, rfl⟩, _, rfl, _, r, bws B, rfl, rfl, .inl (SqL.of hr), bws_sum B, B, rfl, hb, q⟩
def sp__law_belongs (K : Frag) : Sp := fun vs H Q _ => ∃ (r : Addr) (d : Int) (W : List Lv), vs = [.ref r, .int d] ∧ RowsAt H r W ∧ ∀ H', Same H H' → Q (optI (levelOf W d)) H'
def t__law_belongs (K : Frag) (w : World) : TS :=
  (tSeq (tFor (iEnum K (tCons (tVar 0) tNil)) (gTup K 2 (gCons (gName 2) (gCons (gName 3) gNil)))
    (tIfS (tTest (tOp oLt (tVar 1) (tOp rIxTH (tVar 3) (tC (.int 2))))) (tRet (tVar 2)) tNext))
  (tRet (tC .non)))
def n__law_belongs : List Str := ["_law_rows", "_law_delay", "_law_index", "_law_row"]
theorem rd__law_belongs (vs : List V) (H : Hp) (Q : VK) (E : XK) (h : sp__law_belongs K vs H Q E) : t__law_belongs K w { nx := fun _ H' => Q .non H', rt := Q } (L2.start n__law_belongs vs) H := by
  obtain ⟨r, d, W, rfl, ⟨ts, hr, hl, ht⟩, q⟩ := h
  unfold t__law_belongs n__law_belongs
  walk_at "rsy2"
  refine ⟨_, rfl, r, _, rfl, SqL.of hr, for_it (walk_enum (K := K) (a := r) (xs := ts.map V.ref))
    (fun i σ H' => ∃ v2 v3, σ = [some (.ref r), some (.int d), v2, v3] ∧ Same H H' ∧ ∀ j, j < i → (lv W j).p ≤ d) ⟨none, none, rfl, Same.refl H, fun j hj => by omega⟩ (fun i σ H' _ ⟨_, _, _, s, _⟩ => SqL.of (s _ _ hr)) ?_ ?_⟩
  · rintro i x σ H1 H2 hi ⟨v2, v3, rfl, s, hp⟩ ⟨Tq, x1, y1, rfl, hn, rfl, hx, hy⟩
    dsimp only at hx hy
    obtain rfl := Option.some.inj hx
    obtain ⟨t, hti, rfl⟩ : ∃ c, ts[i]? = some c ∧ y1 = V.ref c := by
      rw [List.getElem?_map] at hy
      cases e : ts[i]? with
      | none => rw [e] at hy; cases hy
      | some c => rw [e] at hy; exact ⟨c, rfl, (Option.some.inj hy).symm⟩
    have hit : i < W.length := by have := (List.getElem?_eq_some_iff.mp hti).1; omega
    have s' : Same H (upd H1 Tq (.tup [.int (i : Nat), .ref t])) := s.trans (Same.new hn)
    have ht' := s' _ _ (ht i t hti)
    refine ⟨Tq, _, rfl, SqT.of upd_same, rfl, _, _, rfl, _, _, rfl, rfl, ?_⟩
    unfold lvR at ht'
    walk_at "rsy2"
    refine ite2 (fun hlt => ?_) fun hge => ?_
    · have q' := q _ s'
      rw [levelOf_is hit hp hlt] at q'
      exact q'
    · refine fun j hj => ?_
      by_cases hji : j = i
      · subst hji; omega
      · exact hp j (by omega)
  · rintro σ H1 ⟨v2, v3, rfl, s, hp⟩
    have q' := q _ s
    rw [levelOf_isN fun j hj => hp j (by simpa [hl] using hj)] at q'
    exact q'
theorem lv_app_lt {W : List Lv} {l : Lv} {i : Nat} (h : i < W.length) : lv (W ++ [l]) i = lv W i := by
  unfold lv
  rw [List.getD_eq_getElem?_getD, List.getD_eq_getElem?_getD, List.getElem?_append_left h]
theorem lv_app_eq {W : List Lv} {l : Lv} : lv (W ++ [l]) W.length = l := by
  unfold lv
  rw [List.getD_eq_getElem?_getD, List.getElem?_append_right (Nat.le_refl _), Nat.sub_self]
  rfl
theorem ROk.snoc {W : List Lv} {g s x : Int} (h : W.length = 0 ∧ g = 1 ∨ ROk W ∧ (lv W (W.length - 1)).g ∣ g ∧ (lv W (W.length - 1)).p < x) (hl : W.length ≤ 4) (g1 : 1 ≤ g) (g2 : g ≤ 1000) (s1 : 2 ≤ s) (s2 : s ≤ 100) (x1 : 2 ≤ x) (x2 : x ≤ 4 * s * g) :
    ROk (W ++ [⟨g, s, x⟩]) := by
  have hlen : (W ++ [(⟨g, s, x⟩ : Lv)]).length = W.length + 1 := by simp
  have hpos : 0 < W.length → ROk W ∧ (lv W (W.length - 1)).g ∣ g ∧ (lv W (W.length - 1)).p < x := fun hp => h.elim (fun z => by omega) id
  refine ⟨⟨by omega, by omega, fun i hi => ?_, ?_, fun i hi => ?_, fun i hi => ?_⟩, fun i hi => ?_⟩
  · rcases Nat.lt_or_ge i W.length with hi' | hi'
    · rw [lv_app_lt hi']; exact (hpos (by omega)).1.ok.all i hi'
    · obtain rfl : i = W.length := by omega
      rw [lv_app_eq]; exact ⟨g1, g2, s1, s2, x1⟩
  · rcases Nat.eq_zero_or_pos W.length with h0 | h0
    · have : lv (W ++ [(⟨g, s, x⟩ : Lv)]) 0 = ⟨g, s, x⟩ := by rw [← h0]; exact lv_app_eq
      rw [this]
      exact h.elim (fun z => z.2) fun z => by have := z.1.ok.pos; omega
    · rw [lv_app_lt h0]; exact (hpos h0).1.ok.first
  · rw [hlen] at hi
    rw [lv_app_lt (by omega)]
    rcases Nat.lt_or_ge (i + 1) W.length with hi' | hi'
    · rw [lv_app_lt hi']; exact (hpos (by omega)).1.ok.dv i hi'
    · have e : i + 1 = W.length := by omega
      rw [e, lv_app_eq]
      have := (hpos (by omega)).2.1
      rwa [← e, Nat.add_sub_cancel] at this
  · rw [hlen] at hi
    rw [lv_app_lt (by omega)]
    rcases Nat.lt_or_ge (i + 1) W.length with hi' | hi'
    · rw [lv_app_lt hi']; exact (hpos (by omega)).1.ok.asc i hi'
    · have e : i + 1 = W.length := by omega
      rw [e, lv_app_eq]
      have := (hpos (by omega)).2.2
      rwa [← e, Nat.add_sub_cancel] at this
  · rcases Nat.lt_or_ge i W.length with hi' | hi'
    · rw [lv_app_lt hi']; exact (hpos (by omega)).1.sp i hi'
    · obtain rfl : i = W.length := by omega
      rw [lv_app_eq]; exact x2
/-- what stands after i turns -/
structure Grown (W : List Lv) (i : Nat) (g low : Int) : Prop where
  len : W.length = i
  z : i = 0 → g = 1 ∧ low = 1
  p : 0 < i → ROk W ∧ g = (lv W (i - 1)).g ∧ low = (lv W (i - 1)).p ∧ g ≤ 200
theorem RowsAt.sameP {p l r : Addr} {H H1 : Hp} {W : List Lv} (hp : PoolAt H p l) (e : RowsAt H r W) (s : SameP p l H H1) (h1 : r ≠ p) (h2 : r ≠ l) : RowsAt H1 r W := by
  obtain ⟨ts, a, b, c⟩ := e
  exact ⟨ts, s _ _ h1 h2 a, b, fun i t q => hp.tup s (c i t q)⟩
theorem RowsAt.same {r : Addr} {H H1 : Hp} {W : List Lv} (e : RowsAt H r W) (s : Same H H1) : RowsAt H1 r W := by
  obtain ⟨ts, a, b, c⟩ := e
  exact ⟨ts, s _ _ a, b, fun i t q => s _ _ (c i t q)⟩
theorem RowsAt.snoc {r t : Addr} {H : Hp} {W : List Lv} {l : Lv} {ts : List Addr} (a : H r = some (.lst (ts.map V.ref))) (b : ts.length = W.length) (c : ∀ i t, ts[i]? = some t → H t = some (.tup (lvR (lv W i)))) (ht : H t = some (.tup (lvR l))) :
    RowsAt (upd H r (.lst (ts.map V.ref ++ [.ref t]))) r (W ++ [l]) := by
  have hne : ∀ {q : Addr} {xs : List V}, H q = some (.tup xs) → q ≠ r := fun {q xs} h e => by rw [e, a] at h; cases h
  refine ⟨ts ++ [t], by rw [upd_same, List.map_append]; rfl, by simp [b], fun i q e => ?_⟩
  rw [List.getElem?_append] at e
  split at e
  · rename_i hi
    have h := c i q e
    rw [upd_ne (hne h), h, lv_app_lt (by omega)]
  · rename_i hi
    have hi' : i = ts.length := by
      have := (List.getElem?_eq_some_iff.mp e).1
      simp at this
      omega
    subst hi'
    rw [Nat.sub_self] at e
    obtain rfl := Option.some.inj e
    rw [upd_ne (hne ht), ht, b, lv_app_eq]
def sp__law_wide (K : Frag) : Sp := fun vs H Q _ => ∃ (p l : Addr), vs = [.ref p] ∧ PoolAt H p l ∧
  ∀ (r : Addr) (W : List Lv) (H' : Hp), SameP p l H H' → PoolAt H' p l → H r = none → RowsAt H' r W → ROk W → Q (.ref r) H'
def wideInv (p l r : Addr) (H : Hp) (i : Nat) (σ : L2.St) (H' : Hp) : Prop :=
  ∃ (W : List Lv) (g low : Int) (v4 v5 : Option V), σ = [some (.ref p), some (.ref r), some (.int g), some (.int low), v4, v5] ∧ SameP p l H H' ∧ PoolAt H' p l ∧ RowsAt H' r W ∧ Grown W i g low
theorem SameP.updf {p l r : Addr} {H H1 : Hp} {o : HO} (h : SameP p l H H1) (hr : H r = none) : SameP p l H (upd H1 r o) := fun b u n m e => by
  rw [upd_ne (ne_of_none e hr)]; exact h b u n m e
theorem PoolAt.updr {p l r : Addr} {H : Hp} {o : HO} (h : PoolAt H p l) (n : r ≠ p ∧ r ≠ l) : PoolAt (upd H r o) p l := by
  obtain ⟨n0, cs, i1, i2, i3, i4, h1, h2, h3⟩ := h
  exact ⟨n0, cs, i1, i2, i3, i4, by rw [upd_ne (fun e => n.1 e.symm)]; exact h1, by rw [upd_ne (fun e => n.2 e.symm)]; exact h2, h3⟩
theorem wide_rest {p l r : Addr} {H Hd : Hp} {Q : VK} {W : List Lv} {G low : Int} {i : Nat} (ap : r ≠ p ∧ r ≠ l) (hr : H r = none) (hpd : PoolAt Hd p l) (sc : SameP p l H Hd) (hrc : RowsAt Hd r W) (hWi : W.length = i) (hi : i ≤ 3) (hG1 : 1 * 1 ≤ G) (hG2 : G ≤ 200 * 60)
    (hGd : W.length = 0 ∧ G = 1 ∧ low = 1 ∨ ROk W ∧ (lv W (W.length - 1)).g ∣ G ∧ low = (lv W (W.length - 1)).p)
    (q : ∀ (r : Addr) (W : List Lv) (H' : Hp), SameP p l H H' → PoolAt H' p l → H r = none → RowsAt H' r W → ROk W → Q (.ref r) H') :
    sp__law_draw K [.ref p, .int 99] Hd (fun y H2 => ∃ x, y = .int x ∧ ∀ (p_1 : Addr), H2 p_1 = none →
      sp__law_draw K [.ref p, .int 3] (upd H2 p_1 (.lst [.int 2, .int 3, .int (2 + x)])) (fun y H2 => ∃ x x_1, y = .int x_1 ∧ H2 p_1 = some (.lst x) ∧ ∃ x_2, atI x x_1 = some x_2 ∧
        if 200 < G then Q (.ref r) H2
        else ∃ x, x_2 = V.int x ∧ CMul 4 x ∧ CMul (4 * x) G ∧
          if 4 * x * G < low + 1 then Q (V.ref r) H2
          else sp__law_span K [V.ref p, V.int G, x_2, V.int low] H2 (fun x H1 => tyV K "list" (V.ref r) H1 ∧ ∀ (p_2 : Addr), H1 p_2 = none →
            ∃ x_3, upd H1 p_2 (HO.tup [V.int G, x_2, x]) r = some (HO.lst x_3) ∧ x_3.length < sizeLine ∧
              wideInv p l r H (i + 1) [some (V.ref p), some (V.ref r), some (V.int G), some x, some (V.int (0 + ↑i)), some x_2] (upd (upd H1 p_2 (HO.tup [V.int G, x_2, x])) r (HO.lst (x_3 ++ [V.ref p_2])))) E0) E0) E0 := by
  refine draw (K := K) hpd (by decide) (by decide) fun j1 He s2 hpe c1 c2 => ⟨j1, rfl, fun r2 hr2 => ?_⟩
  refine drawAt hpe hr2 (by decide) (by decide) rfl fun j2 x2 Hf s3 hpf _ d1 d2 d3 => ?_
  obtain ⟨s, hs, hse⟩ := atInts (xs := [2, 3, 2 + j1]) d1 d2
  obtain rfl : x2 = .int s := by
    have : atI ([2, 3, 2 + j1].map V.int) j2 = some x2 := d3
    rw [hse] at this
    exact (Option.some.inj this).symm
  have hs1 : 2 ≤ s ∧ s ≤ 100 := by
    simp at hs
    omega
  have h8 : 4 * 2 * 1 ≤ 4 * s * G := Int.mul_le_mul (by omega) (by omega) (by omega) (by omega)
  have scf := (sc.trans s2).trans s3
  have hrf := RowsAt.sameP hpe (RowsAt.sameP hpd hrc s2 ap.1 ap.2) s3 ap.1 ap.2
  refine ite2 (fun e => ?_) fun e => ⟨s, rfl, .inr ⟨by omega, by omega⟩, .inr ⟨by omega, by omega⟩, ite2 (fun e2 => ?_) fun e2 => ?_⟩
  · exact q r W Hf scf hpf hr hrf (hGd.elim (fun z => by omega) fun z => z.1)
  · exact q r W Hf scf hpf hr hrf (hGd.elim (fun z => by omega) fun z => z.1)
  · refine ⟨p, l, G, s, low, rfl, hpf, by omega, by omega, by omega, by omega, fun x Hg s4 hpg x1 x2 x3 => ?_⟩
    have hrg := RowsAt.sameP hpf hrf s4 ap.1 ap.2
    obtain ⟨ts, ha, hb, hc⟩ := hrg
    refine ⟨.inl ⟨rfl, _, SqL.of ha⟩, fun t ht => ?_⟩
    have hrt : r ≠ t := ne_of_none ha ht
    have s5 : Same Hg (upd Hg t (.tup [.int G, .int s, .int x])) := Same.new ht
    refine ⟨ts.map V.ref, s5 _ _ ha, ?_, ?_⟩
    · have : sizeLine = 16777216 := rfl
      rw [List.length_map]
      omega
    · have hx : x ≤ 4 * s * G := by
        rcases x3 (by omega) with z | z <;> omega
      have hlow : low < x := x2
      have hW4 : W.length ≤ 4 := by omega
      refine ⟨W ++ [⟨G, s, x⟩], G, x, _, _, rfl, SameP.updf ((scf.trans s4).step s5) hr, (hpg.new ht).updr ap, RowsAt.snoc (s5 _ _ ha) hb (fun i t q => s5 _ _ (hc i t q)) (updS _ _ _), ⟨by simp [hWi], fun z => by omega, fun _ => ?_⟩⟩
      have e1 : lv (W ++ [(⟨G, s, x⟩ : Lv)]) (i + 1 - 1) = ⟨G, s, x⟩ := by rw [Nat.add_sub_cancel, ← hWi]; exact lv_app_eq
      rw [e1]
      refine ⟨ROk.snoc ?_ hW4 (by omega) (by omega) hs1.1 hs1.2 x1 hx, rfl, rfl, by omega⟩
      exact hGd.elim (fun z => .inl ⟨z.1, z.2.1⟩) fun z => .inr ⟨z.1, z.2.1, by have := z.2.2; omega⟩
def t__law_wide (K : Frag) (w : World) : TS :=
  (tSeq (tPar3 1 2 3 (tCons (tLst tNil) (tCons (tC (.int 1)) (tCons (tC (.int 1)) tNil))))
  (tSeq (tFor (iRng1 (tCons (tOp oAdd (tC (.int 1)) (tFn (sp__law_draw K) E0 (tCons (tVar 0) (tCons (tC (.int 4)) tNil)))) tNil)) (gName 4)
    (tSeq (tIfS (tTest (tOp oGt (tVar 4) (tC (.int 0)))) (tAsg (tOp oMul (tVar 2) (tOp rIxLH (tLst (tCons (tC (.int 1)) (tCons (tC (.int 2)) (tCons (tC (.int 3)) (tCons (tC (.int 10)) (tCons (tC (.int 24)) (tCons (tC (.int 60)) tNil))))))) (tFn (sp__law_draw K) E0 (tCons (tVar 0) (tCons (tC (.int 6)) tNil))))) (gName 2)) tNext)
  (tSeq (tAsg (tOp rIxLH (tLst (tCons (tC (.int 2)) (tCons (tC (.int 3)) (tCons (tOp oAdd (tC (.int 2)) (tFn (sp__law_draw K) E0 (tCons (tVar 0) (tCons (tC (.int 99)) tNil)))) tNil)))) (tFn (sp__law_draw K) E0 (tCons (tVar 0) (tCons (tC (.int 3)) tNil)))) (gName 5))
  (tSeq (tIfS (tOr (tTest (tOp oGt (tVar 2) (tC (.int 200)))) (tTest (tOp oGt (tOp oAdd (tVar 3) (tC (.int 1))) (tOp oMul (tOp oMul (tC (.int 4)) (tVar 5)) (tVar 2))))) (tRet (tVar 1)) tNext)
  (tSeq (tAsg (tFn (sp__law_span K) E0 (tCons (tVar 0) (tCons (tVar 2) (tCons (tVar 5) (tCons (tVar 3) tNil))))) (gName 3))
  (tDrop (tBM K "list" rAppend (tVar 1) (tCons (tTup (tCons (tVar 2) (tCons (tVar 5) (tCons (tVar 3) tNil)))) tNil))))))))
  (tRet (tVar 1))))
def n__law_wide : List Str := ["_law_pool", "_law_rows", "_law_grain", "_law_low", "_law_k", "_law_slots"]
theorem rd__law_wide (vs : List V) (H : Hp) (Q : VK) (E : XK) (h : sp__law_wide K vs H Q E) : t__law_wide K w { nx := fun _ H' => Q .non H', rt := Q } (L2.start n__law_wide vs) H := by
  obtain ⟨p, l, rfl, hp, q⟩ := h
  unfold t__law_wide n__law_wide tPar3 tBM rAppend
  walk_at "rsy2"
  intro r hr
  have ap := hp.apart hr
  have hp0 := hp.new (o := .lst []) hr
  refine ⟨_, rfl, draw (K := K) hp0 (by decide) (by decide) fun n0 H0 s0 hp1 n1 n2 => ⟨_, _, rfl, rfl, _, rfl, by omega, by omega, for_range
    (wideInv p l r H)
    ⟨[], 1, 1, none, none, rfl, ((SameP.refl p l H).step (Same.new hr)).trans s0, hp1, ⟨[], s0 _ _ ap.1 ap.2 (updS _ _ _), rfl, fun i t e => by simp at e⟩, ⟨rfl, fun _ => ⟨rfl, rfl⟩, fun z => by omega⟩⟩ ?_ ?_⟩⟩
  · rintro i σ Hc hi ⟨W, g, low, v4, v5, rfl, sc, hpc, hrc, hG⟩
    have hWi := hG.len
    walk_at "rsy2"
    refine ite2 (fun h0 => ?_) fun h0 => ?_
    · obtain ⟨hRk, hg, hlow, hg2⟩ := hG.p (by omega)
      have hall := hRk.ok.all (i - 1) (by omega)
      intro r1 hr1
      refine drawAt hpc hr1 (by decide) (by decide) rfl fun i1 x1 Hd s1 hpd _ a1 b1 c1 => ?_
      have apc := hpc.apart hr1
      obtain ⟨f, hf, hfe⟩ := atInts (xs := [1, 2, 3, 10, 24, 60]) a1 b1
      obtain rfl : x1 = .int f := by
        have : atI ([1, 2, 3, 10, 24, 60].map V.int) i1 = some x1 := c1
        rw [hfe] at this
        exact (Option.some.inj this).symm
      have hf1 : 1 ≤ f ∧ f ≤ 60 := by
        simp at hf
        omega
      have hG1 : 1 * 1 ≤ g * f := Int.mul_le_mul (by omega) hf1.1 (by omega) (by omega)
      have hG2 : g * f ≤ 200 * 60 := Int.mul_le_mul hg2 hf1.2 (by omega) (by omega)
      have hGd : W.length = 0 ∧ g * f = 1 ∧ low = 1 ∨ ROk W ∧ (lv W (W.length - 1)).g ∣ g * f ∧ low = (lv W (W.length - 1)).p := .inr ⟨hRk, by rw [hWi, ← hg]; exact Int.dvd_mul_right _ _, by rw [hWi]; exact hlow⟩
      have sc := sc.trans s1
      have hrc := RowsAt.sameP hpc hrc s1 ap.1 ap.2
      refine ⟨f, rfl, .inr ⟨by omega, by omega⟩, ?_⟩
      generalize g * f = G at hG1 hG2 hGd ⊢
      exact wide_rest ap hr hpd sc hrc hWi (by omega) hG1 hG2 hGd q
    · obtain ⟨hg1, hlow1⟩ := hG.z (by omega)
      exact wide_rest ap hr hpc sc hrc hWi (by omega) (by omega) (by omega) (.inl ⟨by omega, hg1, hlow1⟩) q
  · rintro σ H1 ⟨W, g, low, v4, v5, rfl, sc, hpc, hrc, hG⟩
    exact ⟨_, rfl, q r W H1 sc hpc hr hrc (hG.p (by omega)).1⟩
end
end Tw
/-! Tw: readings of common divisors, inverses, first hits, beats -/
namespace Tw
open PySem PySem.Spec PyProof.Rows L2 He TwM StX
open PySem.W (Frag)
local macro_rules | `(tactic| walk_at "rsg") => `(tactic| simp only [*, at3_0, at3_1, at3_2, at2_0, at2_1, updS, upd_two, gSub, rSetL, updN, and_assoc, not_true_eq_false, not_false_eq_true, tNever, List.length_map, tFld, rIxTH, rIxLH, rLenTH, rLenLH, lk1, lfs_g, lfs_s, lfs_p, HO.ins.injEq, HO.tup.injEq, HO.lst.injEq, sp_Book_rounding, sp_Book_action, sp_Book_order, sp_Book_due, sp_Book_zero, sp_Book_beyond, Int.toNat_natCast, sp_visit_after, sp_is_visited, sp_Level_grain, sp_Level_slots, sp_Level_span, sp_Wheel_reach, sp_Wheel___len__, sp_is_integer, sp_is_count, sp_is_within, sp_rounded, tSeq, tAsg, gName, tVar, tC, tOp, rI, rI0, rU, tUn, oAdd, oSub, oMul, oDiv, oMod, oNeg, oLt, oLe, oGt, oGe, oIsN, oNotN, tFn, tCons, tNil, tIfS, tIf, tTest, tB, tNot, tAnd, tOr, tAndV, tOrV, tNotV,
    tRet, tRetN, tNext, tCB, tDrop, tChain, rEq, rNe, oMax2, oMin2, oInt1, rLenF, L2.start, List.map_cons, List.map_nil, List.length_cons, List.length_nil, List.replicate_succ, List.replicate_zero, List.cons_append, List.nil_append, Nat.reduceAdd, Nat.reduceSub, Nat.zero_add,
    List.set_cons_zero, List.set_cons_succ, List.getElem?_cons_zero, List.getElem?_cons_succ, Option.some.injEq, V.int.injEq, V.ref.injEq, V.str.injEq, V.bl.injEq, exists_eq_left', exists_eq_left, exists_and_left, List.cons.injEq, and_true, true_and, decide_eq_true_eq, sc_ii, sc_ss, sc_bb, sc_ni, sc_in, sc_nn, sc_is, reduceCtorEq,
    Bool.not_eq_true', decide_eq_false_iff_not, if_true, if_false, Bool.false_eq_true, exists_eq', exists_const, false_and, and_false, or_false, false_or, exists_false, Bool.not_not, Bool.not_true, Bool.not_false, sUp_up, sFire_fire, sHigh_high, sPut_put, sZone_now, sBey_refuse, sBey_cut, tTup, tLst, sz0, sz1, sz2, sz3, sz4, sz5, sz6])
section
variable {K : Frag} {w : World}
def sp_common_divisor (K : Frag) : Sp := fun vs H Q _ => ∃ (a b : Int), vs = [.int a, .int b] ∧ 0 < b ∧ ∀ g, IsG a b g → Q (.int g) H
def cdInv (a b : Int) (H : Hp) (m : Nat) (σ : L2.St) (H' : Hp) : Prop := ∃ x y : Int, σ = [some (.int a), some (.int b), some (.int x), some (.int y)] ∧ H' = H ∧ x.toNat = m ∧ 0 ≤ x ∧ 0 < y ∧ ∀ d, (d ∣ x ∧ d ∣ y) ↔ (d ∣ a ∧ d ∣ b)
def t_common_divisor (K : Frag) (w : World) : TS :=
  (tSeq (tPar 2 3 (tCons (tCB oAbs (tCons (tVar 0) tNil)) (tCons (tVar 1) tNil)))
  (tSeq (tWhile (tTest (tOp oGt (tVar 2) (tC (.int 0))))
    (tPar 2 3 (tCons (tOp oMod (tVar 3) (tVar 2)) (tCons (tVar 2) tNil))))
  (tRet (tVar 3))))
def n_common_divisor : List Str := ["first", "second", "one", "other"]
theorem rd_common_divisor (vs : List V) (H : Hp) (Q : VK) (E : XK) (h : sp_common_divisor K vs H Q E) : t_common_divisor K w { nx := fun _ H' => Q .non H', rt := Q } (L2.start n_common_divisor vs) H := by
  obtain ⟨a, b, rfl, hb, q⟩ := h
  unfold t_common_divisor n_common_divisor tPar oAbs
  walk_at "rsg"
  refine ⟨cdInv a b H, ⟨_, _, _, rfl, rfl, rfl, by split <;> omega, hb, fun d => by rw [dvd_absI]⟩, ?_⟩
  rintro m σ H1 ⟨x, y, rfl, rfl, rfl, hx, hy, hd⟩
  walk_at "rsg"
  refine ite2 (fun h => ⟨cdInv a b H1 (y % x).toNat, fun σ' H' z => ⟨_, ?_, z⟩, ?_⟩) fun h => q y ⟨hy, fun d => ?_⟩
  · have h1 := Int.emod_nonneg y (b := x) (by omega)
    have h2 := Int.emod_lt_of_pos y h
    omega
  · exact ⟨h, _, _, rfl, rfl, rfl, Int.emod_nonneg y (by omega), h, fun d => (dvd_step x y d).trans (hd d)⟩
  · have h0 : x = 0 := by omega
    subst h0
    exact (hd d).symm.trans ⟨fun z => z.2, fun z => ⟨Int.dvd_zero d, z⟩⟩
def sp__law_common (K : Frag) : Sp := fun vs H Q _ => ∃ (a b : Int), vs = [.int a, .int b] ∧ (0 < a ∨ 0 < b) ∧ 0 ≤ b ∧ ∀ g, IsG a b g → Q (.int g) H
def lcInv (a b : Int) (H : Hp) (m : Nat) (σ : L2.St) (H' : Hp) : Prop := ∃ x y : Int, σ = [some (.int a), some (.int b), some (.int x), some (.int y)] ∧ H' = H ∧ y.toNat = m ∧ (0 < x ∨ 0 < y) ∧ 0 ≤ y ∧ ∀ d, (d ∣ x ∧ d ∣ y) ↔ (d ∣ a ∧ d ∣ b)
def t__law_common (K : Frag) (w : World) : TS :=
  (tSeq (tPar 2 3 (tCons (tVar 0) (tCons (tVar 1) tNil)))
  (tSeq (tWhile (tTest (tOp oGt (tVar 3) (tC (.int 0))))
    (tPar 2 3 (tCons (tVar 3) (tCons (tOp oMod (tCB oInt1 (tCons (tVar 2) tNil)) (tVar 3)) tNil))))
  (tRet (tVar 2))))
def n__law_common : List Str := ["_law_first", "_law_second", "_law_one", "_law_other"]
theorem rd__law_common (vs : List V) (H : Hp) (Q : VK) (E : XK) (h : sp__law_common K vs H Q E) : t__law_common K w { nx := fun _ H' => Q .non H', rt := Q } (L2.start n__law_common vs) H := by
  obtain ⟨a, b, rfl, ha, hb, q⟩ := h
  unfold t__law_common n__law_common tPar
  walk_at "rsg"
  refine ⟨lcInv a b H, ⟨_, _, _, rfl, rfl, rfl, ha, hb, fun d => Iff.rfl⟩, ?_⟩
  rintro m σ H1 ⟨x, y, rfl, rfl, rfl, hx, hy, hd⟩
  walk_at "rsg"
  refine ite2 (fun h => ⟨lcInv a b H1 (x % y).toNat, fun σ' H' z => ⟨_, ?_, z⟩, ?_⟩) fun h => q x ⟨by omega, fun d => ?_⟩
  · have h1 := Int.emod_nonneg x (b := y) (by omega)
    have h2 := Int.emod_lt_of_pos x h
    omega
  · exact ⟨h, _, _, rfl, rfl, rfl, .inl h, Int.emod_nonneg x (by omega), fun d => ⟨fun z => (hd d).mp ((dvd_step y x d).mp ⟨z.2, z.1⟩).symm, fun z => ((dvd_step y x d).mpr ((hd d).mpr z).symm).symm⟩⟩
  · have h0 : y = 0 := by omega
    subst h0
    exact (hd d).symm.trans ⟨fun z => z.1, fun z => ⟨z, Int.dvd_zero d⟩⟩
def sp_is_positive (K : Frag) : Sp := fun vs H Q _ => ∃ i : Int, vs = [.int i] ∧ Q (.bl (decide (1 ≤ i))) H
def t_is_positive (K : Frag) (w : World) : TS :=
  (tRet (tAndV (tFn (sp_is_integer K) E0 (tCons (tVar 0) tNil)) (tOp oGe (tVar 0) (tC (.int 1)))))
def n_is_positive : List Str := ["value"]
theorem rd_is_positive (vs : List V) (H : Hp) (Q : VK) (E : XK) (h : sp_is_positive K vs H Q E) : t_is_positive K w { nx := fun _ H' => Q .non H', rt := Q } (L2.start n_is_positive vs) H := by
  obtain ⟨i, rfl, q⟩ := h
  unfold t_is_positive n_is_positive
  walk_at "rsg"
def sp__law_whole (K : Frag) : Sp := fun vs H Q _ => ∃ i : Int, vs = [.int i] ∧ Q (.bl true) H
def t__law_whole (K : Frag) (w : World) : TS :=
  (tRet (tAndV (tCB (rIsi K) (tCons (tVar 0) (tCons (tC (.ty "int")) tNil))) (tNotV (tCB (rIsi K) (tCons (tVar 0) (tCons (tC (.ty "bool")) tNil))))))
def n__law_whole : List Str := ["_law_thing"]
theorem rd__law_whole (vs : List V) (H : Hp) (Q : VK) (E : XK) (h : sp__law_whole K vs H Q E) : t__law_whole K w { nx := fun _ H' => Q .non H', rt := Q } (L2.start n__law_whole vs) H := by
  obtain ⟨i, rfl, q⟩ := h
  unfold t__law_whole n__law_whole
  walk_at "rsg"
  refine isi_base (.base (.int i)) (b := true) (by decide +kernel) ⟨true, rfl, iteT ?_⟩
  exact isi_base (.base (.int i)) (b := false) (by decide +kernel) ⟨false, rfl, q⟩
def sp_inverse (K : Frag) : Sp := fun vs H Q _ => ∃ (a m : Int), vs = [.int a, .int m] ∧ 0 < m ∧ m < 1073741824 ∧ IsG a m 1 ∧ ∀ x H', Same H H' → 0 ≤ x → x < m → m ∣ x * a - 1 → Q (.int x) H'
def ivInv (a m : Int) (H : Hp) (n : Nat) (σ : L2.St) (H' : Hp) : Prop := ∃ (x y u v : Int) (t : Option V), σ = [some (.int a), some (.int m), some (.int x), some (.int y), some (.int u), some (.int v), t] ∧ H' = H ∧ y.toNat = n ∧ 0 < x ∧ x ≤ m ∧ 0 ≤ y ∧ y ≤ m ∧
  m ∣ u * a - x ∧ m ∣ v * a - y ∧ ∀ d, (d ∣ y ∧ d ∣ x) ↔ (d ∣ a ∧ d ∣ m)
def t_inverse (K : Frag) (w : World) : TS :=
  (tSeq (tPar 2 3 (tCons (tVar 1) (tCons (tOp oMod (tVar 0) (tVar 1)) tNil)))
  (tSeq (tAsg (tTup (tCons (tC (.int 0)) (tCons (tC (.int 1)) tNil))) (gTup K 2 (gCons (gName 4) (gCons (gName 5) gNil))))
  (tSeq (tWhile (tTest (tOp oGt (tVar 3) (tC (.int 0))))
    (tSeq (tAsg (tOp oDiv (tVar 2) (tVar 3)) (gName 6))
  (tSeq (tPar 2 3 (tCons (tVar 3) (tCons (tOp oSub (tVar 2) (tOp oMul (tVar 6) (tVar 3))) tNil)))
  (tPar 4 5 (tCons (tVar 5) (tCons (tOp oSub (tVar 4) (tOp oMul (tVar 6) (tVar 5))) tNil))))))
  (tRet (tOp oMod (tVar 4) (tVar 1))))))
def n_inverse : List Str := ["number", "modulus", "one", "other", "near", "far", "times"]
theorem rd_inverse (vs : List V) (H : Hp) (Q : VK) (E : XK) (h : sp_inverse K vs H Q E) : t_inverse K w { nx := fun _ H' => Q .non H', rt := Q } (L2.start n_inverse vs) H := by
  obtain ⟨a, m, rfl, hm, hm2, hg, q⟩ := h
  unfold t_inverse n_inverse tPar
  walk_at "rsg"
  have r0 := Int.emod_nonneg a (b := m) (by omega)
  have r1 := Int.emod_lt_of_pos a hm
  intro q0 hq0
  have s0 := Same.new (o := .tup [.int 0, .int 1]) hq0
  refine ⟨q0, _, rfl, SqT.of upd_same, rfl, _, _, rfl, _, _, rfl, rfl, ?_⟩
  refine ⟨ivInv a m (upd H q0 (.tup [.int 0, .int 1])), ⟨_, _, _, _, _, _, rfl, rfl, rfl, hm, Int.le_refl _, r0, by omega, ⟨-1, by omega⟩, ⟨a / m, by have := Int.emod_def a m; omega⟩, fun d => (dvd_step m a d).trans ⟨fun z => z.symm, fun z => z.symm⟩⟩, ?_⟩
  rintro n σ H1 ⟨x, y, u, v, t, rfl, rfl, rfl, hx, hxm, hy, hym, hu, hv, hd⟩
  have ht0 : 0 < y → 0 ≤ x / y ∧ x / y ≤ x := fun h => ⟨Int.ediv_nonneg (by omega) (by omega), Int.ediv_le_self _ (by omega)⟩
  walk_at "rsg"
  refine ite2 (fun h => ?_) fun h => ?_
  · have e := Int.emod_def x y
    have s0 := Int.emod_nonneg x (b := y) (by omega)
    have s1 := Int.emod_lt_of_pos x h
    obtain ⟨t0, t1⟩ := ht0 h
    have e2 : x - x / y * y = x % y := by rw [Int.mul_comm]; omega
    refine ⟨ivInv a m (upd H q0 (.tup [.int 0, .int 1])) (x % y).toNat, fun σ' H' z => ⟨_, by omega, z⟩, ⟨h, by omega⟩, .inl ⟨by omega, by omega⟩, .inl ⟨by omega, by omega⟩, ?_⟩
    refine ⟨_, _, _, _, _, rfl, rfl, by rw [e2], h, hym, by omega, by omega, hv, ?_, fun d => ?_⟩
    · have := Int.dvd_sub hu (Int.dvd_trans hv (Int.dvd_mul_left (x / y) (v * a - y)))
      have e3 : u * a - x - x / y * (v * a - y) = (u - x / y * v) * a - (x - x / y * y) := by rw [Int.mul_sub, Int.sub_mul, Int.mul_assoc]; omega
      rwa [e3] at this
    · rw [e2]
      exact (dvd_step y x d).trans (hd d)
  · have h0 : y = 0 := by omega
    subst h0
    have hx1 : x = 1 := by
      have h1 : x ∣ 1 := (hg.2 x).mp ((hd x).mp ⟨Int.dvd_zero x, Int.dvd_refl x⟩)
      have := Int.le_of_dvd (by decide) h1
      omega
    subst hx1
    refine q _ _ s0 (Int.emod_nonneg _ (by omega)) (Int.emod_lt_of_pos _ hm) ?_
    have e := Int.emod_def u m
    rw [e, Int.sub_mul, show u * a - m * (u / m) * a - 1 = (u * a - 1) - m * (u / m * a) by rw [Int.mul_assoc]; omega]
    exact Int.dvd_sub hu (Int.dvd_mul_right _ _)
def sp_first_hit (K : Frag) : Sp := fun vs H Q _ => ∃ (b len goal m : Int), vs = [.int b, .int len, .int goal, .int m] ∧ 0 < m ∧ m < 1073741824 ∧ ∀ o H', Same H H' → FH b len goal m o → Q (optV o) H'
def t_first_hit (K : Frag) (w : World) : TS :=
  (tSeq (tAsg (tFn (sp_common_divisor K) E0 (tCons (tVar 1) (tCons (tVar 3) tNil))) (gName 4))
  (tSeq (tIfS (tTest (tOp rNe (tOp oMod (tOp oSub (tVar 2) (tVar 0)) (tVar 4)) (tC (.int 0)))) (tRet (tC .non)) tNext)
  (tSeq (tAsg (tOp oDiv (tVar 3) (tVar 4)) (gName 5))
  (tSeq (tAsg (tOp oMod (tOp oMul (tOp oDiv (tOp oSub (tVar 2) (tVar 0)) (tVar 4)) (tFn (sp_inverse K) E0 (tCons (tOp oDiv (tVar 1) (tVar 4)) (tCons (tVar 5) tNil)))) (tVar 5)) (gName 6))
  (tSeq (tIfS (tTest (tOp rEq (tVar 6) (tC (.int 0)))) (tRet (tVar 5)) tNext)
  (tRet (tVar 6)))))))
def n_first_hit : List Str := ["base", "length", "goal", "modulus", "divisor", "small", "many"]
theorem rd_first_hit (vs : List V) (H : Hp) (Q : VK) (E : XK) (h : sp_first_hit K vs H Q E) : t_first_hit K w { nx := fun _ H' => Q .non H', rt := Q } (L2.start n_first_hit vs) H := by
  obtain ⟨b, len, goal, m, rfl, hm, hm2, q⟩ := h
  unfold t_first_hit n_first_hit
  walk_at "rsg"
  refine ⟨len, m, rfl, hm, fun g hg => ?_⟩
  have hg0 := hg.1
  have hgm : g ≤ m := Int.le_of_dvd hm hg.right
  have hsm : 0 < m / g := Int.ediv_pos_of_pos_of_dvd hm (by omega) hg.right
  have hsm2 : m / g ≤ m := Int.ediv_le_self _ (by omega)
  walk_at "rsg"
  refine ite2 (fun h => q none _ (Same.refl H) (fh_none hg h)) fun h => ?_
  refine ⟨⟨hg0, by omega⟩, ⟨hg0, by omega⟩, ⟨hg0, by omega⟩, _, _, rfl, hsm, by omega, isG_small hg, fun x H1 s1 hx0 hx1 hx => ⟨x, rfl, ?_⟩⟩
  have hf := fh_some hm hg (Classical.not_not.mp h) hx
  refine ⟨.inr ⟨by omega, by omega⟩, ite2 (fun h0 => ?_) fun h0 => ?_⟩
  · rw [if_pos h0] at hf
    exact q _ H1 s1 hf
  · rw [if_neg h0] at hf
    exact q _ H1 s1 hf
def sp_end_of (K : Frag) : Sp := fun vs H Q _ => ∃ (s len t : Int), vs = [.int s, .int len, .int t] ∧ CDivW (s - t) len ∧ CMul ((s - t) / len) len ∧ Q (.int (s - (s - t) / len * len)) H
def t_end_of (K : Frag) (w : World) : TS :=
  (tRet (tOp oSub (tVar 0) (tOp oMul (tOp oDivW (tOp oSub (tVar 0) (tVar 2)) (tVar 1)) (tVar 1))))
def n_end_of : List Str := ["start", "length", "tick"]
theorem rd_end_of (vs : List V) (H : Hp) (Q : VK) (E : XK) (h : sp_end_of K vs H Q E) : t_end_of K w { nx := fun _ H' => Q .non H', rt := Q } (L2.start n_end_of vs) H := by
  obtain ⟨s, len, t, rfl, h1, h2, q⟩ := h
  unfold t_end_of n_end_of oDivW
  walk_at "rsg"
def sp_next_end (K : Frag) : Sp := fun vs H Q _ => ∃ (c : Addr) (pt tick start len : Int) (mode : Str), vs = [.ref c, .int pt, .int tick, .int start, .int len, .str mode] ∧ ∃ l, LvAt K H c l ∧
  ((mode = "last" ∧ ∀ o H', Same H H' → FH tick len (pt * l.g) (l.g * l.s) o → Q (optV (o.map fun k => tick + k * len)) H') ∨
    (mode ≠ "last" ∧ CDivW (start - va l pt tick) len ∧ CMul ((start - va l pt tick) / len) len ∧ Q (.int (start - (start - va l pt tick) / len * len)) H))
def t_next_end (K : Frag) (w : World) : TS :=
  (tSeq (tIfS (tTest (tOp rEq (tVar 5) (tC (.str "last")))) (tSeq (tAsg (tFn (sp_first_hit K) E0 (tCons (tVar 2) (tCons (tVar 4) (tCons (tOp oMul (tVar 1) (tFn (sp_Level_grain K) E0 (tCons (tVar 0) tNil))) (tCons (tOp oMul (tFn (sp_Level_grain K) E0 (tCons (tVar 0) tNil)) (tFn (sp_Level_slots K) E0 (tCons (tVar 0) tNil))) tNil))))) (gName 6))
  (tSeq (tIfS (tTest (tOp oIsN (tVar 6) (tC .non))) (tRet (tC .non)) tNext)
  (tRet (tOp oAdd (tVar 2) (tOp oMul (tVar 6) (tVar 4)))))) tNext)
  (tRet (tFn (sp_end_of K) E0 (tCons (tVar 3) (tCons (tVar 4) (tCons (tFn (sp_visit_after K) E0 (tCons (tVar 0) (tCons (tVar 1) (tCons (tVar 2) tNil)))) tNil))))))
def n_next_end : List Str := ["level", "point", "tick", "start", "length", "mode", "many"]
theorem rd_next_end (vs : List V) (H : Hp) (Q : VK) (E : XK) (h : sp_next_end K vs H Q E) : t_next_end K w { nx := fun _ H' => Q .non H', rt := Q } (L2.start n_next_end vs) H := by
  obtain ⟨c, pt, tick, start, len, mode, rfl, l, hL, h⟩ := h
  obtain ⟨g1, g2, s1, s2⟩ := hL.ok
  have e := @lv_ex K H c l hL
  have hgs : l.g * l.s ≤ 1000 * 100 := Int.mul_le_mul g2 s2 (by omega) (by omega)
  have hgs0 : 1 * 2 ≤ l.g * l.s := Int.mul_le_mul g1 s1 (by omega) (by omega)
  unfold t_next_end n_next_end
  rcases h with ⟨rfl, q⟩ | ⟨hm, h1, h2, q⟩
  · walk_at "rsg"
    refine ⟨.inr ⟨by omega, by omega⟩, .inr ⟨by omega, by omega⟩, tick, len, pt * l.g, l.g * l.s, rfl, by omega, by omega, fun o H1 s1 ho => ?_⟩
    have q' := q o H1 s1 ho
    cases o with
    | none => walk_at "rsg"; exact q'
    | some k =>
      obtain ⟨g, hg, k1, k2, k3⟩ := id ho
      have hg0 := hg.1
      have k4 : l.g * l.s / g ≤ l.g * l.s := Int.ediv_le_self _ (by omega)
      unfold optV
      walk_at "rsg"
      exact ⟨.inl ⟨by omega, by omega⟩, q'⟩
  · walk_at "rsg"
    exact ⟨start, len, va l pt tick, rfl, h1, h2, q⟩
def sp__law_turned (K : Frag) : Sp := fun vs H Q _ => ∃ (t g : Int) (u : Bool), vs = [.int t, .int g, .str (sUp u)] ∧ 0 < g ∧ g < 1073741824 ∧ Q (.int (rnd u t g)) H
theorem ceil_eq {t g : Int} (hg : 0 < g) : (t + g - 1) / g = -(-t / g) := by
  have h1 := Int.emod_def (-t) g
  have h2 := Int.emod_nonneg (-t) (b := g) (by omega)
  have h3 := Int.emod_lt_of_pos (-t) hg
  generalize -t / g = k at h1 ⊢
  generalize -t % g = r at h1 h2 h3
  have e : t + g - 1 = (g - 1 - r) + (-k) * g := by rw [Int.neg_mul, Int.mul_comm k g]; omega
  rw [e, Int.add_mul_ediv_right _ _ (by omega), Int.ediv_eq_zero_of_lt (by omega) (by omega)]
  omega
def t__law_turned (K : Frag) (w : World) : TS :=
  (tRet (tIf (tTest (tOp rEq (tVar 2) (tC (.str "up")))) (tOp oDiv (tOp oSub (tOp oAdd (tVar 0) (tVar 1)) (tC (.int 1))) (tVar 1)) (tOp oDiv (tVar 0) (tVar 1))))
def n__law_turned : List Str := ["_law_tick", "_law_grain", "_law_way"]
theorem rd__law_turned (vs : List V) (H : Hp) (Q : VK) (E : XK) (h : sp__law_turned K vs H Q E) : t__law_turned K w { nx := fun _ H' => Q .non H', rt := Q } (L2.start n__law_turned vs) H := by
  obtain ⟨t, g, u, rfl, h1, h2, q⟩ := h
  unfold t__law_turned n__law_turned
  walk_at "rsg"
  unfold rnd at q
  refine ite2 (fun hu => ?_) fun hu => ?_
  · rw [if_pos hu] at q
    refine ⟨⟨h1, h2⟩, ?_⟩
    rw [ceil_eq h1]
    exact q
  · rw [if_neg hu] at q
    exact ⟨⟨h1, h2⟩, q⟩
def sp__law_great_rows (K : Frag) : Sp := fun vs H Q _ => ∃ (p l : Addr), vs = [.ref p] ∧ PoolAt H p l ∧
  ∀ (r : Addr) (W : List Lv) (H' : Hp), SameP p l H H' → PoolAt H' p l → H r = none → RowsAt H' r W → ROk W → W.length ≤ 2 → Q (.ref r) H'
def t__law_great_rows (K : Frag) (w : World) : TS :=
  (tSeq (tAsg (tOp oAdd (tC (.int 2)) (tFn (sp__law_draw K) E0 (tCons (tVar 0) (tCons (tC (.int 99)) tNil)))) (gName 1))
  (tSeq (tAsg (tLst (tCons (tTup (tCons (tC (.int 1)) (tCons (tVar 1) (tCons (tOp oAdd (tC (.int 2)) (tFn (sp__law_draw K) E0 (tCons (tVar 0) (tCons (tOp oSub (tOp oMul (tC (.int 4)) (tVar 1)) (tC (.int 1))) tNil)))) tNil)))) tNil)) (gName 2))
  (tSeq (tIfS (tTest (tOp oGt (tFn (sp__law_draw K) E0 (tCons (tVar 0) (tCons (tC (.int 3)) tNil))) (tC (.int 0)))) (tSeq (tPar3 3 1 4 (tCons (tOp oAdd (tC (.int 1)) (tFn (sp__law_draw K) E0 (tCons (tVar 0) (tCons (tC (.int 1000)) tNil)))) (tCons (tOp oAdd (tC (.int 2)) (tFn (sp__law_draw K) E0 (tCons (tVar 0) (tCons (tC (.int 99)) tNil)))) (tCons (tOp rIxTH (tOp rIxLH (tVar 2) (tC (.int 0))) (tC (.int 2))) tNil))))
  (tIfS (tTest (tOp oGt (tOp oMul (tOp oMul (tC (.int 4)) (tVar 3)) (tVar 1)) (tVar 4))) (tDrop (tBM K "list" rAppend (tVar 2) (tCons (tTup (tCons (tVar 3) (tCons (tVar 1) (tCons (tOp oAdd (tOp oAdd (tVar 4) (tC (.int 1))) (tFn (sp__law_draw K) E0 (tCons (tVar 0) (tCons (tOp oSub (tOp oMul (tOp oMul (tC (.int 4)) (tVar 3)) (tVar 1)) (tVar 4)) tNil)))) tNil)))) tNil))) tNext)) tNext)
  (tRet (tVar 2)))))
def n__law_great_rows : List Str := ["_law_pool", "_law_slots", "_law_rows", "_law_grain", "_law_low"]
theorem rd__law_great_rows (vs : List V) (H : Hp) (Q : VK) (E : XK) (h : sp__law_great_rows K vs H Q E) : t__law_great_rows K w { nx := fun _ H' => Q .non H', rt := Q } (L2.start n__law_great_rows vs) H := by
  obtain ⟨p, l, rfl, hp, q⟩ := h
  unfold t__law_great_rows n__law_great_rows tPar3 tBM rAppend
  walk_at "rsg"
  refine draw (K := K) hp (by decide) (by decide) fun x H1 s1 hp1 x0 x1 => ⟨x, rfl, .inl ⟨by omega, by omega⟩, ?_⟩
  refine draw (K := K) hp1 (by omega) (log_small (by omega) (by omega)) fun y H2 s2 hp2 y0 y1 => ⟨y, rfl, fun t ht r hr => ?_⟩
  have hpt := hp2.new (o := .tup [.int 1, .int (2 + x), .int (2 + y)]) ht
  have ap := hpt.apart hr
  have hp3 := hpt.new (o := .lst [.ref t]) hr
  have h12 := (s1.trans s2).step (Same.new (o := .tup [.int 1, .int (2 + x), .int (2 + y)]) ht)
  have hrn : H r = none := by
    cases e : H r with
    | none => rfl
    | some o => exact absurd (h12 r o ap.1 ap.2 e) (by rw [hr]; exact fun z => by cases z)
  have hok : ROk [(⟨1, 2 + x, 2 + y⟩ : Lv)] := ROk.snoc (W := []) (.inl ⟨rfl, rfl⟩) (by decide) (by decide) (by decide) (by omega) (by omega) (by omega) (by omega)
  have hrow : RowsAt (upd (upd H2 t (.tup [.int 1, .int (2 + x), .int (2 + y)])) r (.lst [.ref t])) r [⟨1, 2 + x, 2 + y⟩] := by
    refine ⟨[t], updS _ _ _, rfl, fun i c e => ?_⟩
    cases i with
    | succ i => simp at e
    | zero =>
      obtain rfl := Option.some.inj e
      rw [upd_ne (ne_of_none (updS _ _ _) hr), updS]
      rfl
  have h3 := h12.step (Same.new (o := .lst [.ref t]) hr)
  refine draw (K := K) hp3 (by decide) (by decide) fun i H3 s3 hp4 _ _ => ⟨i, rfl, ite2 (fun _ => ?_) fun _ => ?_⟩
  · have hrow3 := RowsAt.sameP hp3 hrow s3 ap.1 ap.2
    refine draw (K := K) hp4 (by decide) (by decide) fun a H4 s4 hp5 a0 a1 => ⟨a, rfl, ?_⟩
    have hrow4 := RowsAt.sameP hp4 hrow3 s4 ap.1 ap.2
    refine draw (K := K) hp5 (by decide) (by decide) fun b H5 s5 hp6 b0 b1 => ⟨b, rfl, ?_⟩
    have hrow5 := RowsAt.sameP hp5 hrow4 s5 ap.1 ap.2
    have h5 := ((h3.trans s3).trans s4).trans s5
    obtain ⟨ts, ha, hb, hc⟩ := id hrow5
    obtain ⟨t0, rfl⟩ : ∃ t0, ts = [t0] := List.length_eq_one_iff.mp hb
    have ht0 := hc 0 t0 rfl
    refine ⟨_, ha, _, rfl, t0, rfl, _, ht0, _, rfl, .inr ⟨by omega, by omega⟩, .inr ⟨by omega, by omega⟩, _, rfl, ?_⟩
    have e : lv [(⟨1, 2 + x, 2 + y⟩ : Lv)] 0 = ⟨1, 2 + x, 2 + y⟩ := rfl
    rw [e]
    dsimp only
    have hm : 4 * (1 + a) * (2 + b) ≤ 4 * 1001 * 102 := Int.mul_le_mul (by omega) (by omega) (by omega) (by omega)
    have hcm : 4 * (2 + b) * (1 + a) = 4 * (1 + a) * (2 + b) := by rw [Int.mul_assoc, Int.mul_comm (2 + b), ← Int.mul_assoc]
    refine ite2 (fun hlt => ⟨.inl ⟨rfl, _, SqL.of ha⟩, _, rfl, .inr ⟨by omega, by omega⟩, .inr ⟨by omega, by omega⟩, _, rfl, ?_⟩) fun _ => q r _ H5 h5 hp6 hrn hrow5 hok (by show 1 ≤ 2; decide)
    refine draw (K := K) hp6 (by omega) (log_small (by omega) (by omega)) fun z H6 s6 hp7 z0 z1 => ⟨z, rfl, fun c hc' => ?_⟩
    obtain ⟨ts6, ha6, hb6, hc6⟩ := RowsAt.sameP hp6 hrow5 s6 ap.1 ap.2
    have s7 : Same H6 (upd H6 c (.tup [.int (1 + a), .int (2 + b), .int (2 + y + 1 + z)])) := Same.new hc'
    refine ⟨_, s7 _ _ ha6, ?_, ?_⟩
    · have : sizeLine = 16777216 := rfl
      have hb6' : ts6.length = 1 := hb6
      rw [List.length_map]
      omega
    · exact q r ([⟨1, 2 + x, 2 + y⟩] ++ [⟨1 + a, 2 + b, 2 + y + 1 + z⟩]) _ (SameP.updf ((h5.trans s6).step s7) hrn) ((hp7.new hc').updr ap) hrn (RowsAt.snoc (s7 _ _ ha6) hb6 (fun i t q => s7 _ _ (hc6 i t q)) (updS _ _ _))
        (ROk.snoc (W := [⟨1, 2 + x, 2 + y⟩]) (.inr ⟨hok, Int.one_dvd _, by show 2 + y < 2 + y + 1 + z; omega⟩) (by show 1 ≤ 4; decide) (by omega) (by omega) (by omega) (by omega) (by omega) (by omega)) (by show 2 ≤ 2; decide)
  · exact q r _ H3 (h3.trans s3) hp4 hrn (RowsAt.sameP hp3 hrow s3 ap.1 ap.2) hok (by show 1 ≤ 2; decide)
/-- facts of the modes -/
structure Kg (K : Frag) : Prop where
  md : ∀ H, SqT K H (ga K "MODES") [.str "each", .str "last", .str "slots"]
end
end Tw
/-! Tw: small words for the laws' bodies -/
namespace Tw
open PySem PySem.Spec PyProof.Rows L2 He TwM StX
open PySem.W (Frag)
theorem ite_same {c : Prop} [Decidable c] {A B C : Prop} (h1 : c → C → A) (h2 : ¬c → C → B) (h : C) : if c then A else B := ite2 (fun q => h1 q h) fun q => h2 q h
theorem gName1 (i : Nat) (v : V) (σ : L2.St) (H : Hp) (Q : L2.St → Hp → Prop) : gName i v σ H Q = Q (σ.set i (some v)) H := rfl
theorem seq1 (a b : TS) (D : Ends) (σ : L2.St) (H : Hp) : tSeq a b D σ H = a { D with nx := b D } σ H := rfl
theorem ROk.small {W : List Lv} (h : ROk W) {i : Nat} (hi : i < W.length) : (lv W i).p ≤ 400000 := by
  have h1 := h.ok.all i hi
  have h2 := h.sp i hi
  have h3 : 4 * (lv W i).s * (lv W i).g ≤ 400 * 1000 := Int.mul_le_mul (by omega) (by omega) (by omega) (by omega)
  omega
end Tw
/-! Tw: drawn rows with bounds -/
namespace Tw
open PySem PySem.Spec PyProof.Rows L2 He TwM StX
open PySem.W (Frag)
local macro_rules | `(tactic| walk_at "rsl2") => `(tactic| simp only [*, at3_0, at3_1, at3_2, at2_0, at2_1, updS, upd_two, gSub, rSetL, updN, and_assoc, not_true_eq_false, not_false_eq_true, tNever, List.length_map, tFld, rIxTH, rIxLH, rLenTH, rLenLH, lk1, lfs_g, lfs_s, lfs_p, HO.ins.injEq, HO.tup.injEq, HO.lst.injEq, sp_Book_rounding, sp_Book_action, sp_Book_order, sp_Book_due, sp_Book_zero, sp_Book_beyond, Int.toNat_natCast, sp_visit_after, sp_is_visited, sp_Level_grain, sp_Level_slots, sp_Level_span, sp_Wheel_reach, sp_Wheel___len__, sp_is_integer, sp_is_count, sp_is_within, sp_rounded, tSeq, tAsg, gName, tVar, tC, tOp, rI, rI0, rU, tUn, oAdd, oSub, oMul, oDiv, oMod, oNeg, oLt, oLe, oGt, oGe, oIsN, oNotN, tFn, tCons, tNil, tIfS, tIf, tTest, tB, tNot, tAnd, tOr, tAndV, tOrV, tNotV,
    tRet, tRetN, tNext, tCB, tDrop, tChain, rEq, rNe, oMax2, oMin2, oInt1, rLenF, L2.start, List.map_cons, List.map_nil, List.length_cons, List.length_nil, List.replicate_succ, List.replicate_zero, List.cons_append, List.nil_append, Nat.reduceAdd, Nat.reduceSub, Nat.zero_add,
    List.set_cons_zero, List.set_cons_succ, List.getElem?_cons_zero, List.getElem?_cons_succ, Option.some.injEq, V.int.injEq, V.ref.injEq, V.str.injEq, V.bl.injEq, exists_eq_left', exists_eq_left, exists_and_left, List.cons.injEq, and_true, true_and, decide_eq_true_eq, sc_ii, sc_ss, sc_bb, sc_ni, sc_in, sc_nn, sc_is, reduceCtorEq,
    Bool.not_eq_true', decide_eq_false_iff_not, if_true, if_false, Bool.false_eq_true, exists_eq', exists_const, false_and, and_false, or_false, false_or, exists_false, Bool.not_not, Bool.not_true, Bool.not_false, sUp_up, sFire_fire, sHigh_high, sPut_put, sZone_now, sBey_refuse, sBey_cut, tTup, tLst, sz0, sz1, sz2, sz3, sz4, sz5, sz6])
section
variable {K : Frag} {w : World}
structure RBd (W : List Lv) (mg ms : Int) (ml : Nat) : Prop where
  g : ∀ i, i < W.length → (lv W i).g ≤ mg
  s : ∀ i, i < W.length → (lv W i).s ≤ ms
  n : W.length ≤ ml
def sp__law_draw_rows (K : Frag) : Sp := fun vs H Q _ => ∃ (p l : Addr) (mg ms : Int) (ml : Nat), vs = [.ref p, .int mg, .int ms, .int ml] ∧ PoolAt H p l ∧ 1 ≤ mg ∧ mg ≤ 1000 ∧ 2 ≤ ms ∧ ms ≤ 100 ∧ 1 ≤ ml ∧ ml ≤ 5 ∧
  ∀ (r : Addr) (W : List Lv) (H' : Hp), SameP p l H H' → PoolAt H' p l → H r = none → RowsAt H' r W → ROk W → RBd W mg ms ml → Q (.ref r) H'
structure Grown2 (W : List Lv) (i : Nat) (g low mg ms : Int) : Prop where
  len : W.length = i
  z : i = 0 → g = 1 ∧ low = 1
  p : 0 < i → ROk W ∧ g = (lv W (i - 1)).g ∧ low = (lv W (i - 1)).p ∧ g ≤ mg
  bg : ∀ j, j < W.length → (lv W j).g ≤ mg
  bs : ∀ j, j < W.length → (lv W j).s ≤ ms
def drInv (p l r : Addr) (mg ms : Int) (ml : Nat) (H : Hp) (i : Nat) (σ : L2.St) (H' : Hp) : Prop :=
  ∃ (W : List Lv) (g low : Int) (v7 v8 : Option V), σ = [some (.ref p), some (.int mg), some (.int ms), some (.int ml), some (.ref r), some (.int g), some (.int low), v7, v8] ∧ SameP p l H H' ∧ PoolAt H' p l ∧ RowsAt H' r W ∧ Grown2 W i g low mg ms
theorem rows_rest {p l r : Addr} {H Hd : Hp} {Q : VK} {W : List Lv} {G low mg ms : Int} {i ml : Nat} (ap : r ≠ p ∧ r ≠ l) (hr : H r = none) (hpd : PoolAt Hd p l) (sc : SameP p l H Hd) (hrc : RowsAt Hd r W) (hWi : W.length = i) (hi : i ≤ 4) (m1 : 1 ≤ mg) (m2 : mg ≤ 1000) (m3 : 2 ≤ ms) (m4 : ms ≤ 100)
    (hG1 : 1 * 1 ≤ G) (hG2 : G ≤ 1000 * 8)
    (hGd : W.length = 0 ∧ G = 1 ∧ low = 1 ∨ ROk W ∧ (lv W (W.length - 1)).g ∣ G ∧ low = (lv W (W.length - 1)).p) (bg : ∀ j, j < W.length → (lv W j).g ≤ mg) (bs : ∀ j, j < W.length → (lv W j).s ≤ ms) (hml : W.length ≤ ml)
    (q : ∀ (r : Addr) (W : List Lv) (H' : Hp), SameP p l H H' → PoolAt H' p l → H r = none → RowsAt H' r W → ROk W → RBd W mg ms ml → Q (.ref r) H') :
    sp__law_draw K [.ref p, .int (ms - 1)] Hd (fun y H2 => ∃ x, y = .int x ∧
      if mg < G then Q (.ref r) H2
      else CMul 4 (2 + x) ∧ CMul (4 * (2 + x)) G ∧
          if 4 * (2 + x) * G < low + 1 then Q (V.ref r) H2
          else sp__law_span K [V.ref p, V.int G, V.int (2 + x), V.int low] H2 (fun x_4 H1 => tyV K "list" (V.ref r) H1 ∧ ∀ (p_2 : Addr), H1 p_2 = none →
            ∃ x_5, upd H1 p_2 (HO.tup [V.int G, V.int (2 + x), x_4]) r = some (HO.lst x_5) ∧ x_5.length < sizeLine ∧
              drInv p l r mg ms ml H (i + 1) [some (V.ref p), some (V.int mg), some (V.int ms), some (V.int ml), some (V.ref r), some (V.int G), some x_4, some (V.int (0 + ↑i)), some (V.int (2 + x))] (upd (upd H1 p_2 (HO.tup [V.int G, V.int (2 + x), x_4])) r (HO.lst (x_5 ++ [V.ref p_2])))) E0) E0 := by
  refine draw (K := K) hpd (by omega) (log_small (by omega) (by omega)) fun s Hf s3 hpf d1 d2 => ⟨s, rfl, ?_⟩
  have h8 : 4 * 2 * 1 ≤ 4 * (2 + s) * G := Int.mul_le_mul (by omega) (by omega) (by omega) (by omega)
  have scf := sc.trans s3
  have hrf := RowsAt.sameP hpd hrc s3 ap.1 ap.2
  refine ite2 (fun e => ?_) fun e => ⟨.inr ⟨by omega, by omega⟩, .inr ⟨by omega, by omega⟩, ite2 (fun e2 => ?_) fun e2 => ?_⟩
  · exact q r W Hf scf hpf hr hrf (hGd.elim (fun z => by omega) fun z => z.1) ⟨bg, bs, hml⟩
  · exact q r W Hf scf hpf hr hrf (hGd.elim (fun z => by obtain ⟨_, z2, z3⟩ := z; subst z2 z3; omega) fun z => z.1) ⟨bg, bs, hml⟩
  · refine ⟨p, l, G, 2 + s, low, rfl, hpf, by omega, by omega, by omega, by omega, fun x Hg s4 hpg x1 x2 x3 => ?_⟩
    have hrg := RowsAt.sameP hpf hrf s4 ap.1 ap.2
    obtain ⟨ts, ha, hb, hc⟩ := hrg
    refine ⟨.inl ⟨rfl, _, SqL.of ha⟩, fun t ht => ?_⟩
    have s5 : Same Hg (upd Hg t (.tup [.int G, .int (2 + s), .int x])) := Same.new ht
    refine ⟨ts.map V.ref, s5 _ _ ha, ?_, ?_⟩
    · have : sizeLine = 16777216 := rfl
      rw [List.length_map]
      omega
    · have hx : x ≤ 4 * (2 + s) * G := by
        rcases x3 (by omega) with z | z <;> omega
      have hlow : low < x := x2
      have hW4 : W.length ≤ 4 := by omega
      have hlen : (W ++ [(⟨G, 2 + s, x⟩ : Lv)]).length = i + 1 := by simp [hWi]
      refine ⟨W ++ [⟨G, 2 + s, x⟩], G, x, _, _, rfl, SameP.updf ((scf.trans s4).step s5) hr, (hpg.new ht).updr ap, RowsAt.snoc (s5 _ _ ha) hb (fun i t q => s5 _ _ (hc i t q)) (updS _ _ _), ⟨hlen, fun z => by omega, fun _ => ?_, fun j hj => ?_, fun j hj => ?_⟩⟩
      · have e1 : lv (W ++ [(⟨G, 2 + s, x⟩ : Lv)]) (i + 1 - 1) = ⟨G, 2 + s, x⟩ := by rw [Nat.add_sub_cancel, ← hWi]; exact lv_app_eq
        rw [e1]
        refine ⟨ROk.snoc ?_ hW4 (by omega) (by omega) (by omega) (by omega) x1 hx, rfl, rfl, by omega⟩
        exact hGd.elim (fun z => .inl ⟨z.1, z.2.1⟩) fun z => .inr ⟨z.1, z.2.1, by have := z.2.2; omega⟩
      · rcases Nat.lt_or_ge j W.length with h | h
        · rw [lv_app_lt h]; exact bg j h
        · obtain rfl : j = W.length := by omega
          rw [lv_app_eq]; show G ≤ mg; omega
      · rcases Nat.lt_or_ge j W.length with h | h
        · rw [lv_app_lt h]; exact bs j h
        · obtain rfl : j = W.length := by omega
          rw [lv_app_eq]; show 2 + s ≤ ms; omega
def t__law_draw_rows (K : Frag) (w : World) : TS :=
  (tSeq (tPar3 4 5 6 (tCons (tLst tNil) (tCons (tC (.int 1)) (tCons (tC (.int 1)) tNil))))
  (tSeq (tFor (iRng1 (tCons (tOp oAdd (tC (.int 1)) (tFn (sp__law_draw K) E0 (tCons (tVar 0) (tCons (tVar 3) tNil)))) tNil)) (gName 7)
    (tSeq (tIfS (tTest (tOp oGt (tVar 7) (tC (.int 0)))) (tAsg (tOp oMul (tVar 5) (tOp rIxLH (tLst (tCons (tC (.int 2)) (tCons (tC (.int 3)) (tCons (tC (.int 4)) (tCons (tC (.int 2)) (tCons (tC (.int 5)) (tCons (tC (.int 6)) (tCons (tC (.int 1)) (tCons (tC (.int 8)) tNil))))))))) (tFn (sp__law_draw K) E0 (tCons (tVar 0) (tCons (tC (.int 8)) tNil))))) (gName 5)) tNext)
  (tSeq (tAsg (tOp oAdd (tC (.int 2)) (tFn (sp__law_draw K) E0 (tCons (tVar 0) (tCons (tOp oSub (tVar 2) (tC (.int 1))) tNil)))) (gName 8))
  (tSeq (tIfS (tOr (tTest (tOp oGt (tVar 5) (tVar 1))) (tTest (tOp oGt (tOp oAdd (tVar 6) (tC (.int 1))) (tOp oMul (tOp oMul (tC (.int 4)) (tVar 8)) (tVar 5))))) (tRet (tVar 4)) tNext)
  (tSeq (tAsg (tFn (sp__law_span K) E0 (tCons (tVar 0) (tCons (tVar 5) (tCons (tVar 8) (tCons (tVar 6) tNil))))) (gName 6))
  (tDrop (tBM K "list" rAppend (tVar 4) (tCons (tTup (tCons (tVar 5) (tCons (tVar 8) (tCons (tVar 6) tNil)))) tNil))))))))
  (tRet (tVar 4))))
def n__law_draw_rows : List Str := ["_law_pool", "_law_most_grain", "_law_most_slots", "_law_most_levels", "_law_rows", "_law_grain", "_law_low", "_law_k", "_law_slots"]
theorem rd__law_draw_rows (vs : List V) (H : Hp) (Q : VK) (E : XK) (h : sp__law_draw_rows K vs H Q E) : t__law_draw_rows K w { nx := fun _ H' => Q .non H', rt := Q } (L2.start n__law_draw_rows vs) H := by
  obtain ⟨p, l, mg, ms, ml, rfl, hp, m1, m2, m3, m4, m5, m6, q⟩ := h
  unfold t__law_draw_rows n__law_draw_rows tPar3 tBM rAppend
  walk_at "rsl2"
  intro r hr
  have ap := hp.apart hr
  have hp0 := hp.new (o := .lst []) hr
  refine ⟨_, rfl, _, rfl, draw (K := K) hp0 (by omega) (log_small (by omega) (by omega)) fun n0 H0 s0 hp1 n1 n2 => ⟨_, _, rfl, rfl, _, rfl, by omega, by omega, for_range
    (drInv p l r mg ms ml H)
    ⟨[], 1, 1, none, none, rfl, ((SameP.refl p l H).step (Same.new hr)).trans s0, hp1, ⟨[], s0 _ _ ap.1 ap.2 (updS _ _ _), rfl, fun i t e => by simp at e⟩, ⟨rfl, fun _ => ⟨rfl, rfl⟩, fun z => by omega, fun j z => by simp at z, fun j z => by simp at z⟩⟩ ?_ ?_⟩⟩
  · rintro i σ Hc hi ⟨W, g, low, v7, v8, rfl, sc, hpc, hrc, hG⟩
    have hWi := hG.len
    walk_at "rsl2"
    refine ite2 (fun h0 => ⟨by decide, ?_⟩) fun h0 => ?_
    · obtain ⟨hRk, hg, hlow, hg2⟩ := hG.p (by omega)
      have hall := hRk.ok.all (i - 1) (by omega)
      intro r1 hr1
      refine drawAt hpc hr1 (by decide) (by decide) rfl fun i1 x1 Hd s1 hpd _ a1 b1 c1 => ?_
      obtain ⟨f, hf, hfe⟩ := atInts (xs := [2, 3, 4, 2, 5, 6, 1, 8]) a1 b1
      obtain rfl : x1 = .int f := by
        have : atI ([2, 3, 4, 2, 5, 6, 1, 8].map V.int) i1 = some x1 := c1
        rw [hfe] at this
        exact (Option.some.inj this).symm
      have hf1 : 1 ≤ f ∧ f ≤ 8 := by
        simp at hf
        omega
      have hG1 : 1 * 1 ≤ g * f := Int.mul_le_mul (by omega) hf1.1 (by omega) (by omega)
      have hG2 : g * f ≤ 1000 * 8 := Int.mul_le_mul (by omega) hf1.2 (by omega) (by omega)
      have hGd : W.length = 0 ∧ g * f = 1 ∧ low = 1 ∨ ROk W ∧ (lv W (W.length - 1)).g ∣ g * f ∧ low = (lv W (W.length - 1)).p := .inr ⟨hRk, by rw [hWi, ← hg]; exact Int.dvd_mul_right _ _, by rw [hWi]; exact hlow⟩
      have sc := sc.trans s1
      have hrc := RowsAt.sameP hpc hrc s1 ap.1 ap.2
      refine ⟨f, rfl, .inr ⟨by omega, by omega⟩, ?_⟩
      generalize g * f = G at hG1 hG2 hGd ⊢
      exact rows_rest ap hr hpd sc hrc hWi (by omega) m1 m2 m3 m4 hG1 hG2 hGd hG.bg hG.bs (by omega) q
    · obtain ⟨hg1, hlow1⟩ := hG.z (by omega)
      exact rows_rest ap hr hpc sc hrc hWi (by omega) m1 m2 m3 m4 (by omega) (by omega) (.inl ⟨by omega, hg1, hlow1⟩) hG.bg hG.bs (by omega) q
  · rintro σ H1 ⟨W, g, low, v7, v8, rfl, sc, hpc, hrc, hG⟩
    exact ⟨_, rfl, q r W H1 sc hpc hr hrc (hG.p (by omega)).1 ⟨hG.bg, hG.bs, by have := hG.len; omega⟩⟩
end
end Tw
/-! Tw: spots as data -/
namespace Tw
open PySem PySem.Spec PyProof.Rows L2 He TwM
open PySem.W (Frag)
section
variable {K : Frag} {H : Hp}
def dSp : Option Spot → PyData
  | none => .none
  | some sp => .tuple [.int sp.lv, .int sp.pt, .int sp.due]
theorem OSp.dp {v : V} {o : Option Spot} (h : OSp H v o) : Dp K H v (dSp o) := by
  cases o with
  | none =>
    have e : v = .non := h
    subst e
    exact .non
  | some sp =>
    obtain ⟨p, rfl, hp⟩ := h
    exact .tup (SqT.of hp) (.cons (.int _) (.cons (.int _) (.cons (.int _) .nil)))
theorem OSps.dp : ∀ {xs : List V} {os : List (Option Spot)}, OSps H xs os → DpAll K H xs (os.map dSp)
  | [], [], _ => .nil
  | [], _ :: _, h => by have := h.1; simp at this
  | _ :: _, [], h => by have := h.1; simp at this
  | x :: xs, o :: os, h => .cons (h.2 0 x o rfl rfl).dp (OSps.dp (xs := xs) (os := os) ⟨by have := h.1; simpa using this, fun i v q e1 e2 => h.2 (i + 1) v q (by simpa using e1) (by simpa using e2)⟩)
theorem dSp_lay (o : Option Spot) : (dSp o).canLay0 = true := by cases o <;> rfl
theorem dSp_depth (o : Option Spot) : (dSp o).depth ≤ 1 := by
  cases o with
  | none => exact Nat.zero_le _
  | some sp => exact Nat.le_refl _
theorem lay_all : ∀ os : List (Option Spot), PyData.canLayAll0 (os.map dSp) = true
  | [] => rfl
  | o :: os => by
    show ((dSp o).canLay0 && PyData.canLayAll0 (os.map dSp)) = true
    rw [dSp_lay, lay_all os]
    rfl
theorem depth_all : ∀ os : List (Option Spot), PyData.depthAll (os.map dSp) ≤ 1
  | [] => Nat.zero_le _
  | o :: os => by
    show max (dSp o).depth (PyData.depthAll (os.map dSp)) ≤ 1
    have := dSp_depth o
    have := depth_all os
    omega
theorem shaped_list (os : List (Option Spot)) : SeqAt.shaped (.list (os.map dSp)) = true := by
  unfold SeqAt.shaped
  rw [show (PyData.list (os.map dSp)).canLay0 = PyData.canLayAll0 (os.map dSp) from rfl, lay_all]
  have := depth_all os
  exact decide_eq_true (show PyData.depthAll (os.map dSp) + 1 ≤ 64 by omega)
theorem shaped_sp (o : Option Spot) : SeqAt.shaped (dSp o) = true := by
  unfold SeqAt.shaped
  rw [dSp_lay]
  exact decide_eq_true (Nat.le_trans (dSp_depth o) (by decide))
theorem eqv_nil (os : List (Option Spot)) : PyData.eqv (.list (os.map dSp)) (.list []) = os.isEmpty := by
  cases os with
  | nil => rfl
  | cons o os => rfl
end
/-- what a waiting timer is after a lump -/
def passM (W : List Lv) (B : Bk) (sp : Spot) (before now : Int) (mode : Str) : Option Spot :=
  if mode = "each" then
    match fol W B (some now) (mu sp before) sp before 0 with
    | some r => r.1
    | none => none
  else
    match (visited W B sp (if mode = "last" then now - 1 else before) now).getLast? with
    | none => some sp
    | some o => o
end Tw
/-! Tw: walks from visit to visit; lumps of one length -/
namespace Tw
open TwM
section
variable {W : List Lv} {B : Bk}
/-- a timer from visit to visit, until it fires at T -/
inductive Walks (W : List Lv) (B : Bk) : Spot → Int → Int → Prop
  | fired {sp : Spot} {tick : Int} : (visited W B sp (va (lv W sp.lv) sp.pt tick - 1) (va (lv W sp.lv) sp.pt tick)).getLast? = some none → Walks W B sp tick (va (lv W sp.lv) sp.pt tick)
  | on {sp sp' : Spot} {tick T : Int} : (visited W B sp (va (lv W sp.lv) sp.pt tick - 1) (va (lv W sp.lv) sp.pt tick)).getLast? = some (some sp') → Walks W B sp' (va (lv W sp.lv) sp.pt tick) T → Walks W B sp tick T
theorem Walks.eq {sp : Spot} {tick T T' : Int} (h : Walks W B sp tick T) (h' : Walks W B sp tick T') : T = T' := by
  induction h with
  | fired e =>
    cases h' with
    | fired _ => rfl
    | on e' _ => rw [e] at e'; cases e'
  | on e _ ih =>
    cases h' with
    | fired e' => rw [e] at e'; cases e'
    | on e' q => rw [e] at e'; cases e'; exact ih q
theorem skipped_no {sp : Spot} {tick : Int} {lim : Option Int} (h : sp.due - tick < reach W) : skipped W sp tick lim = (0, 0) := by
  unfold skipped
  rw [if_pos (.inr h)]
/-- below the range nothing is leapt over -/
theorem fol_walks (ok : WOk W) : ∀ (n : Nat) {sp : Spot} {tick mv : Int} {r : Res}, fol W B none n sp tick mv = some r → sp.due - tick ≤ reach W → sp.lv < W.length → Walks W B sp tick r.2.1
  | 0, _, _, _, _, h, _, _ => by cases h
  | n + 1, sp, tick, mv, r, h, hr, hl => by
    have hall := ok.all _ hl
    have hgt := va_gt (l := lv W sp.lv) (by omega) (by omega) sp.pt tick
    unfold fol at h
    dsimp only at h
    rw [if_neg (by unfold over; exact Bool.false_ne_true)] at h
    cases hq : (visited W B sp (va (lv W sp.lv) sp.pt tick - 1) (va (lv W sp.lv) sp.pt tick)).getLast? with
    | none => rw [hq] at h; cases h
    | some o =>
      rw [hq] at h
      cases o with
      | none => cases h; exact .fired hq
      | some sp' =>
        dsimp only at h
        obtain ⟨c1, c2, c3, c4⟩ := visGo_last ok _ hq
        rw [skipped_no (by rw [c2]; omega), if_neg (by decide)] at h
        exact .on hq (fol_walks ok n h (by rw [c2]; omega) c1)
theorem va_most {l : Lv} (hg : 0 < l.g) (hs : 0 < l.s) (pt now : Int) : va l pt now ≤ now + l.s * l.g := by
  unfold va
  have h1 := Int.emod_lt_of_pos (pt - now / l.g - 1) hs
  have h2 : (now / l.g + 1 + (pt - now / l.g - 1) % l.s) * l.g ≤ (now / l.g + l.s) * l.g := Int.mul_le_mul_of_nonneg_right (by omega) (by omega)
  have h3 := Int.ediv_mul_le now (b := l.g) (by omega)
  have h4 := Int.add_mul (now / l.g) l.s l.g
  omega
theorem va_step (ok : WOk W) {i : Nat} (hi : i < W.length) (pt now : Int) : now < va (lv W i) pt now ∧ va (lv W i) pt now ≤ now + 100000 := by
  have hall := ok.all _ hi
  refine ⟨va_gt (by omega) (by omega) pt now, ?_⟩
  have h1 := va_most (l := lv W i) (by omega) (by omega) pt now
  have h2 : (lv W i).s * (lv W i).g ≤ 100 * 1000 := Int.mul_le_mul (by omega) (by omega) (by omega) (by omega)
  omega
theorem mu_step {sp sp' : Spot} {tick t bf : Int} (ok : WOk W) (ht : tick < t) (hq : (visited W B sp bf t).getLast? = some (some sp')) : mu sp' t + 1 ≤ mu sp tick ∧ sp'.lv < W.length ∧ sp'.due = sp.due := by
  obtain ⟨c1, c2, c3, c4⟩ := visGo_last ok _ hq
  refine ⟨?_, c1, c2⟩
  have h0 : sp.lv ≠ 0 := fun e => by
    have := visGo_zero (W := W) (B := B) (before := bf) (now := t) (order W B) e (some sp') (List.mem_of_getLast? hq)
    cases this
  unfold mu
  rw [if_neg h0]
  split
  · omega
  · rename_i hz
    rcases c4 with ⟨d1, d2⟩ | ⟨d1, d2⟩
    · rw [c2]; omega
    · exact absurd (by rw [d2]) hz
theorem Walks.bound (ok : WOk W) {sp : Spot} {tick T : Int} (h : Walks W B sp tick T) (hl : sp.lv < W.length) : tick < T ∧ T ≤ tick + 100000 * (mu sp tick : Int) := by
  induction h with
  | @fired sp tick e =>
    have hs := va_step ok hl sp.pt tick
    have : 1 ≤ mu sp tick := by unfold mu; split <;> omega
    omega
  | @on sp sp' tick T e q ih =>
    have hs := va_step ok hl sp.pt tick
    have hm := mu_step ok hs.1 e
    have := ih hm.2.1
    omega
/-- lumps of one length: nx tells the end of the next lump that visits, bf its beginning -/
inductive Beats (W : List Lv) (B : Bk) (nx : Lv → Int → Int → Option Int → Prop) (bf : Int → Int) : Spot → Int → Option Int → Prop
  | lost {sp : Spot} {tick : Int} : nx (lv W sp.lv) sp.pt tick none → Beats W B nx bf sp tick none
  | fired {sp : Spot} {tick t : Int} : nx (lv W sp.lv) sp.pt tick (some t) → (visited W B sp (bf t) t).getLast? = some none → Beats W B nx bf sp tick (some t)
  | on {sp sp' : Spot} {tick t : Int} {o : Option Int} : nx (lv W sp.lv) sp.pt tick (some t) → (visited W B sp (bf t) t).getLast? = some (some sp') → Beats W B nx bf sp' t o → Beats W B nx bf sp tick o
theorem Beats.one {nx : Lv → Int → Int → Option Int → Prop} {bf : Int → Int} (ok : WOk W) (hx : ∀ i pt tick o, i < W.length → nx (lv W i) pt tick o → o = some (va (lv W i) pt tick)) (hb : ∀ t, bf t = t - 1) {sp : Spot} {tick : Int} {o : Option Int}
    (h : Beats W B nx bf sp tick o) (hl : sp.lv < W.length) : ∃ T, o = some T ∧ Walks W B sp tick T := by
  induction h with
  | lost e => have := hx _ _ _ _ hl e; cases this
  | @fired sp tick t e q =>
    obtain rfl := Option.some.inj (hx _ _ _ _ hl e)
    rw [hb] at q
    exact ⟨_, rfl, .fired q⟩
  | @on sp sp' tick t o e q z ih =>
    obtain rfl := Option.some.inj (hx _ _ _ _ hl e)
    rw [hb] at q
    obtain ⟨c1, c2, c3, c4⟩ := visGo_last ok _ q
    obtain ⟨T, rfl, hT⟩ := ih c1
    exact ⟨T, rfl, .on q hT⟩
/-- a lump that reaches beyond a visit visits -/
theorem isVis_in {l : Lv} {pt v bf now : Int} (hg : 0 < l.g) (hs : 0 < l.s) (h : l.g * l.s ∣ v - pt * l.g) (h1 : bf < v) (h2 : v ≤ now) : isVis l pt bf now = true := by
  obtain ⟨j, hj⟩ := h
  have e : v = (pt + l.s * j) * l.g := by rw [Int.add_mul, Int.mul_comm (l.s * j) l.g, ← Int.mul_assoc]; omega
  unfold isVis
  have h3 : bf / l.g < pt + l.s * j := Int.ediv_lt_of_lt_mul hg (by omega)
  have h4 : pt + l.s * j ≤ now / l.g := Int.le_ediv_of_mul_le hg (by omega)
  have h5 : (pt - bf / l.g - 1) % l.s = (pt + l.s * j - bf / l.g - 1) % l.s := by
    rw [show pt + l.s * j - bf / l.g - 1 = (pt - bf / l.g - 1) + l.s * j by omega, Int.add_mul_emod_self_left]
  have h6 : (pt + l.s * j - bf / l.g - 1) % l.s ≤ pt + l.s * j - bf / l.g - 1 := by
    have := Int.emod_def (pt + l.s * j - bf / l.g - 1) l.s
    have h7 : 0 ≤ (pt + l.s * j - bf / l.g - 1) / l.s := Int.ediv_nonneg (by omega) (by omega)
    have h8 : 0 ≤ l.s * ((pt + l.s * j - bf / l.g - 1) / l.s) := Int.mul_nonneg (by omega) h7
    omega
  rw [h5]
  exact decide_eq_true (by omega)
theorem va_dvd {l : Lv} (hs : 0 < l.s) (pt now : Int) : l.g * l.s ∣ va l pt now - pt * l.g := by
  unfold va
  have e := Int.emod_def (pt - now / l.g - 1) l.s
  refine ⟨-((pt - now / l.g - 1) / l.s), ?_⟩
  rw [e, ← Int.sub_mul, Int.mul_neg, Int.mul_assoc, ← Int.mul_neg, Int.mul_comm l.g]
  congr 1
  generalize l.s * ((pt - now / l.g - 1) / l.s) = z
  omega
/-- the first tick of a slot's ticks after a tick -/
theorem va_uniq {l : Lv} (hg : 0 < l.g) (hs : 0 < l.s) {pt tick k : Int} (h1 : 1 ≤ k) (h2 : k ≤ l.g * l.s) (h : l.g * l.s ∣ tick + k - pt * l.g) : tick + k = va l pt tick := by
  have a := va_dvd (l := l) hs pt tick
  have b := va_gt (l := l) hg hs pt tick
  have c := va_most (l := l) hg hs pt tick
  rw [Int.mul_comm l.s] at c
  have d := Int.dvd_sub h a
  rw [show tick + k - pt * l.g - (va l pt tick - pt * l.g) = tick + k - va l pt tick by omega] at d
  generalize l.g * l.s = m at *
  obtain ⟨z, hz⟩ := d
  have hz0 : z = 0 := by
    rcases Int.lt_trichotomy z 0 with q | q | q
    · have : m * z ≤ m * (-1) := Int.mul_le_mul_of_nonneg_left (by omega) (by omega)
      omega
    · exact q
    · have : m * 1 ≤ m * z := Int.mul_le_mul_of_nonneg_left (by omega) (by omega)
      omega
  rw [hz0] at hz
  omega
end
end Tw
/-! Tw: a walk that leaps tells what a walk from visit to visit tells -/
namespace Tw
open TwM
section
variable {W : List Lv} {B : Bk} {lim : Option Int}
/-- from visit to visit, without leaps -/
def wl (W : List Lv) (B : Bk) (lim : Option Int) : Nat → Spot → Int → Int → Option Res
  | 0, _, _, _ => none
  | n + 1, sp, tick, mv =>
    let t := va (lv W sp.lv) sp.pt tick
    if over lim t = true then some (some sp, tick, mv)
    else
      let found := visited W B sp (t - 1) t
      match found.getLast? with
      | none => none
      | some none => some (none, t, mv + found.length - 1)
      | some (some sp') => wl W B lim n sp' t (mv + found.length)
theorem wl_ends (ok : WOk W) (B : Bk) (lim : Option Int) : ∀ (n : Nat) (sp : Spot) (tick mv : Int), sp.lv < W.length → mu sp tick ≤ n → ∃ r, wl W B lim n sp tick mv = some r
  | 0, sp, tick, mv, _, h => by unfold mu at h; split at h <;> omega
  | n + 1, sp, tick, mv, hl, h => by
    have hgt := va_step ok hl sp.pt tick
    unfold wl
    dsimp only
    split
    · exact ⟨_, rfl⟩
    · cases hq : (visited W B sp (va (lv W sp.lv) sp.pt tick - 1) (va (lv W sp.lv) sp.pt tick)).getLast? with
      | none => exact absurd (List.getLast?_eq_none_iff.mp hq) (visited_ne ok hl tick)
      | some o =>
        cases o with
        | none => exact ⟨_, rfl⟩
        | some sp' =>
          obtain ⟨m1, m2, m3⟩ := mu_step ok hgt.1 hq
          exact wl_ends ok B lim n sp' _ _ m2 (by omega)
theorem wl_mono : ∀ (n : Nat) {sp : Spot} {tick mv : Int} {r : Res}, wl W B lim n sp tick mv = some r → ∀ m, n ≤ m → wl W B lim m sp tick mv = some r
  | 0, _, _, _, _, h, _, _ => by cases h
  | n + 1, sp, tick, mv, r, h, m, hm => by
    obtain ⟨m, rfl⟩ : ∃ k, m = k + 1 := ⟨m - 1, by omega⟩
    unfold wl at h ⊢
    dsimp only at h ⊢
    split at h
    · rename_i h1
      rw [if_pos h1]; exact h
    · rename_i h1
      rw [if_neg h1]
      split at h
      · cases h
      · exact h
      · exact wl_mono n h m (by omega)
theorem wl_eq {n m : Nat} {sp : Spot} {tick mv : Int} {r r' : Res} (h : wl W B lim n sp tick mv = some r) (h' : wl W B lim m sp tick mv = some r') : r = r' := by
  have e1 := wl_mono n h (max n m) (Nat.le_max_left _ _)
  have e2 := wl_mono m h' (max n m) (Nat.le_max_right _ _)
  rw [e1] at e2
  exact Option.some.inj e2
/-- a timer beyond the range lies in the last level -/
def Proper (W : List Lv) (sp : Spot) (tick : Int) : Prop := reach W ≤ sp.due - tick → sp.lv = W.length - 1
theorem le_reach (ok : WOk W) {i : Nat} (hi : i < W.length) : (lv W i).p ≤ reach W := by
  unfold reach
  rcases Nat.lt_or_ge i (W.length - 1) with h | h
  · have := asc_le ok (W.length - 1 - i - 1) i (by omega)
    rw [show i + (W.length - 1 - i - 1) + 1 = W.length - 1 by omega] at this
    omega
  · rw [show i = W.length - 1 by omega]; exact Int.le_refl _
theorem spotAt_far (ok : WOk W) {now rest due : Int} (h : reach W ≤ rest) : spotAt W B now rest due = ⟨W.length - 1, rnd B.up (now + reach W - 1) (lv W (W.length - 1)).g, due⟩ := by
  unfold spotAt
  rw [levelOf_isN fun j hj => Int.le_trans (le_reach ok hj) h]
theorem spotAt_proper (ok : WOk W) (now due : Int) : Proper W (spotAt W B now (due - now) due) now := fun h => by
  rw [spotAt_due] at h
  rw [spotAt_far ok h]
theorem visGo_not {b n : Int} : ∀ (is rest : List Nat) {sp : Spot}, sp.lv ∉ is → visGo W B b n (is ++ rest) sp = visGo W B b n rest sp
  | [], _, _, _ => rfl
  | i :: is, rest, sp, h => by
    rw [List.mem_cons, not_or] at h
    rw [List.cons_append]
    show (if _ then _ else _) = _
    rw [if_neg (fun z => h.1 z.1)]
    exact visGo_not is rest h.2
theorem visGo_out {b n : Int} (is : List Nat) {sp : Spot} (h : sp.lv ∉ is) : visGo W B b n is sp = [] := by
  have := visGo_not (W := W) (B := B) (b := b) (n := n) is [] h
  rw [List.append_nil] at this
  rw [this]; rfl
/-- a visit of a timer that stays beyond the range -/
theorem visit_far (ok : WOk W) (hf : B.fire = false) {sp : Spot} (h1 : 1 < W.length) (hl : sp.lv = W.length - 1) {t : Int} (hv : isVis (lv W sp.lv) sp.pt (t - 1) t = true) (hr : reach W ≤ sp.due - t) :
    visited W B sp (t - 1) t = [some (spotAt W B t (sp.due - t) sp.due)] := by
  have hre : 2 ≤ reach W := (ok.all (W.length - 1) (by omega)).2.2.2.2
  have ht : taken W B sp t = some (spotAt W B t (sp.due - t) sp.due) := by
    unfold taken
    rw [if_neg (by rw [hl, hf]; rintro (z | z); omega; cases z), if_pos (by omega)]
  have hs : (spotAt W B t (sp.due - t) sp.due).lv = W.length - 1 := by rw [spotAt_far ok hr]
  obtain ⟨k, hk⟩ : ∃ k, W.length = k + 1 := ⟨W.length - 1, by omega⟩
  have hlk : sp.lv = k := by omega
  have step : ∀ is, k ∉ is → visGo W B (t - 1) t (k :: is) sp = [some (spotAt W B t (sp.due - t) sp.due)] := fun is hi => by
    show (if _ then _ else _) = _
    rw [if_pos ⟨hlk, by rw [← hlk]; exact hv⟩, ht]
    show _ :: visGo W B (t - 1) t is _ = _
    rw [visGo_out is (by rw [hs, show W.length - 1 = k by omega]; exact hi)]
  unfold visited order
  split
  · rw [hk, List.range_succ, List.reverse_append]
    exact step _ (by simp)
  · rw [hk, List.range_succ, visGo_not _ _ (by rw [hlk]; simp)]
    exact step [] (by simp)
/-- so many visits beyond the range -/
theorem wl_far (ok : WOk W) (hf : B.fire = false) (h1 : 1 < W.length) {due step : Int} : ∀ (j : Nat) {t mv : Int} (m : Nat), (lv W (W.length - 1)).g ∣ t → reach W ≤ due - t →
    va (lv W (W.length - 1)) (spotAt W B t (due - t) due).pt t = t + step → j * step ≤ due - t - reach W → (∀ l, lim = some l → t + j * step ≤ l) →
    wl W B lim (m + j) (spotAt W B t (due - t) due) t mv = wl W B lim m (spotAt W B (t + j * step) (due - (t + j * step)) due) (t + j * step) (mv + j)
  | 0, t, mv, m, _, _, _, _, _ => by simp
  | j + 1, t, mv, m, hg, hr, hs, hj, hlim => by
    have hall := ok.all (W.length - 1) (by omega)
    have hgt := va_gt (l := lv W (W.length - 1)) (by omega) (by omega) (spotAt W B t (due - t) due).pt t
    rw [hs] at hgt
    have hs0 : 0 < step := by omega
    have e1 : ((j + 1 : Nat) : Int) * step = j * step + step := by rw [Int.natCast_add, Int.add_mul]; simp
    rw [e1] at hj hlim
    have hj0 : 0 ≤ (j : Int) * step := Int.mul_nonneg (by omega) (by omega)
    have hfar := spotAt_far (B := B) ok (now := t) (due := due) hr
    have hlv : (spotAt W B t (due - t) due).lv = W.length - 1 := by rw [hfar]
    have hdu : (spotAt W B t (due - t) due).due = due := spotAt_due _ _ _ _ _
    have hgs : (lv W (W.length - 1)).g ∣ step := by
      have h2 : (lv W (W.length - 1)).g ∣ t + step := by rw [← hs]; exact Int.dvd_mul_left _ _
      have := Int.dvd_sub h2 hg
      rwa [show t + step - t = step by omega] at this
    have hvis : isVis (lv W (W.length - 1)) (spotAt W B t (due - t) due).pt (t + step - 1) (t + step) = true := by
      rw [← hs]; exact va_vis (by omega) (by omega) _ _
    have hv := visit_far ok hf h1 hlv (t := t + step) (by rw [hlv]; exact hvis) (by rw [hdu]; omega)
    rw [hdu] at hv
    have ho : over lim (t + step) = false := by
      cases hl : lim with
      | none => rfl
      | some l =>
        have := hlim l hl
        exact decide_eq_false (by omega)
    have hfar1 := spotAt_far (B := B) ok (now := t + step) (due := due) (rest := due - (t + step)) (by omega)
    have hs1 : va (lv W (W.length - 1)) (spotAt W B (t + step) (due - (t + step)) due).pt (t + step) = t + step + step := by
      have e2 : (spotAt W B (t + step) (due - (t + step)) due).pt = (spotAt W B t (due - t) due).pt + step / (lv W (W.length - 1)).g := by
        rw [hfar, hfar1]
        show rnd B.up (t + step + reach W - 1) _ = rnd B.up (t + reach W - 1) _ + _
        rw [show t + step + reach W - 1 = (t + reach W - 1) + step by omega]
        exact rnd_shiftD (by omega) hgs
      rw [e2, va_shift (by omega) hgs, hs]
    have ih := wl_far ok hf h1 (due := due) (step := step) j (t := t + step) (mv := mv + 1) m (Int.dvd_add hg hgs) (by omega) hs1 (by omega) (fun l hl => by have := hlim l hl; omega)
    rw [show m + (j + 1) = (m + j) + 1 by omega]
    show (let t0 := va (lv W (spotAt W B t (due - t) due).lv) (spotAt W B t (due - t) due).pt t; if over lim t0 = true then _ else _) = _
    dsimp only
    rw [hlv, hs, ho, if_neg Bool.false_ne_true, hv]
    show wl W B lim (m + j) (spotAt W B (t + step) (due - (t + step)) due) (t + step) (mv + ((1 : Nat) : Int)) = _
    rw [show mv + ((1 : Nat) : Int) = mv + 1 by simp, ih, e1]
    rw [show t + step + j * step = t + (j * step + step) by omega, show mv + 1 + (j : Int) = mv + ((j + 1 : Nat) : Int) by rw [Int.natCast_add]; omega]
theorem fol_wl (ok : WOk W) : ∀ (n : Nat) {sp : Spot} {tick mv : Int} {r : Res}, Proper W sp tick → sp.lv < W.length → fol W B lim n sp tick mv = some r → ∃ m, wl W B lim m sp tick mv = some r
  | 0, _, _, _, _, _, _, h => by cases h
  | n + 1, sp, tick, mv, r, hp, hl, h => by
    have hgt := va_step ok hl sp.pt tick
    have hall := ok.all _ hl
    have htd : (lv W sp.lv).g ∣ va (lv W sp.lv) sp.pt tick := Int.dvd_mul_left _ _
    unfold fol at h
    dsimp only at h
    by_cases ho : over lim (va (lv W sp.lv) sp.pt tick) = true
    · rw [if_pos ho] at h
      exact ⟨1, by unfold wl; dsimp only; rw [if_pos ho]; exact h⟩
    · rw [if_neg ho] at h
      have go : ∀ m sp', (visited W B sp (va (lv W sp.lv) sp.pt tick - 1) (va (lv W sp.lv) sp.pt tick)).getLast? = some (some sp') → wl W B lim m sp' (va (lv W sp.lv) sp.pt tick) (mv + (visited W B sp (va (lv W sp.lv) sp.pt tick - 1) (va (lv W sp.lv) sp.pt tick)).length) = some r →
          ∃ m, wl W B lim m sp tick mv = some r := fun m sp' hq hw => ⟨m + 1, by unfold wl; dsimp only; rw [if_neg ho, hq]; exact hw⟩
      cases hq : (visited W B sp (va (lv W sp.lv) sp.pt tick - 1) (va (lv W sp.lv) sp.pt tick)).getLast? with
      | none => rw [hq] at h; cases h
      | some o =>
        rw [hq] at h
        cases o with
        | none => exact ⟨1, by unfold wl; dsimp only; rw [if_neg ho, hq]; exact h⟩
        | some sp' =>
          dsimp only at h
          obtain ⟨c1, c2, c3, c4⟩ := visGo_last ok _ hq
          have h0 : sp.lv ≠ 0 := fun e => by
            have := visGo_zero (W := W) (B := B) (before := va (lv W sp.lv) sp.pt tick - 1) (now := va (lv W sp.lv) sp.pt tick) (order W B) e (some sp') (List.mem_of_getLast? hq)
            cases this
          have hre : 2 ≤ reach W := (ok.all (W.length - 1) (by omega)).2.2.2.2
          generalize va (lv W sp.lv) sp.pt tick = t at *
          have hp' : Proper W sp' t := fun z => by
            rcases c4 with ⟨d1, d2⟩ | ⟨d1, d2⟩
            · rw [c2] at z
              rw [d2, spotAt_far ok z]
            · omega
          split at h
          · rename_i hk
            obtain ⟨k1, k2, k3, k4⟩ := skipped_pos hk
            have hstep : 0 < (skipped W sp' t lim).2 := by
              have := va_step ok c1 sp'.pt t
              omega
            have hlim : ∀ l, lim = some l → t + (skipped W sp' t lim).1 * (skipped W sp' t lim).2 ≤ l := fun l hl => by
              have e : (skipped W sp' t lim).1 ≤ (l - t) / (skipped W sp' t lim).2 := by
                subst hl
                unfold skipped at hk ⊢
                split
                · rename_i z; rw [if_pos z] at hk; simp at hk
                · exact Int.min_le_right _ _
              have := Int.mul_le_of_le_ediv hstep e
              omega
            have hfit : (skipped W sp' t lim).1 * (skipped W sp' t lim).2 ≤ sp'.due - t - reach W := by
              rw [← k3] at k4
              exact Int.mul_le_of_le_ediv hstep k4
            generalize hK : (skipped W sp' t lim).1 = K at *
            generalize hS : (skipped W sp' t lim).2 = step at *
            obtain ⟨j, rfl⟩ : ∃ j : Nat, K = (j : Int) := ⟨K.toNat, by omega⟩
            have hprop : Proper W (spotAt W B (t + j * step) (sp'.due - (t + j * step)) sp'.due) (t + j * step) := spotAt_proper ok _ _
            obtain ⟨m, hm⟩ := fol_wl ok n hprop (spotAt_lt ok _ _ _ _) h
            have hsl : sp.lv = W.length - 1 := hp (by rw [← c2]; omega)
            have hsp' : sp' = spotAt W B t (sp'.due - t) sp'.due := by
              rcases c4 with ⟨d1, d2⟩ | ⟨d1, d2⟩
              · rw [c2]; exact d2
              · rw [c2] at k2; omega
            have hva : va (lv W (W.length - 1)) (spotAt W B t (sp'.due - t) sp'.due).pt t = t + step := by
              rw [← hsp', ← k1]; omega
            have hw := wl_far (lim := lim) ok c3 (by omega) (due := sp'.due) (step := step) j (t := t) (mv := mv + (visited W B sp (t - 1) t).length) m (by rw [← hsl]; exact htd) k2 hva (by omega) hlim
            refine go (m + j) sp' hq ?_
            rw [← hsp'] at hw
            rw [hw]
            exact hm
          · obtain ⟨m, hm⟩ := fol_wl ok n hp' c1 h
            exact go m sp' hq hm
end
end Tw
/-! Tw: list(range(a, b)) at bounds of any size -/
namespace Tw
open PySem PySem.Spec PyProof.Rows L2
section
variable {prog : Program} {w : World} {A : Around} {E : Value → Shared → Prop} {s : Shared}
/-- the items of a long range go to a list -/
theorem extend_long {R : Result → Shared → Prop} {r S : Addr} {a b : Int} {t u v : Tok} {n c0 : Nat} {res : Value} (hh : A.handled = none) (hr : IsRange s.heap r a b 1 t u v) (hbig : Builtin.Range.small a b 1 = false) (hn : Builtin.Range.rangeSize a b 1 = n) (hlen : n ≤ 2 ^ 24)
    (hS : s.heap.get? S = some { cls := .type "list", data := .seq #[] c0 })
    (hR : ∀ h2 tk acc c2, (∀ x o, x ≠ S → s.heap.get? x = some o → h2.get? x = some o) → h2.get? S = some { cls := .type "list", dict := none, data := .seq acc c2, slots := #[] } → ItemsOf (fun i y => ∃ t, y = .int (a + i * 1) t) acc n → R (.ok (.ret res)) { s with heap := h2, toks := tk }) :
    wpAny (model prog w) A.in1 (Builtin.List.listExtendWith (.ref S) (.ref r) res) (fun fin t => match fin with | .done f => R (.ok f) t | .again q => q.quiet = true ∧ codeAny (model prog w) A q R t) (fun e t => R (.error e) t) s := by
  have nSr : S ≠ r := by
    rintro rfl
    rw [hr] at hS
    simp at hS
  have hlt := Heap.lt_size hS
  have nSI : S ≠ s.heap.objs.size := Nat.ne_of_lt hlt
  have loop : ∀ h c1 tk, IsLongIter h s.heap.objs.size (a + ((0 : Nat) : Int) * 1) ((n : Int) - ((0 : Nat) : Int)) 1 → (∀ x o, x ≠ S → s.heap.get? x = some o → h.get? x = some o) → h.get? S = some { cls := .type "list", data := .seq #[] c1 } →
      codeAny (model prog w) A (.builtin "list.extend.loop" ⟨[.ref S, .ref s.heap.objs.size, res], []⟩) R { s with heap := h, toks := tk } := by
    intro h c1 tk it keep hS1
    refine codeAny_extend_loopS (Walks.longrange (prog := prog) (w := w) (A := A.in1) hh s.heap.objs.size a 1 n).toS (by rw [sizeLine_eq]; omega) S (fun z => nSI (List.mem_singleton.mp z)) res n 0 _ #[] c1 rfl (Nat.zero_le _) it hS1 (ItemsOf.nil _) fun t2 acc c2 mv g1 g2 => ?_
    rw [Moved.eq_with mv]
    refine hR t2.heap t2.toks acc c2 (fun x o nx e => mv.heap x o (fun z => ?_) (keep x o nx e)) g1 g2
    rcases List.mem_cons.mp z with z | z
    · exact nx z
    · have := Heap.lt_size e
      rw [List.mem_singleton.mp z] at this
      exact Nat.lt_irrefl _ this
  unfold Builtin.List.listExtendWith
  refine wpAny_bind (wpAny_typeOf (T := "range") ⟨_, hr, rfl⟩ ?_)
  rw [show Builtin.List.listSameRef (.ref S) (.ref r) = false by simp [Builtin.List.listSameRef, nSr]]
  simp only [show (Value.type "range" == Value.type "list") = false by decide, show (Value.type "range" == Value.type "tuple") = false by decide, Bool.or_false, Bool.false_eq_true, if_false]
  refine wpAny_bind (wpAny_pyIter_longrange hr hbig (wpAny_bind (wpAny_holding (wpAny_hint_range (n := n) (Heap.get?_push_of_some _ hr) hn hlen ?_))))
  have it : IsLongIter (s.heap.push { cls := .type "longrange_iterator", data := .fields #[rawInt a, rawInt (Builtin.Range.rangeSize a b 1), rawInt 1] }) s.heap.objs.size (a + ((0 : Nat) : Int) * 1) ((n : Int) - ((0 : Nat) : Int)) 1 := by
    rw [hn]
    simpa using Heap.get?_push_size _ rfl
  have hS1 := Heap.get?_push_of_some { cls := .type "longrange_iterator", data := .fields #[rawInt a, rawInt (Builtin.Range.rangeSize a b 1), rawInt 1] } hS
  refine wpAny_ite_split (fun _ => wpAny_bind (wpAny_rule ?_)) fun _ => wpAny_pure ⟨plainId_quiet F.plain_extend_loop _, loop _ c0 _ it (fun x o _ e => Heap.get?_push_of_some _ e) hS1⟩
  refine wpAny_bind ?_
  show wpAny _ _ (updateSeq S (·.push .none) >>= fun _ => updateSeq S (·.pop)) _ _ _
  have hS2 := Heap.get?_update_self (Obj.mapSeq (·.push Value.none)) hS1 rfl
  refine wpAny_bind (wpAny_updateSeq hS1 rfl (wpAny_updateSeq (hz := by seq_fits) hS2 rfl (wpAny_pure ⟨plainId_quiet F.plain_extend_loop _, loop _ _ _ ?_ (fun x o nx e => ?_) (Heap.get?_update_self (Obj.mapSeq (·.pop)) hS2 rfl)⟩)))
  · exact (Heap.get?_update_other _ _ nSI).trans ((Heap.get?_update_other _ _ nSI).trans it)
  · exact (Heap.get?_update_other _ _ (Ne.symm nx)).trans ((Heap.get?_update_other _ _ (Ne.symm nx)).trans (Heap.get?_push_of_some _ e))
/-- list(range(a, b)), too long for a plain iterator -/
theorem call_list_long {Q : Value → Shared → Prop} {r : Addr} {a b : Int} {t u v : Tok} {n : Nat} (hh : A.handled = none) (hr : IsRange s.heap r a b 1 t u v) (hbig : Builtin.Range.small a b 1 = false) (hn : Builtin.Range.rangeSize a b 1 = n) (hlen : n ≤ 2 ^ 24)
    (hQ : ∀ h2 tk acc c2, (∀ x o, s.heap.get? x = some o → h2.get? x = some o) → h2.get? s.heap.objs.size = some { cls := .type "list", dict := none, data := .seq acc c2, slots := #[] } → ItemsOf (fun i y => ∃ t, y = .int (a + i * 1) t) acc n → Q (.ref s.heap.objs.size) { s with heap := h2, toks := tk }) :
    wpAny (model prog w) A (call (.type "list") [.ref r]) Q E s := by
  refine callType_codes (Q₁ := fun obj t => obj = .ref s.heap.objs.size ∧ t = { s with heap := s.heap.push { cls := .type "list", data := .seq #[] } }) F.called_list (F.typeCall_list_1 _) F.entry_list_init (code_list_new _ ⟨rfl, rfl⟩) ?_
  rintro obj t1 ⟨rfl, rfl⟩
  have hS : (s.heap.push { cls := .type "list", data := .seq #[] }).get? s.heap.objs.size = some { cls := .type "list", data := .seq #[] } := Heap.get?_push_size _ rfl
  have hr1 : IsRange (s.heap.push { cls := .type "list", data := .seq #[] }) r a b 1 t u v := Heap.get?_push_of_some _ hr
  have nr : r ≠ s.heap.objs.size := Nat.ne_of_lt (Heap.lt_size hr)
  refine ⟨⟨_, hS, rfl⟩, F.args_list_init_2 _ _, ?_⟩
  show wpAny _ _ (do let old ← Builtin.List.listItems (.ref s.heap.objs.size); Builtin.List.listUpdate (.ref s.heap.objs.size) (fun _ => #[]); letGo old.toList.reverse; Builtin.List.listExtendWith (.ref s.heap.objs.size) (.ref r) .none) _ _ _
  refine wpAny_bind ?_
  unfold Builtin.List.listItems
  refine wpAny_bind (wpAny_seqItems hS rfl (wpAny_pure ?_))
  show wpAny _ _ (updateSeq s.heap.objs.size (fun _ => #[]) >>= fun _ => letGo (#[] : Array Value).toList.reverse >>= fun _ => Builtin.List.listExtendWith (.ref s.heap.objs.size) (.ref r) .none) _ _ _
  refine wpAny_bind (wpAny_updateSeq hS rfl (wpAny_bind (wpAny_letGo ?_)))
  refine extend_long (A := A.in1) hh ((Heap.get?_update_other _ _ (Ne.symm nr)).trans hr1) hbig hn hlen (Heap.get?_update_self (Obj.mapSeq (fun _ => (#[] : Array Value))) hS rfl) fun h2 tk acc c2 k g1 g2 => ?_
  refine ⟨rfl, hQ h2 tk acc c2 (fun x o e => ?_) g1 g2⟩
  have nx : x ≠ s.heap.objs.size := Nat.ne_of_lt (Heap.lt_size e)
  exact k x o nx ((Heap.get?_update_other _ _ (Ne.symm nx)).trans (Heap.get?_push_of_some _ e))
end
section
variable {X : Cx} {e : Expr} {te : L2.St → Hp → (Int → Int → Hp → Prop) → Prop}
/-- list(range(a, b)): few items, bounds of any size -/
def tLstRgW (te : L2.St → Hp → (Int → Int → Hp → Prop) → Prop) : TE := fun σ H Q => te σ H fun a b H1 => b - a ≤ 10000000 ∧ ∀ q, H1 q = none → Q (.ref q) (upd H1 q (.lst (rgV a b)))
theorem pe_listRgW {p pos : Pos} (hc : X.calm = true) (hg : Gl X "list") (hm : X.mg "list" = none) (he : PRg X e te) (na : starEach [e] X.env = (false, eval e X.env) :: starEach [] X.env := by rfl) : PE X (.Call (.Name "list" p) [e] [] pos) (tLstRgW te) := by
  refine ⟨fun pins s σ H Q I h => Call_ (ld_blt I hg hm boot_list (PyProof.Rows.callWith_type1 (args_cons (thn (he pins s σ H _ I h) ?_) na) na))⟩
  rintro x s1 ⟨r, a, b, t, u, v, H1, rfl, hr, I1, ok, q⟩
  refine args_nil ?_
  have fin : ∀ h2 tk acc c2, (∀ x o, s1.heap.get? x = some o → h2.get? x = some o) → h2.get? s1.heap.objs.size = some { cls := .type "list", dict := none, data := .seq acc c2, slots := #[] } → ItemsOf (fun i y => ∃ t, y = .int (a + i * 1) t) acc (b - a).toNat →
      EP X pins σ Q (.ref s1.heap.objs.size) { s1 with heap := h2, toks := tk } := fun h2 tk acc c2 k g1 g2 =>
    ⟨.ref s1.heap.objs.size, upd H1 s1.heap.objs.size (.lst (rgV a b)), I1.laid k (Nat.le_refl _) ⟨by rw [rgV_length, sizeLine_eq]; omega, acc.toList, c2, vals_rg g2, by rw [Array.toArray_toList]; exact g1⟩, rfl, q _ (I1.hok.fresh (Nat.le_refl _))⟩
  cases hs : Builtin.Range.small a b 1 with
  | true => exact call_list_range (n := (b - a).toNat) (I1.ok.hd hc) hr hs (rangeSize_nat a b) (by omega) fin
  | false => exact call_list_long (n := (b - a).toNat) (I1.ok.hd hc) hr hs (rangeSize_nat a b) (by omega) fin
end
end Tw
/-! Tw: the laws' own walk -/
namespace Tw
open PySem PySem.Spec PyProof.Rows L2 He TwM StX
open PySem.W (Frag)
local macro_rules | `(tactic| walk_at "rwk") => `(tactic| simp only [*, at3_0, at3_1, at3_2, at2_0, at2_1, updS, upd_two, gSub, rSetL, updN, tPar, and_assoc, not_true_eq_false, not_false_eq_true, tNever, List.length_map, tFld, rIxTH, rIxLH, rLenTH, rLenLH, lk1, lfs_g, lfs_s, lfs_p, HO.ins.injEq, HO.tup.injEq, HO.lst.injEq, sp_Book_rounding, sp_Book_action, sp_Book_order, sp_Book_due, sp_Book_zero, sp_Book_beyond, Int.toNat_natCast, sp_visit_after, sp_is_visited, sp_Level_grain, sp_Level_slots, sp_Level_span, sp_Wheel_reach, sp_Wheel___len__, sp_is_integer, sp_is_count, sp_is_within, sp_rounded, tSeq, tAsg, gName, tVar, tC, tOp, rI, rI0, rU, tUn, oAdd, oSub, oMul, oDiv, oMod, oNeg, oLt, oLe, oGt, oGe, oIsN, oNotN, tFn, tCons, tNil, tIfS, tIf, tTest, tB, tNot, tAnd, tOr, tAndV, tOrV, tNotV,
    tRet, tRetN, tNext, tCB, tDrop, tChain, rEq, rNe, oMax2, oMin2, oInt1, rLenF, L2.start, List.map_cons, List.map_nil, List.length_cons, List.length_nil, List.replicate_succ, List.replicate_zero, List.cons_append, List.nil_append, Nat.reduceAdd, Nat.reduceSub, Nat.zero_add,
    List.set_cons_zero, List.set_cons_succ, List.getElem?_cons_zero, List.getElem?_cons_succ, Option.some.injEq, V.int.injEq, V.ref.injEq, V.str.injEq, V.bl.injEq, exists_eq_left', exists_eq_left, exists_and_left, List.cons.injEq, and_true, true_and, decide_eq_true_eq, sc_ii, sc_ss, sc_bb, sc_ni, sc_in, sc_nn, sc_is, reduceCtorEq,
    Bool.not_eq_true', decide_eq_false_iff_not, if_true, if_false, Bool.false_eq_true, exists_eq', exists_const, false_and, and_false, or_false, false_or, exists_false, Bool.not_not, Bool.not_true, Bool.not_false, sUp_up, sFire_fire, sHigh_high, sPut_put, sZone_now, sBey_refuse, sBey_cut, tTup, tLst, sz0, sz1, sz2, sz3, sz4, sz5, sz6])
section
variable {K : Frag} {w : World}
structure VlAt (H : Hp) (r : Addr) (B : Bk) : Prop where
  at_ : H r = some (.lst ((bws B).map V.str))
  ok : B.bey < 3
theorem VlAt.same {H H1 : Hp} {r : Addr} {B : Bk} (h : VlAt H r B) (s : Same H H1) : VlAt H1 r B := ⟨s _ _ h.at_, h.ok⟩
theorem RowsAt.row {H : Hp} {r : Addr} {W : List Lv} (h : RowsAt H r W) {i : Nat} (hi : i < W.length) : ∃ xs t, H r = some (.lst xs) ∧ xs.length = W.length ∧ atI xs (i : Int) = some (.ref t) ∧ H t = some (.tup [.int (lv W i).g, .int (lv W i).s, .int (lv W i).p]) := by
  obtain ⟨ts, ha, hb, hc⟩ := h
  obtain ⟨t, ht⟩ : ∃ t, ts[i]? = some t := ⟨ts[i]'(by omega), List.getElem?_eq_getElem (by omega)⟩
  exact ⟨_, t, ha, by rw [List.length_map, hb], atI_nat (by rw [List.getElem?_map, ht]; rfl), hc _ _ ht⟩
theorem RowsAt.last {H : Hp} {r : Addr} {W : List Lv} (h : RowsAt H r W) (hp : 0 < W.length) : ∃ xs t, H r = some (.lst xs) ∧ xs.length = W.length ∧ atI xs (-1) = some (.ref t) ∧ H t = some (.tup [.int (lv W (W.length - 1)).g, .int (lv W (W.length - 1)).s, .int (lv W (W.length - 1)).p]) := by
  obtain ⟨ts, ha, hb, hc⟩ := h
  obtain ⟨t, ht⟩ : ∃ t, ts[W.length - 1]? = some t := ⟨ts[W.length - 1]'(by omega), List.getElem?_eq_getElem (by omega)⟩
  exact ⟨_, t, ha, by rw [List.length_map, hb], atI_m1 (by rw [List.getLast?_eq_getElem?, List.length_map, hb, List.getElem?_map, ht]; rfl), hc _ _ ht⟩
theorem at6_0 (a b c d e f : V) : atI [a, b, c, d, e, f] 0 = some a := rfl
theorem at6_1 (a b c d e f : V) : atI [a, b, c, d, e, f] 1 = some b := rfl
theorem at6_2 (a b c d e f : V) : atI [a, b, c, d, e, f] 2 = some c := rfl
theorem at6_3 (a b c d e f : V) : atI [a, b, c, d, e, f] 3 = some d := rfl
theorem at6_4 (a b c d e f : V) : atI [a, b, c, d, e, f] 4 = some e := rfl
theorem at6_5 (a b c d e f : V) : atI [a, b, c, d, e, f] 5 = some f := rfl
theorem VlAt.six {H : Hp} {r : Addr} {B : Bk} (h : VlAt H r B) : H r = some (.lst [.str (sUp B.up), .str (sFire B.fire), .str (sHigh B.high), .str (sPut B.put), .str (sZone B.zone), .str (sBey B.bey)]) := h.at_
local macro_rules | `(tactic| walk_at "rwm") => `(tactic| simp only [*, at3_0, at3_1, at3_2, at2_0, at2_1, updS, upd_two, gSub, rSetL, updN, tPar, gTup, gCons, gNil, and_assoc, not_true_eq_false, not_false_eq_true, tNever, List.length_map, tFld, rIxTH, rIxLH, rLenTH, rLenLH, lk1, lfs_g, lfs_s, lfs_p, HO.ins.injEq, HO.tup.injEq, HO.lst.injEq, sp_Book_rounding, sp_Book_action, sp_Book_order, sp_Book_due, sp_Book_zero, sp_Book_beyond, Int.toNat_natCast, sp_visit_after, sp_is_visited, sp_Level_grain, sp_Level_slots, sp_Level_span, sp_Wheel_reach, sp_Wheel___len__, sp_is_integer, sp_is_count, sp_is_within, sp_rounded, tSeq, tAsg, gName, tVar, tC, tOp, rI, rI0, rU, tUn, oAdd, oSub, oMul, oDiv, oMod, oNeg, oLt, oLe, oGt, oGe, oIsN, oNotN, tFn, tCons, tNil, tIfS, tIf, tTest, tB, tNot, tAnd, tOr, tAndV, tOrV, tNotV,
    tRet, tRetN, tNext, tCB, tDrop, tChain, rEq, rNe, oMax2, oMin2, oInt1, rLenF, L2.start, List.map_cons, List.map_nil, List.length_cons, List.length_nil, List.replicate_succ, List.replicate_zero, List.cons_append, List.nil_append, Nat.reduceAdd, Nat.reduceSub, Nat.zero_add,
    List.set_cons_zero, List.set_cons_succ, List.getElem?_cons_zero, List.getElem?_cons_succ, Option.some.injEq, V.int.injEq, V.ref.injEq, V.str.injEq, V.bl.injEq, exists_eq_left', exists_eq_left, exists_and_left, List.cons.injEq, and_true, true_and, decide_eq_true_eq, sc_ii, sc_ss, sc_bb, sc_ni, sc_in, sc_nn, sc_is, reduceCtorEq,
    Bool.not_eq_true', decide_eq_false_iff_not, if_true, if_false, Bool.false_eq_true, exists_eq', exists_const, false_and, and_false, or_false, false_or, exists_false, Bool.not_not, Bool.not_true, Bool.not_false, sUp_up, sFire_fire, sHigh_high, sPut_put, sZone_now, sBey_refuse, sBey_cut, tTup, tLst, sz0, sz1, sz2, sz3, sz4, sz5, sz6])
local macro_rules | `(tactic| walk_at "rwl") => `(tactic| simp only [*, at3_0, at3_1, at3_2, at2_0, at2_1, updS, upd_two, gSub, rSetL, updN, tPar, at6_0, at6_1, at6_2, at6_3, at6_4, at6_5, and_assoc, not_true_eq_false, not_false_eq_true, tNever, List.length_map, tFld, rIxTH, rIxLH, rLenTH, rLenLH, lk1, lfs_g, lfs_s, lfs_p, HO.ins.injEq, HO.tup.injEq, HO.lst.injEq, sp_Book_rounding, sp_Book_action, sp_Book_order, sp_Book_due, sp_Book_zero, sp_Book_beyond, Int.toNat_natCast, sp_visit_after, sp_is_visited, sp_Level_grain, sp_Level_slots, sp_Level_span, sp_Wheel_reach, sp_Wheel___len__, sp_is_integer, sp_is_count, sp_is_within, sp_rounded, tSeq, tAsg, gName, tVar, tC, tOp, rI, rI0, rU, tUn, oAdd, oSub, oMul, oDiv, oMod, oNeg, oLt, oLe, oGt, oGe, oIsN, oNotN, tFn, tCons, tNil, tIfS, tIf, tTest, tB, tNot, tAnd, tOr, tAndV, tOrV, tNotV,
    tRet, tRetN, tNext, tCB, tDrop, tChain, rEq, rNe, oMax2, oMin2, oInt1, rLenF, L2.start, List.map_cons, List.map_nil, List.length_cons, List.length_nil, List.replicate_succ, List.replicate_zero, List.cons_append, List.nil_append, Nat.reduceAdd, Nat.reduceSub, Nat.zero_add,
    List.set_cons_zero, List.set_cons_succ, List.getElem?_cons_zero, List.getElem?_cons_succ, Option.some.injEq, V.int.injEq, V.ref.injEq, V.str.injEq, V.bl.injEq, exists_eq_left', exists_eq_left, exists_and_left, List.cons.injEq, and_true, true_and, decide_eq_true_eq, sc_ii, sc_ss, sc_bb, sc_ni, sc_in, sc_nn, sc_is, reduceCtorEq,
    Bool.not_eq_true', decide_eq_false_iff_not, if_true, if_false, Bool.false_eq_true, exists_eq', exists_const, false_and, and_false, or_false, false_or, exists_false, Bool.not_not, Bool.not_true, Bool.not_false, sUp_up, sFire_fire, sHigh_high, sPut_put, sZone_now, sBey_refuse, sBey_cut, tTup, tLst, sz0, sz1, sz2, sz3, sz4, sz5, sz6])
/-- rows as the law's walk asks them -/
structure RWk (W : List Lv) : Prop where
  ok : WOk W
instance rwk_of {W : List Lv} : Coe (ROk W) (RWk W) := ⟨fun h => ⟨h.ok⟩⟩
def sp__law_spot_at (K : Frag) : Sp := fun vs H Q _ => ∃ (r rv : Addr) (here rest due : Int), vs = [.ref r, .ref rv, .int here, .int rest, .int due] ∧ ∃ W B, RowsAt H r W ∧ RWk W ∧ VlAt H rv B ∧ ∀ p H', Same H H' → SpAt H' p (spotAt W B here rest due) → Q (.ref p) H'
def t__law_spot_at (K : Frag) (w : World) : TS :=
  (tSeq (tAsg (tFn (sp__law_belongs K) E0 (tCons (tVar 0) (tCons (tVar 3) tNil))) (gName 5))
  (tSeq (tAsg (tOp oAdd (tVar 2) (tVar 3)) (gName 6))
  (tSeq (tIfS (tTest (tOp oIsN (tVar 5) (tC .non))) (tPar 5 6 (tCons (tOp oSub (tCB rLenLH (tCons (tVar 0) tNil)) (tC (.int 1))) (tCons (tOp oSub (tOp oAdd (tVar 2) (tOp rIxTH (tOp rIxLH (tVar 0) (tUn oNeg (tC (.int 1)))) (tC (.int 2)))) (tC (.int 1))) tNil))) tNext)
  (tRet (tTup (tCons (tVar 5) (tCons (tFn (sp__law_turned K) E0 (tCons (tVar 6) (tCons (tOp rIxTH (tOp rIxLH (tVar 0) (tVar 5)) (tC (.int 0))) (tCons (tOp rIxLH (tVar 1) (tC (.int 0))) tNil)))) (tCons (tVar 4) tNil))))))))
def n__law_spot_at : List Str := ["_law_rows", "_law_values", "_law_here", "_law_rest", "_law_due", "_law_index", "_law_end"]
theorem rd__law_spot_at (vs : List V) (H : Hp) (Q : VK) (E : XK) (h : sp__law_spot_at K vs H Q E) : t__law_spot_at K w { nx := fun _ H' => Q .non H', rt := Q } (L2.start n__law_spot_at vs) H := by
  obtain ⟨r, rv, here, rest, due, rfl, W, B, hR, hRk, hV, q⟩ := h
  have hpos := hRk.ok.pos
  unfold t__law_spot_at n__law_spot_at
  walk_at "rwl"
  refine ⟨r, rest, W, rfl, hR, fun H1 s1 => ?_⟩
  have hR1 := hR.same s1
  have hV1 := (hV.same s1).six
  obtain ⟨xs, t, e1, e2, e3, e4⟩ := hR1.last hpos
  cases hl : levelOf W rest with
  | none =>
    have hall := hRk.ok.all (W.length - 1) (by omega)
    obtain ⟨xs', t', e1', e2', e3', e4'⟩ := hR1.row (i := W.length - 1) (by omega)
    rw [e1] at e1'
    cases e1'
    have e3'' : atI xs ((W.length : Int) - 1) = some (.ref t') := by rw [show ((W.length : Int) - 1) = ((W.length - 1 : Nat) : Int) by omega]; exact e3'
    unfold optI
    walk_at "rwl"
    refine ⟨_, _, B.up, rfl, by omega, by omega, fun p hp => q p _ (s1.trans (Same.new hp)) ?_⟩
    unfold SpAt spotAt
    rw [hl, updS]
    simp only [HO.tup.injEq, List.cons.injEq, V.int.injEq, Option.some.injEq, and_true]
    refine ⟨by omega, ?_⟩
    rfl
  | some i =>
    have hi := levelOf_lt hl
    have hall := hRk.ok.all i hi.1
    obtain ⟨xs', t', e1', e2', e3', e4'⟩ := hR1.row (i := i) hi.1
    rw [e1] at e1'
    cases e1'
    unfold optI
    walk_at "rwl"
    refine ⟨_, _, B.up, rfl, by omega, by omega, fun p hp => q p _ (s1.trans (Same.new hp)) ?_⟩
    unfold SpAt spotAt
    rw [hl, updS]
def sp__law_put (K : Frag) : Sp := fun vs H Q _ => ∃ (r rv : Addr) (here delay : Int), vs = [.ref r, .ref rv, .int here, .int delay] ∧ ∃ W B, RowsAt H r W ∧ RWk W ∧ VlAt H rv B ∧ 0 ≤ delay ∧ (reach W ≤ delay → B.bey ≠ 0) ∧
  ∀ v H', Same H H' → OSp H' v (placeM W B here delay) → Q v H'
def t__law_put (K : Frag) (w : World) : TS :=
  (tSeq (tIfS (tAnd (tTest (tOp rEq (tVar 3) (tC (.int 0)))) (tTest (tOp rEq (tOp rIxLH (tVar 1) (tC (.int 4))) (tC (.str "now"))))) (tRet (tC .non)) tNext)
  (tSeq (tPar 4 5 (tCons (tCB oMax2 (tCons (tCB oInt1 (tCons (tVar 3) tNil)) (tCons (tC (.int 1)) tNil))) (tCons (tOp rIxTH (tOp rIxLH (tVar 0) (tUn oNeg (tC (.int 1)))) (tC (.int 2))) tNil)))
  (tSeq (tIfS (tAnd (tTest (tOp oGe (tVar 4) (tVar 5))) (tTest (tOp rEq (tOp rIxLH (tVar 1) (tC (.int 5))) (tC (.str "refuse"))))) (tRet (tC (.str "refused"))) tNext)
  (tSeq (tIfS (tAnd (tTest (tOp oGe (tVar 4) (tVar 5))) (tTest (tOp rEq (tOp rIxLH (tVar 1) (tC (.int 5))) (tC (.str "cut"))))) (tAsg (tOp oSub (tVar 5) (tC (.int 1))) (gName 4)) tNext)
  (tRet (tFn (sp__law_spot_at K) E0 (tCons (tVar 0) (tCons (tVar 1) (tCons (tVar 2) (tCons (tVar 4) (tCons (tOp oAdd (tVar 2) (tVar 4)) tNil)))))))))))
def n__law_put : List Str := ["_law_rows", "_law_values", "_law_here", "_law_delay_here", "_law_rest", "_law_reach"]
theorem rd__law_put (vs : List V) (H : Hp) (Q : VK) (E : XK) (h : sp__law_put K vs H Q E) : t__law_put K w { nx := fun _ H' => Q .non H', rt := Q } (L2.start n__law_put vs) H := by
  obtain ⟨r, rv, here, delay, rfl, W, B, hR, hRk, hV, hd, hb, q⟩ := h
  have hpos := hRk.ok.pos
  have hV1 := hV.six
  have hb3 := hV.ok
  obtain ⟨xs, t, e1, e2, e3, e4⟩ := hR.last hpos
  have hre : 2 ≤ reach W := (hRk.ok.all (W.length - 1) (by omega)).2.2.2.2
  have key : ∀ x : Int, (∀ v H', Same H H' → OSp H' v (some (spotAt W B here x (here + x))) → Q v H') → sp__law_spot_at K [.ref r, .ref rv, .int here, .int x, .int (here + x)] H Q E0 :=
    fun x q => ⟨r, rv, here, x, here + x, rfl, W, B, hR, hRk, hV, fun p H' s z => q _ _ s ⟨p, rfl, z⟩⟩
  unfold t__law_put n__law_put
  walk_at "rwl"
  unfold placeM at q
  generalize hg : (if 1 > delay then 1 else delay) = r0 at q ⊢
  have h1 : 1 ≤ r0 := by rw [← hg]; split <;> omega
  have h2 : reach W ≤ r0 → B.bey ≠ 0 := fun h => hb (by rw [← hg] at h; split at h <;> omega)
  have hrd : reach W = (lv W (W.length - 1)).p := rfl
  rw [← hrd]
  by_cases hz : delay = 0 ∧ B.zone = false
  · rw [if_pos hz] at q
    rw [if_pos hz.1, if_pos hz.2]
    exact q _ _ (Same.refl H) rfl
  · rw [if_neg hz] at q
    dsimp only at q
    by_cases hl : reach W ≤ r0
    · have hb := h2 hl
      by_cases hc : 2 ≤ B.bey
      · have q' := key (reach W - 1) (by have := q; rw [if_pos ⟨hl, by omega⟩] at this; exact this)
        repeat' (refine ite2 (fun _ => ?_) fun _ => ?_)
        all_goals first | exact q' | (exact absurd ⟨by assumption, by assumption⟩ hz) | (exfalso; omega)
      · have q' := key r0 (by have := q; rw [if_neg (fun z : reach W ≤ r0 ∧ B.bey = 2 => hc (by omega))] at this; exact this)
        repeat' (refine ite2 (fun _ => ?_) fun _ => ?_)
        all_goals first | exact q' | (exact absurd ⟨by assumption, by assumption⟩ hz) | (exfalso; omega)
    · have q' := key r0 (by have := q; rw [if_neg (fun z : reach W ≤ r0 ∧ B.bey = 2 => hl z.1)] at this; exact this)
      repeat' (refine ite2 (fun _ => ?_) fun _ => ?_)
      all_goals first | exact q' | (exact absurd ⟨by assumption, by assumption⟩ hz) | (exfalso; omega)
def sp__law_out (K : Frag) : Sp := fun vs H Q _ => ∃ (r rv p : Addr) (tick : Int), vs = [.ref r, .ref rv, .ref p, .int tick] ∧ ∃ W B sp, RowsAt H r W ∧ RWk W ∧ VlAt H rv B ∧ SpAt H p sp ∧ ∀ v H', Same H H' → OSp H' v (taken W B sp tick) → Q v H'
def t__law_out (K : Frag) (w : World) : TS :=
  (tSeq (tIfS (tOr (tTest (tOp rEq (tOp rIxTH (tVar 2) (tC (.int 0))) (tC (.int 0)))) (tTest (tOp rEq (tOp rIxLH (tVar 1) (tC (.int 1))) (tC (.str "fire"))))) (tRet (tC .non)) tNext)
  (tSeq (tIfS (tTest (tOp oGt (tOp rIxTH (tVar 2) (tC (.int 2))) (tVar 3))) (tRet (tFn (sp__law_spot_at K) E0 (tCons (tVar 0) (tCons (tVar 1) (tCons (tVar 3) (tCons (tOp oSub (tOp rIxTH (tVar 2) (tC (.int 2))) (tVar 3)) (tCons (tOp rIxTH (tVar 2) (tC (.int 2))) tNil))))))) tNext)
  (tRet (tIf (tTest (tOp rEq (tOp rIxLH (tVar 1) (tC (.int 3))) (tC (.str "put")))) (tTup (tCons (tC (.int 0)) (tCons (tVar 3) (tCons (tOp rIxTH (tVar 2) (tC (.int 2))) tNil)))) (tC .non)))))
def n__law_out : List Str := ["_law_rows", "_law_values", "_law_spot", "_law_tick"]
theorem rd__law_out (vs : List V) (H : Hp) (Q : VK) (E : XK) (h : sp__law_out K vs H Q E) : t__law_out K w { nx := fun _ H' => Q .non H', rt := Q } (L2.start n__law_out vs) H := by
  obtain ⟨r, rv, p, tick, rfl, W, B, sp, hR, hRk, hV, hS, q⟩ := h
  have hV1 := hV.six
  have hS1 := hS
  unfold SpAt at hS1
  unfold t__law_out n__law_out
  walk_at "rwl"
  unfold taken at q
  by_cases h1 : sp.lv = 0
  · rw [if_pos (.inl h1)] at q
    rw [if_pos (by omega)]
    exact q _ _ (Same.refl H) rfl
  · rw [if_neg (by omega)]
    by_cases h2 : B.fire = true
    · rw [if_pos (.inr h2)] at q
      rw [if_pos h2]
      exact q _ _ (Same.refl H) rfl
    · rw [if_neg (fun z => z.elim h1 h2)] at q
      rw [if_neg h2]
      refine ite2 (fun h3 => ?_) fun h3 => ?_
      · rw [if_pos h3] at q
        exact ⟨r, rv, tick, _, _, rfl, W, B, hR, hRk, hV, fun p' H' s z => q _ _ s ⟨p', rfl, z⟩⟩
      · rw [if_neg h3] at q
        refine ite2 (fun h4 => fun p' hp' => ?_) fun h4 => ?_
        · rw [if_pos h4] at q
          exact q _ _ (Same.new hp') ⟨p', rfl, updS _ _ _⟩
        · rw [if_neg h4] at q
          exact q _ _ (Same.refl H) rfl
theorem lcF {i j : Nat} {a : Addr} {xs : List V} {tt : TT} {σ : L2.St} {H : Hp} {Q : VK} (p : V → Bool) (hσ : σ[i]? = some (some (V.ref a))) (hj : j < σ.length) (hl : SqL K H a xs) (hz : xs.length ≤ 1000)
    (ht : ∀ x ∈ xs, ∀ H' R, Same H H' → R (p x) H' → tt ((wipe σ [j]).set j (some x)) H' R) (q : ∀ D H', H D = none → Same H H' → H' D = some (.lst (xs.filter p)) → Q (.ref D) H') : tLc (iList K (tVar i)) (gName j) tt (tVar j) [j] σ H Q := by
  refine ⟨_, hσ, a, rfl, ⟨_, hl⟩, fun D hD => lc_list (K := K) (a := a) (xs := xs) (fun k H' => Same H H' ∧ H' D = some (.lst ((xs.take k).filter p))) ⟨Same.new hD, by rw [upd_same]; rfl⟩ (fun k H' _ z => Same.lst z.1 hl) ?_ ?_⟩
  · rintro k x H1 hx ⟨s1, hD1⟩
    have hk := (List.getElem?_eq_some_iff.mp hx).1
    have hw : wipe ((wipe σ [j]).set j (some x)) [j] = wipe σ [j] := by
      show ((σ.set j none).set j (some x)).set j none = σ.set j none
      rw [List.set_set, List.set_set]
    refine ⟨hw, ht x (List.mem_of_getElem? hx) H1 _ s1 ?_⟩
    have htk : xs.take (k + 1) = xs.take k ++ [x] := by rw [List.take_add_one, hx]; rfl
    rw [htk, List.filter_append]
    cases hp : p x with
    | true =>
      rw [if_pos rfl, List.filter_cons_of_pos hp]
      have hsz : sizeLine = 16777216 := rfl
      have hfl := List.length_filter_le p (xs.take k)
      rw [List.length_take] at hfl
      refine ⟨x, ?_, _, hD1, by omega, Same.updN s1 hD, updS _ _ _⟩
      show ((σ.set j none).set j (some x))[j]? = some (some x)
      rw [List.getElem?_set_self (by rw [List.length_set]; exact hj)]
    | false =>
      rw [if_neg Bool.false_ne_true, List.filter_cons_of_neg (by rw [hp]; exact Bool.false_ne_true), List.filter_nil, List.append_nil]
      exact ⟨s1, hD1⟩
  · rintro H1 ⟨s1, hD1⟩
    rw [List.take_length] at hD1
    exact q D H1 hD s1 hD1
theorem ddInts {H : Hp} : ∀ ks : List Int, DpAll K H (ks.map V.int) (ks.map PyData.int)
  | [] => .nil
  | k :: ks => .cons (.int k) (ddInts ks)
theorem lay_ints : ∀ ks : List Int, PyData.canLayAll0 (ks.map PyData.int) = true
  | [] => rfl
  | k :: ks => by
    show ((PyData.int k).canLay0 && PyData.canLayAll0 (ks.map PyData.int)) = true
    rw [lay_ints ks]
    rfl
theorem depth_ints : ∀ ks : List Int, PyData.depthAll (ks.map PyData.int) = 0
  | [] => rfl
  | k :: ks => by
    show max (PyData.int k).depth (PyData.depthAll (ks.map PyData.int)) = 0
    rw [depth_ints ks]
    rfl
theorem shaped_ints (ks : List Int) : SeqAt.shaped (.list (ks.map PyData.int)) = true := by
  unfold SeqAt.shaped
  rw [show (PyData.list (ks.map PyData.int)).canLay0 = PyData.canLayAll0 (ks.map PyData.int) from rfl, lay_ints]
  have := depth_ints ks
  exact decide_eq_true (show PyData.depthAll (ks.map PyData.int) + 1 ≤ 64 by omega)
theorem eqv_ints (ks : List Int) : PyData.eqv (.list (ks.map PyData.int)) (.list []) = ks.isEmpty := by
  cases ks with
  | nil => rfl
  | cons k ks => rfl
theorem hit_iff {q pt s j : Int} (hs : 0 < s) (h0 : 0 ≤ j) (h1 : j ≤ (pt - q) % s) : (q + j - pt) % s = 0 ↔ j = (pt - q) % s := by
  have e := Int.mul_ediv_add_emod (pt - q) s
  have h2 := Int.emod_lt_of_pos (pt - q) hs
  generalize (pt - q) % s = k at *
  generalize (pt - q) / s = z at *
  have e2 : q + j - pt = (j - k) + s * (-z) := by rw [Int.mul_neg]; omega
  rw [e2, Int.add_mul_emod_self_left]
  constructor
  · intro h
    have h3 : (j - k + s) % s = 0 := by rw [Int.add_emod_right]; exact h
    rcases Int.lt_or_le j k with h4 | h4
    · rw [Int.emod_eq_of_lt (by omega) (by omega)] at h3
      omega
    · omega
  · intro h
    rw [h, Int.sub_self, Int.zero_emod]
theorem cut2 (a b c : V) : cutV [a, b, c] none (some 2) = [a, b] := rfl
theorem part2 (a b c : V) : ¬ (HT.sIx [a, b, c].length 0 none = 0 ∧ HT.sIx [a, b, c].length [a, b, c].length (some 2) = [a, b, c].length) := by
  show ¬ (HT.sIx 3 0 none = 0 ∧ HT.sIx 3 3 (some 2) = 3)
  decide +kernel
def sp__law_visit (K : Frag) : Sp := fun vs H Q _ => ∃ (r p : Addr) (here : Int), vs = [.ref r, .ref p, .int here] ∧ ∃ W sp, RowsAt H r W ∧ RWk W ∧ SpAt H p sp ∧ sp.lv < W.length ∧ ∀ H', Same H H' → Q (.int (va (lv W sp.lv) sp.pt here)) H'
def t__law_visit (K : Frag) (w : World) : TS :=
  (tSeq (tAsg (tSl (rSlT K) (tOp rIxLH (tVar 0) (tOp rIxTH (tVar 1) (tC (.int 0)))) tNoPart (tPart (tC (.int 2)))) (gTup K 2 (gCons (gName 3) (gCons (gName 4) gNil))))
  (tSeq (tAsg (tOp oAdd (tOp oDiv (tVar 2) (tVar 3)) (tC (.int 1))) (gName 5))
  (tSeq (tWhile (tTest (tOp rNe (tOp oMod (tOp oSub (tVar 5) (tOp rIxTH (tVar 1) (tC (.int 1)))) (tVar 4)) (tC (.int 0))))
    (tAsg (tOp oAdd (tVar 5) (tC (.int 1))) (gName 5)))
  (tRet (tOp oMul (tVar 5) (tVar 3))))))
def n__law_visit : List Str := ["_law_rows", "_law_spot", "_law_here", "_law_grain", "_law_slots", "_law_at"]
theorem rd__law_visit (vs : List V) (H : Hp) (Q : VK) (E : XK) (h : sp__law_visit K vs H Q E) : t__law_visit K w { nx := fun _ H' => Q .non H', rt := Q } (L2.start n__law_visit vs) H := by
  obtain ⟨r, p, here, rfl, W, sp, hR, hRk, hS, hl, q⟩ := h
  have hS1 := hS
  unfold SpAt at hS1
  obtain ⟨xs, t, e1, e2, e3, e4⟩ := hR.row hl
  have hall := hRk.ok.all _ hl
  unfold t__law_visit n__law_visit
  rw [seq1]
  refine ⟨_, rfl, _, rfl, _, _, _, _, rfl, rfl, hS1, rfl, _, _, _, _, rfl, rfl, e1, e3, 2, rfl, t, _, rfl, SqT.of e4, part2 _ _ _, fun c hc => ?_⟩
  rw [cut2]
  have s1 := Same.new (o := .tup [V.int (lv W sp.lv).g, .int (lv W sp.lv).s]) hc
  have hS2 := s1 _ _ hS1
  refine ⟨c, _, rfl, SqT.of upd_same, rfl, ?_⟩
  generalize upd H c (.tup [V.int (lv W sp.lv).g, .int (lv W sp.lv).s]) = H1 at *
  have hk0 := Int.emod_nonneg (sp.pt - here / (lv W sp.lv).g - 1) (b := (lv W sp.lv).s) (by omega)
  walk_at "rwm"
  refine ⟨⟨by omega, by omega⟩, fun m σ H' => ∃ j : Int, σ = [some (.ref r), some (.ref p), some (.int here), some (.int (lv W sp.lv).g), some (.int (lv W sp.lv).s), some (.int (here / (lv W sp.lv).g + 1 + j))] ∧ H' = H1 ∧ 0 ≤ j ∧ m = ((sp.pt - here / (lv W sp.lv).g - 1) % (lv W sp.lv).s - j).toNat ∧ j ≤ (sp.pt - here / (lv W sp.lv).g - 1) % (lv W sp.lv).s, ⟨_, 0, by rw [Int.add_zero], rfl, Int.le_refl _, rfl, hk0⟩, ?_⟩
  rintro m σ H2 ⟨j, rfl, rfl, hj0, rfl, hj⟩
  walk_at "rwm"
  have hkk : sp.pt - here / (lv W sp.lv).g - 1 = sp.pt - (here / (lv W sp.lv).g + 1) := by omega
  rw [hkk] at hj ⊢
  have hi := hit_iff (q := here / (lv W sp.lv).g + 1) (pt := sp.pt) (s := (lv W sp.lv).s) (j := j) (by omega) hj0 hj
  refine ⟨by omega, ite2 (fun hn => ?_) fun hn => ?_⟩
  · have hne : j ≠ (sp.pt - (here / (lv W sp.lv).g + 1)) % (lv W sp.lv).s := fun z => hn (hi.mpr z)
    exact ⟨_, fun σ' H' z => ⟨_, by omega, z⟩, j + 1, by rw [Int.add_assoc (here / (lv W sp.lv).g + 1) j 1], rfl, by omega, rfl, by omega⟩
  · have he := hi.mp (Classical.not_not.mp hn)
    refine ⟨.inr ⟨by omega, by omega⟩, ?_⟩
    rw [he]
    have q1 := q H2 s1
    unfold va at q1
    rw [hkk] at q1
    exact q1
local macro_rules | `(tactic| walk_at "rwn") => `(tactic| simp only [*, at3_0, at3_1, at3_2, at2_0, at2_1, updS, upd_two, gSub, rSetL, updN, tPar, at6_0, at6_1, at6_2, at6_3, at6_4, at6_5, gTup, gCons, gNil, and_assoc, not_true_eq_false, not_false_eq_true, tNever, List.length_map, tFld, rIxTH, rIxLH, rLenTH, rLenLH, lk1, lfs_g, lfs_s, lfs_p, HO.ins.injEq, HO.tup.injEq, HO.lst.injEq, sp_Book_rounding, sp_Book_action, sp_Book_order, sp_Book_due, sp_Book_zero, sp_Book_beyond, Int.toNat_natCast, sp_visit_after, sp_is_visited, sp_Level_grain, sp_Level_slots, sp_Level_span, sp_Wheel_reach, sp_Wheel___len__, sp_is_integer, sp_is_count, sp_is_within, sp_rounded, tAsg, gName, tVar, tC, tOp, rI, rI0, rU, tUn, oAdd, oSub, oMul, oDiv, oMod, oNeg, oLt, oLe, oGt, oGe, oIsN, oNotN, tFn, tCons, tNil, tIfS, tIf, tTest, tB, tNot, tAnd, tOr, tAndV, tOrV, tNotV,
    tRet, tRetN, tNext, tCB, tDrop, tChain, rEq, rNe, oMax2, oMin2, oInt1, rLenF, L2.start, List.map_cons, List.map_nil, List.length_cons, List.length_nil, List.replicate_succ, List.replicate_zero, List.cons_append, List.nil_append, Nat.reduceAdd, Nat.reduceSub, Nat.zero_add,
    List.set_cons_zero, List.set_cons_succ, List.getElem?_cons_zero, List.getElem?_cons_succ, Option.some.injEq, V.int.injEq, V.ref.injEq, V.str.injEq, V.bl.injEq, exists_eq_left', exists_eq_left, exists_and_left, List.cons.injEq, and_true, true_and, decide_eq_true_eq, sc_ii, sc_ss, sc_bb, sc_ni, sc_in, sc_nn, sc_is, reduceCtorEq,
    Bool.not_eq_true', decide_eq_false_iff_not, if_true, if_false, Bool.false_eq_true, exists_eq', exists_const, false_and, and_false, or_false, false_or, exists_false, Bool.not_not, Bool.not_true, Bool.not_false, sUp_up, sFire_fire, sHigh_high, sPut_put, sZone_now, sBey_refuse, sBey_cut, tTup, tLst, sz0, sz1, sz2, sz3, sz4, sz5, sz6])
theorem tIf_high {ta tb : TE} {σ : L2.St} {H : Hp} {Q : VK} {rv : Addr} {B : Bk} (hσ : σ[1]? = some (some (V.ref rv))) (hV : VlAt H rv B) (q : if B.high = true then ta σ H Q else tb σ H Q) :
    tIf (tTest (tOp rEq (tOp rIxLH (tVar 1) (tC (V.int 2))) (tC (V.str "high")))) ta tb σ H Q := by
  have hV1 := hV.six
  walk_at "rwn"
theorem for_high {ta tb : TE} {g : TG} {tw : TS} {D : Ends} {σ : L2.St} {H : Hp} {rv : Addr} {B : Bk} (hσ : σ[1]? = some (some (V.ref rv))) (hV : VlAt H rv B) (q : if B.high = true then tFor (iList K ta) g tw D σ H else tFor (iList K tb) g tw D σ H) :
    tFor (iList K (tIf (tTest (tOp rEq (tOp rIxLH (tVar 1) (tC (V.int 2))) (tC (V.str "high")))) ta tb)) g tw D σ H := by
  unfold tFor iList at q ⊢
  exact tIf_high hσ hV q
def sp__law_sweep (K : Frag) : Sp := fun vs H Q _ => ∃ (r rv p : Addr) (before here : Int), vs = [.ref r, .ref rv, .ref p, .int before, .int here] ∧ ∃ W B sp, RowsAt H r W ∧ RWk W ∧ VlAt H rv B ∧ SpAt H p sp ∧
  ∀ f xs H', Same H H' → H f = none → H' f = some (.lst xs) → OSps H' xs (visited W B sp before here) → Q (.ref f) H'
def swInv (K : Frag) (r rv f qd : Addr) (W : List Lv) (B : Bk) (sp0 : Spot) (before here : Int) (H : Hp) (i : Nat) (σ : L2.St) (H' : Hp) : Prop :=
  ∃ (p : Addr) (sp : Spot) (xs : List V) (os : List (Option Spot)) (v6 v7 v8 v9 v10 v11 v12 v13 : Option V), σ = [some (.ref r), some (.ref rv), some (.ref p), some (.int before), some (.int here), some (.ref f), v6, v7, v8, v9, v10, v11, v12, v13] ∧ Same H H' ∧ SpAt H' p sp ∧
    H' f = some (.lst xs) ∧ H' qd = some (.lst (ordV W B)) ∧ xs.length ≤ i ∧ OSps H' xs os ∧ visited W B sp0 before here = os ++ visGo W B before here ((order W B).drop i) sp
def swBody (K : Frag) : TS :=
  (tIfS (tTest (tOp rEq (tOp rIxTH (tVar 2) (tC (.int 0))) (tVar 7))) (tSeq (tAsg (tSl (rSlT K) (tOp rIxLH (tVar 0) (tVar 7)) tNoPart (tPart (tC (.int 2)))) (gTup K 2 (gCons (gName 8) (gCons (gName 9) gNil))))
  (tSeq (tPar 10 11 (tCons (tOp oAdd (tOp oDiv (tVar 3) (tVar 8)) (tC (.int 1))) (tCons (tOp oDiv (tVar 4) (tVar 8)) tNil)))
  (tSeq (tAsg (tLstRgW (tRg2 (tVar 10) (tOp oAdd (tCB oMin2 (tCons (tCB oInt1 (tCons (tVar 11) tNil)) (tCons (tCB oInt1 (tCons (tOp oAdd (tVar 10) (tVar 9)) tNil)) tNil))) (tC (.int 1))))) (gName 12))
  (tIfS (tTest (tOp (rNeD K) (tLc (iList K (tVar 12)) (gName 13) (tTest (tOp rEq (tOp oMod (tOp oSub (tVar 13) (tOp rIxTH (tVar 2) (tC (.int 1)))) (tVar 9)) (tC (.int 0)))) (tVar 13) [13]) (tLst tNil))) (tSeq (tAsg (tFn (sp__law_out K) E0 (tCons (tVar 0) (tCons (tVar 1) (tCons (tVar 2) (tCons (tVar 4) tNil))))) (gName 2))
  (tSeq (tDrop (tBM K "list" rAppend (tVar 5) (tCons (tVar 2) tNil)))
  (tIfS (tTest (tOp oIsN (tVar 2) (tC .non))) (tRet (tVar 5)) tNext))) tNext)))) tNext)
/-- the ticks of a lump at which a slot is visited: some, just if the lump visits -/
theorem sw_hits {g s pt before here : Int} (hg : 0 < g) (hs : 0 < s) : ((rgV (before / g + 1) ((if before / g + 1 + s < here / g then before / g + 1 + s else here / g) + 1)).filter fun x => match x with | .int at_ => decide ((at_ - pt) % s = 0) | _ => false) = [] ↔ ¬ (pt - before / g - 1) % s < here / g - before / g := by
  have e1 : pt - before / g - 1 = pt - (before / g + 1) := by omega
  rw [e1]
  have k0 := Int.emod_nonneg (pt - (before / g + 1)) (b := s) (by omega)
  have k1 := Int.emod_lt_of_pos (pt - (before / g + 1)) hs
  have hi : ∀ j, 0 ≤ j → j ≤ (pt - (before / g + 1)) % s → ((before / g + 1 + j - pt) % s = 0 ↔ j = (pt - (before / g + 1)) % s) := fun j => hit_iff hs
  generalize before / g + 1 = a at *
  generalize (pt - a) % s = k at *
  rw [List.filter_eq_nil_iff]
  unfold rgV
  constructor
  · intro h hlt
    have hm : V.int (a + k) ∈ (List.range ((if a + s < here / g then a + s else here / g) + 1 - a).toNat).map fun i => V.int (a + (i : Nat)) := by
      refine List.mem_map.mpr ⟨k.toNat, List.mem_range.mpr ?_, by rw [Int.toNat_of_nonneg k0]⟩
      split <;> omega
    exact h _ hm (decide_eq_true ((hi k k0 (Int.le_refl _)).mpr rfl))
  · intro h x hx
    obtain ⟨i, hi1, rfl⟩ := List.mem_map.mp hx
    have hr := List.mem_range.mp hi1
    intro hz
    have hz := of_decide_eq_true hz
    have := (hi i (by omega) (by split at hr <;> omega)).mp hz
    split at hr <;> omega
theorem sw_body {r rv f qd : Addr} {W : List Lv} {B : Bk} {sp0 : Spot} {before here : Int} {H : Hp} {Q : VK} {D : Ends} (hR : RowsAt H r W) (hRk : RWk W) (hV : VlAt H rv B) (hf : H f = none) (hqf : qd ≠ f) (hrt : D.rt = Q)
    (q : ∀ f xs H', Same H H' → H f = none → H' f = some (.lst xs) → OSps H' xs (visited W B sp0 before here) → Q (.ref f) H')
    (i : Nat) (x : V) (σ : L2.St) (H1 : Hp) (hx : (ordV W B)[i]? = some x) (hI : swInv K r rv f qd W B sp0 before here H i σ H1) :
    gName 7 x σ H1 fun σ2 H2 => swBody K { D with nx := swInv K r rv f qd W B sp0 before here H (i + 1), ct := swInv K r rv f qd W B sp0 before here H (i + 1), bk := D.nx } σ2 H2 := by
  obtain ⟨p, sp, xs, os, v6, v7, v8, v9, v10, v11, v12, v13, rfl, s1, hS, hfx, hq, hxl, hos, hvis⟩ := hI
  obtain ⟨j, hj, rfl⟩ : ∃ j, (order W B)[i]? = some j ∧ x = V.int (j : Nat) := by
    unfold ordV at hx
    rw [List.getElem?_map] at hx
    cases e : (order W B)[i]? with
    | none => rw [e] at hx; cases hx
    | some c => rw [e] at hx; exact ⟨c, rfl, (Option.some.inj hx).symm⟩
  have hi := (List.getElem?_eq_some_iff.mp hj).1
  have hjW : j < W.length := mem_order.mp (List.mem_of_getElem? hj)
  have hdr : (order W B).drop i = j :: (order W B).drop (i + 1) := by
    rw [List.drop_eq_getElem_cons hi]
    rw [(List.getElem?_eq_some_iff.mp hj).2]
  rw [hdr] at hvis
  unfold visGo at hvis
  have hS2 := hS
  unfold SpAt at hS2
  have hR1 := hR.same s1
  have hV1 := hV.same s1
  obtain ⟨ys, t, g1, g2, g3, g4⟩ := hR1.row hjW
  have hall := hRk.ok.all _ hjW
  rw [gName1]
  unfold swBody
  walk_at "rwn"
  refine ite2 (fun ht => ?_) fun ht => ?_
  · rw [seq1]
    refine ⟨_, rfl, _, rfl, _, _, _, _, rfl, rfl, g1, g3, 2, rfl, t, _, rfl, SqT.of g4, part2 _ _ _, fun c hc => ?_⟩
    rw [cut2]
    refine ⟨c, _, rfl, SqT.of upd_same, rfl, ?_⟩
    have s2 := Same.new (o := .tup [V.int (lv W j).g, .int (lv W j).s]) hc
    have hfx2 := s2 _ _ hfx
    have hq2 := s2 _ _ hq
    have hS3 := s2 _ _ hS2
    have hos2 := hos.same s2
    have hR2 := hR1.same s2
    have hV2 := hV1.same s2
    have hs2 := s1.trans s2
    have hSp2 := hS.same s2
    generalize upd H1 c (.tup [V.int (lv W j).g, .int (lv W j).s]) = H2 at *
    walk_at "rwn"
    rw [seq1]
    walk_at "rwn"
    refine ⟨⟨by omega, by omega⟩, ⟨by omega, by omega⟩, ?_⟩
    rw [seq1]
    have hm2 : (if before / (lv W j).g + 1 + (lv W j).s < here / (lv W j).g then before / (lv W j).g + 1 + (lv W j).s else here / (lv W j).g) + 1 - (before / (lv W j).g + 1) ≤ 200 := by split <;> omega
    have hits := sw_hits (g := (lv W j).g) (s := (lv W j).s) (pt := sp.pt) (before := before) (here := here) (by omega) (by omega)
    unfold tLstRgW tRg2
    walk_at "rwn"
    refine ⟨by omega, fun e he => ?_⟩
    generalize hrg : rgV (before / (lv W j).g + 1) ((if before / (lv W j).g + 1 + (lv W j).s < here / (lv W j).g then before / (lv W j).g + 1 + (lv W j).s else here / (lv W j).g) + 1) = rg at *
    have hrl : rg.length ≤ 1000 := by rw [← hrg, rgV_length]; omega
    have hri : ∀ x ∈ rg, ∃ k : Int, x = .int k := fun x hx => by
      rw [← hrg] at hx
      unfold rgV at hx
      obtain ⟨k, _, rfl⟩ := List.mem_map.mp hx
      exact ⟨_, rfl⟩
    have s3 := Same.new (o := .lst rg) he
    have hS4 := s3 _ _ hS3
    have hrg3 : upd H2 e (.lst rg) e = some (.lst rg) := updS _ _ _
    have hfx3 := s3 _ _ hfx2
    have hq3 := s3 _ _ hq2
    have hos3 := hos2.same s3
    have hR3 := hR2.same s3
    have hV3 := hV2.same s3
    have hs3 := hs2.trans s3
    have hSp3 := hSp2.same s3
    generalize upd H2 e (.lst rg) = H3 at *
    refine lcF (a := e) (xs := rg) (fun x => match x with | .int at_ => decide ((at_ - sp.pt) % (lv W j).s = 0) | _ => false) rfl (show 13 < 14 by decide) (SqL.of hrg3) hrl (fun x hx H' R s' hr => ?_) fun D H4 hD s4 hD4 => ?_
    · obtain ⟨k, rfl⟩ := hri x hx
      have hS5 := s' _ _ hS4
      unfold wipe wipe
      walk_at "rwn"
      omega
    · intro e2 he2
      have s5 := s4.trans (Same.new (o := .lst []) he2)
      have hD5 := Same.new (o := .lst []) he2 _ _ hD4
      have hE5 : upd H4 e2 (.lst []) e2 = some (.lst []) := updS _ _ _
      generalize upd H4 e2 (.lst []) = H5 at *
      obtain ⟨ks, hks⟩ : ∃ ks : List Int, rg.filter (fun x => match x with | .int at_ => decide ((at_ - sp.pt) % (lv W j).s = 0) | _ => false) = ks.map V.int := by
        have : ∀ l : List V, (∀ x ∈ l, ∃ k : Int, x = .int k) → ∃ ks : List Int, l = ks.map V.int := fun l => by
          induction l with
          | nil => exact fun _ => ⟨[], rfl⟩
          | cons x l ih =>
            intro h
            obtain ⟨k, rfl⟩ := h x (List.mem_cons_self ..)
            obtain ⟨ks, rfl⟩ := ih fun y hy => h y (List.mem_cons_of_mem _ hy)
            exact ⟨k :: ks, rfl⟩
        exact this _ fun x hx => hri x (List.mem_filter.mp hx).1
      rw [hks] at hD5 hits
      refine ⟨.list (ks.map PyData.int), .list [], .lst (SqL.of hD5) (ddInts ks), .lst (SqL.of hE5) .nil, shaped_ints ks, by decide, ?_⟩
      rw [eqv_ints]
      refine ⟨_, rfl, ?_⟩
      have hfx5 := s5 _ _ hfx3
      have hq5 := s5 _ _ hq3
      have hos5 := hos3.same s5
      have hs5 := hs3.trans s5
      have hSp5 := hSp3.same s5
      have hvv : isVis (lv W j) sp.pt before here = true ↔ (sp.pt - before / (lv W j).g - 1) % (lv W j).s < here / (lv W j).g - before / (lv W j).g := by unfold isVis; exact decide_eq_true_iff
      have hjl : sp.lv = j := by omega
      by_cases hke : ks = []
      · subst hke
        rw [if_neg (by decide)]
        rw [if_neg (fun z => hits.mp rfl (hvv.mp z.2))] at hvis
        exact ⟨p, sp, xs, os, _, _, _, _, _, _, _, _, rfl, hs5, hSp5, hfx5, hq5, by omega, hos5, hvis⟩
      · have hne : (!ks.isEmpty) = true := by cases ks with
          | nil => exact absurd rfl hke
          | cons a l => rfl
        have hlt : (sp.pt - before / (lv W j).g - 1) % (lv W j).s < here / (lv W j).g - before / (lv W j).g := Classical.byContradiction fun z => hke (by
          have := hits.mpr z
          exact List.map_eq_nil_iff.mp this)
        rw [if_pos hne]
        rw [if_pos ⟨hjl, hvv.mpr hlt⟩] at hvis
        rw [seq1]
        walk_at "rwn"
        refine ⟨r, rv, p, here, rfl, W, B, sp, hR3.same s5, hRk, hV3.same s5, hSp5, fun v H6 s6 ho => ?_⟩
        have hf6 := s6 _ _ hfx5
        unfold tBM rAppend
        dsimp only
        rw [seq1]
        walk_at "rwn"
        have hsz : sizeLine = 16777216 := rfl
        have hol : (order W B).length = W.length := by unfold order; split <;> simp
        have hlen5 := hRk.ok.len
        refine ⟨.inl ⟨rfl, xs, SqL.of hf6⟩, by omega, ?_⟩
        have s7 : Same H (upd H6 f (.lst (xs ++ [v]))) := Same.updN (hs5.trans s6) hf
        have hx7 : OSps (upd H6 f (.lst (xs ++ [v]))) (xs ++ [v]) (os ++ [taken W B sp here]) := ((hos5.same s6).updL hf6).snoc (ho.updL hf6)
        cases hk : taken W B sp here with
        | none =>
          rw [hk] at ho hvis hx7
          obtain rfl : v = .non := ho
          have q7 := q f _ _ s7 hf upd_same (by rw [hvis]; exact hx7)
          walk_at "rwn"
        | some s' =>
          rw [hk] at ho hvis hx7
          obtain ⟨p2, rfl, hp2⟩ := id ho
          have hq6 := s6 _ _ hq5
          have hfin : ∀ v12 v13 : Option V, swInv K r rv f qd W B sp0 before here H (i + 1) [some (.ref r), some (.ref rv), some (.ref p2), some (.int before), some (.int here), some (.ref f), v6, some (.int (j : Nat)), some (.int (lv W j).g), some (.int (lv W j).s), some (.int (before / (lv W j).g + 1)), some (.int (here / (lv W j).g)), v12, v13] (upd H6 f (.lst (xs ++ [.ref p2]))) :=
            fun v12 v13 => ⟨p2, s', _, _, _, _, _, _, _, _, _, _, rfl, s7, by
              unfold SpAt at hp2 ⊢
              rw [upd_ne (fun e => by rw [e, hf6] at hp2; cases hp2)]
              exact hp2, upd_same, by rw [upd_ne hqf]; exact hq6, by simp; omega, hx7, by rw [hvis, List.append_assoc]; rfl⟩
          walk_at "rwn"
          first | exact hfin _ _ | skip
  · rw [if_neg (fun z => ht (by rw [z.1]))] at hvis
    exact ⟨p, sp, xs, os, _, _, _, _, _, _, _, _, rfl, s1, hS, hfx, hq, by omega, hos, hvis⟩
def t__law_sweep (K : Frag) (w : World) : TS :=
  (tSeq (tPar 5 6 (tCons (tLst tNil) (tCons (tLstRg (tRg1 (tCB rLenLH (tCons (tVar 0) tNil)))) tNil)))
  (tSeq (tFor (iList K (tIf (tTest (tOp rEq (tOp rIxLH (tVar 1) (tC (.int 2))) (tC (.str "high")))) (tRevL K (tVar 6)) (tVar 6))) (gName 7)
    (tIfS (tTest (tOp rEq (tOp rIxTH (tVar 2) (tC (.int 0))) (tVar 7))) (tSeq (tAsg (tSl (rSlT K) (tOp rIxLH (tVar 0) (tVar 7)) tNoPart (tPart (tC (.int 2)))) (gTup K 2 (gCons (gName 8) (gCons (gName 9) gNil))))
  (tSeq (tPar 10 11 (tCons (tOp oAdd (tOp oDiv (tVar 3) (tVar 8)) (tC (.int 1))) (tCons (tOp oDiv (tVar 4) (tVar 8)) tNil)))
  (tSeq (tAsg (tLstRgW (tRg2 (tVar 10) (tOp oAdd (tCB oMin2 (tCons (tCB oInt1 (tCons (tVar 11) tNil)) (tCons (tCB oInt1 (tCons (tOp oAdd (tVar 10) (tVar 9)) tNil)) tNil))) (tC (.int 1))))) (gName 12))
  (tIfS (tTest (tOp (rNeD K) (tLc (iList K (tVar 12)) (gName 13) (tTest (tOp rEq (tOp oMod (tOp oSub (tVar 13) (tOp rIxTH (tVar 2) (tC (.int 1)))) (tVar 9)) (tC (.int 0)))) (tVar 13) [13]) (tLst tNil))) (tSeq (tAsg (tFn (sp__law_out K) E0 (tCons (tVar 0) (tCons (tVar 1) (tCons (tVar 2) (tCons (tVar 4) tNil))))) (gName 2))
  (tSeq (tDrop (tBM K "list" rAppend (tVar 5) (tCons (tVar 2) tNil)))
  (tIfS (tTest (tOp oIsN (tVar 2) (tC .non))) (tRet (tVar 5)) tNext))) tNext)))) tNext))
  (tRet (tVar 5))))
def n__law_sweep : List Str := ["_law_rows", "_law_values", "_law_spot", "_law_before", "_law_here", "_law_found", "_law_indices", "_law_index", "_law_grain", "_law_slots", "_law_first", "_law_end", "_law_some", "_law_at"]
theorem rd__law_sweep (vs : List V) (H : Hp) (Q : VK) (E : XK) (h : sp__law_sweep K vs H Q E) : t__law_sweep K w { nx := fun _ H' => Q .non H', rt := Q } (L2.start n__law_sweep vs) H := by
  obtain ⟨r, rv, p, before, here, rfl, W, B, sp, hR, hRk, hV, hS, q⟩ := h
  have hpos := hRk.ok.pos
  have hlen := hRk.ok.len
  have hV1 := hV.six
  obtain ⟨ts, ha, hb, hc⟩ := id hR
  unfold t__law_sweep n__law_sweep
  rw [seq1]
  unfold tLstRg tRg1 tRevL
  walk_at "rwn"
  intro f hf
  have s0 := Same.new (o := .lst []) hf
  have ha0 := s0 _ _ ha
  have e1 : rgV 0 (W.length : Int) = (List.range W.length).map fun i => V.int (i : Nat) := by
    unfold rgV
    rw [show ((W.length : Int) - 0).toNat = W.length by omega]
    refine List.map_congr_left fun i _ => ?_
    rw [Int.zero_add]
  have hf0 : upd H f (.lst []) f = some (.lst []) := updS _ _ _
  generalize upd H f (.lst []) = H0 at *
  walk_at "rwn"
  refine ⟨RgOk.of_le (by omega) (by omega) (by omega) (by omega), fun i6 h6 => ?_⟩
  have s1 := s0.trans (Same.new (o := .lst ((List.range W.length).map fun i => V.int (i : Nat))) h6)
  have hf1 := Same.new (o := .lst ((List.range W.length).map fun i => V.int (i : Nat))) h6 _ _ hf0
  have h61 : upd H0 i6 (.lst ((List.range W.length).map fun i => V.int (i : Nat))) i6 = some (.lst ((List.range W.length).map fun i => V.int (i : Nat))) := updS _ _ _
  have hV1 := s1 _ _ hV1
  have hif : i6 ≠ f := fun e => by rw [e, hf0] at h6; cases h6
  generalize upd H0 i6 (.lst ((List.range W.length).map fun i => V.int (i : Nat))) = H1 at *
  have hb : B.high = true ∨ B.high = false := by cases B.high <;> simp
  rw [seq1]
  have hV2 : VlAt H1 rv B := ⟨hV1, hV.ok⟩
  refine for_high rfl hV2 ?_
  rcases hb with hb | hb
  · rw [if_pos hb]
    refine ⟨_, rfl, i6, rfl, _, SqL.of h61, fun qd hqd => ?_⟩
    have ho : ((List.range W.length).map fun i => V.int (i : Nat)).reverse = ordV W B := by unfold ordV order; rw [if_pos hb, List.map_reverse]
    rw [ho]
    have hf2 := Same.new (o := .lst (ordV W B)) hqd _ _ hf1
    have hq : upd H1 qd (.lst (ordV W B)) qd = some (.lst (ordV W B)) := updS _ _ _
    have s2 := s1.trans (Same.new (o := .lst (ordV W B)) hqd)
    have hqf : qd ≠ f := fun e => by rw [e, hf1] at hqd; cases hqd
    generalize upd H1 qd (.lst (ordV W B)) = H2 at *
    refine ⟨qd, rfl, ⟨_, SqL.of hq⟩, for_list (xs := ordV W B) (swInv K r rv f qd W B sp before here H) ⟨p, sp, [], [], _, _, _, _, _, _, _, _, rfl, s2, hS.same s2, hf2, hq, Nat.le_refl _, OSps.nil, rfl⟩ (fun i σ H' _ ⟨_, _, _, _, _, _, _, _, _, _, _, _, _, _, _, _, z, _⟩ => SqL.of z) (fun i x σ H' hx hI => sw_body hR hRk hV hf hqf rfl q i x σ H' hx hI) ?_⟩
    rintro σ H3 ⟨p', sp', xs, os, v6, v7, v8, v9, v10, v11, v12, v13, rfl, s3, hS3, hf3, hq3, hl3, hos, hvis⟩
    rw [List.drop_of_length_le (by unfold ordV; simp)] at hvis
    exact ⟨_, rfl, q f xs H3 s3 hf hf3 (by rw [hvis]; simpa [visGo] using hos)⟩
  · rw [if_neg (by rw [hb]; decide)]
    have ho : ((List.range W.length).map fun i => V.int (i : Nat)) = ordV W B := by unfold ordV order; rw [if_neg (by rw [hb]; decide)]
    rw [ho] at h61
    refine ⟨_, rfl, i6, rfl, ⟨_, SqL.of h61⟩, for_list (xs := ordV W B) (swInv K r rv f i6 W B sp before here H) ⟨p, sp, [], [], _, _, _, _, _, _, _, _, rfl, s1, hS.same s1, hf1, h61, Nat.le_refl _, OSps.nil, rfl⟩ (fun i σ H' _ ⟨_, _, _, _, _, _, _, _, _, _, _, _, _, _, _, _, z, _⟩ => SqL.of z) (fun i x σ H' hx hI => sw_body hR hRk hV hf hif rfl q i x σ H' hx hI) ?_⟩
    rintro σ H3 ⟨p', sp', xs, os, v6, v7, v8, v9, v10, v11, v12, v13, rfl, s3, hS3, hf3, hq3, hl3, hos, hvis⟩
    rw [List.drop_of_length_le (by unfold ordV; simp)] at hvis
    exact ⟨_, rfl, q f xs H3 s3 hf hf3 (by rw [hvis]; simpa [visGo] using hos)⟩
theorem OSps.count : ∀ {H : Hp} {xs : List V} {os : List (Option Spot)}, OSps H xs os → (xs.filter fun x => !decide (x = V.non)).length = (os.filter (·.isSome)).length
  | _, [], [], _ => rfl
  | _, [], _ :: _, h => by have := h.1; simp at this
  | _, _ :: _, [], h => by have := h.1; simp at this
  | H, x :: xs, o :: os, h => by
    have ih := OSps.count (H := H) (xs := xs) (os := os) ⟨by have := h.1; simpa using this, fun i v q e1 e2 => h.2 (i + 1) v q (by simpa using e1) (by simpa using e2)⟩
    have h0 := h.2 0 x o rfl rfl
    cases o with
    | none =>
      obtain rfl : x = .non := h0
      rw [List.filter_cons_of_neg (by simp), List.filter_cons_of_neg (by simp), ih]
    | some sp =>
      obtain ⟨p, rfl, _⟩ := h0
      rw [List.filter_cons_of_pos (by simp), List.filter_cons_of_pos (by simp), List.length_cons, List.length_cons, ih]
theorem visGo_somes {W : List Lv} {B : Bk} {b n : Int} : ∀ (is : List Nat) (sp : Spot), ((visGo W B b n is sp).getLast? = some none → ((visGo W B b n is sp).filter (·.isSome)).length + 1 = (visGo W B b n is sp).length) ∧
    ((∀ sp', (visGo W B b n is sp).getLast? = some (some sp') → ((visGo W B b n is sp).filter (·.isSome)).length = (visGo W B b n is sp).length))
  | [], sp => ⟨fun h => by simp [visGo] at h, fun sp' h => by simp [visGo] at h⟩
  | i :: is, sp => by
    unfold visGo
    split
    · cases hk : taken W B sp n with
      | none => exact ⟨fun _ => rfl, fun sp' h => by simp at h⟩
      | some s' =>
        obtain ⟨h1, h2⟩ := visGo_somes is s' (W := W) (B := B) (b := b) (n := n)
        dsimp only
        rw [List.filter_cons_of_pos (by simp), List.length_cons, List.length_cons, List.getLast?_cons]
        refine ⟨fun h => ?_, fun sp' h => ?_⟩
        · cases hl : (visGo W B b n is s').getLast? with
          | none => rw [hl] at h; simp at h
          | some o =>
            rw [hl] at h
            obtain rfl : o = none := by simpa using h
            have := h1 hl
            omega
        · cases hl : (visGo W B b n is s').getLast? with
          | none =>
            have := List.getLast?_eq_none_iff.mp hl
            rw [this]
            rfl
          | some o =>
            rw [hl] at h
            obtain rfl : o = some sp' := by simpa using h
            have := h2 sp' hl
            omega
    · exact visGo_somes is sp
def sp__law_run (K : Frag) : Sp := fun vs H Q _ => ∃ (r rv p : Addr) (here : Int) (lim : Option Int), vs = [.ref r, .ref rv, .ref p, .int here, optV lim] ∧ ∃ W B sp, RowsAt H r W ∧ RWk W ∧ VlAt H rv B ∧ SpAt H p sp ∧ sp.lv < W.length ∧
  ∀ n res, wl W B lim n sp here 0 = some res → ∀ v f H', Same H H' → OSp H' v res.1 → H' f = some (.lst [v, .int res.2.1, .int res.2.2]) → Q (.ref f) H'
def runInv (r rv : Addr) (here : Int) (lim : Option Int) (W : List Lv) (B : Bk) (res : Res) (H : Hp) (m : Nat) (σ : L2.St) (H' : Hp) : Prop :=
  (∃ (p : Addr) (sp : Spot) (tick mv : Int) (v7 v8 v9 : Option V), σ = [some (.ref r), some (.ref rv), some (.ref p), some (.int here), some (optV lim), some (.int tick), some (.int mv), v7, v8, v9] ∧ Same H H' ∧ SpAt H' p sp ∧ sp.lv < W.length ∧ wl W B lim m sp tick mv = some res) ∨
  (∃ (tick mv : Int) (v7 v8 v9 : Option V), m = 0 ∧ σ = [some (.ref r), some (.ref rv), some .non, some (.int here), some (optV lim), some (.int tick), some (.int mv), v7, v8, v9] ∧ Same H H' ∧ res = (none, tick, mv))
def t__law_run (K : Frag) (w : World) : TS :=
  (tSeq (tPar 5 6 (tCons (tVar 3) (tCons (tC (.int 0)) tNil)))
  (tSeq (tWhile (tTest (tOp oNotN (tVar 2) (tC .non)))
    (tSeq (tAsg (tFn (sp__law_visit K) E0 (tCons (tVar 0) (tCons (tVar 2) (tCons (tVar 5) tNil)))) (gName 7))
  (tSeq (tIfS (tAnd (tTest (tOp oNotN (tVar 4) (tC .non))) (tTest (tOp oGt (tVar 7) (tVar 4)))) (tRet (tLst (tCons (tVar 2) (tCons (tVar 5) (tCons (tVar 6) tNil))))) tNext)
  (tSeq (tAsg (tFn (sp__law_sweep K) E0 (tCons (tVar 0) (tCons (tVar 1) (tCons (tVar 2) (tCons (tOp oSub (tVar 7) (tC (.int 1))) (tCons (tVar 7) tNil)))))) (gName 8))
  (tSeq (tPar 5 2 (tCons (tVar 7) (tCons (tOp rIxLH (tVar 8) (tUn oNeg (tC (.int 1)))) tNil)))
  (tAsg (tOp oAdd (tVar 6) (tCB rLenLH (tCons (tLc (iList K (tVar 8)) (gName 9) (tTest (tOp oNotN (tVar 9) (tC .non))) (tVar 9) [9]) tNil))) (gName 6)))))))
  (tRet (tLst (tCons (tC .non) (tCons (tVar 5) (tCons (tVar 6) tNil)))))))
def n__law_run : List Str := ["_law_rows", "_law_values", "_law_spot", "_law_here", "_law_limit", "_law_tick", "_law_many", "_law_at", "_law_found", "_law_one"]
theorem rd__law_run (vs : List V) (H : Hp) (Q : VK) (E : XK) (h : sp__law_run K vs H Q E) : t__law_run K w { nx := fun _ H' => Q .non H', rt := Q } (L2.start n__law_run vs) H := by
  obtain ⟨r, rv, p, here, lim, rfl, W, B, sp, hR, hRk, hV, hS, hl, q⟩ := h
  obtain ⟨res, hres⟩ := wl_ends hRk.ok B lim (mu sp here) sp here 0 hl (Nat.le_refl _)
  have q := q _ _ hres
  unfold t__law_run n__law_run
  rw [seq1]
  walk_at "rwn"
  rw [seq1]
  refine ⟨runInv r rv here lim W B res H, ⟨_, .inl ⟨p, sp, here, 0, _, _, _, rfl, Same.refl H, hS, hl, hres⟩⟩, ?_⟩
  rintro m σ H1 (⟨p, sp, tick, mv, v7, v8, v9, rfl, s1, hS, hl, hw⟩ | ⟨tick, mv, v7, v8, v9, rfl, rfl, s1, rfl⟩)
  · walk_at "rwn"
    cases m with
    | zero => cases hw
    | succ m =>
      refine ⟨fun σ' H' => ∃ m', m' < m + 1 ∧ runInv r rv here lim W B res H m' σ' H', fun σ' H' z => z, ?_⟩
      rw [seq1]
      walk_at "rwn"
      refine ⟨r, p, tick, rfl, W, sp, hR.same s1, hRk, hS, hl, fun H2 s2 => ?_⟩
      dsimp only
      rw [seq1]
      have hgt := va_step hRk.ok hl sp.pt tick
      unfold wl at hw
      dsimp only at hw
      walk_at "rwn"
      refine limSplit (fun ho => ?_) fun ho => ?_
      · rw [if_pos ho] at hw
        obtain rfl := Option.some.inj hw
        intro f hf
        exact q (.ref p) f _ ((s1.trans s2).trans (Same.new hf)) ⟨p, rfl, (hS.same s2).same (Same.new hf)⟩ (updS _ _ _)
      · rw [if_neg (by rw [ho]; exact Bool.false_ne_true)] at hw
        rw [seq1]
        walk_at "rwn"
        have s12 := s1.trans s2
        refine ⟨r, rv, p, _, _, rfl, W, B, sp, hR.same s12, hRk, hV.same s12, hS.same s2, fun f xs H3 s3 hfn hf hos => ?_⟩
        dsimp only
        rw [seq1]
        have hne := visited_ne hRk.ok (B := B) hl tick
        obtain ⟨f1, f2⟩ := visGo_somes (W := W) (B := B) (b := va (lv W sp.lv) sp.pt tick - 1) (n := va (lv W sp.lv) sp.pt tick) (order W B) sp
        have hcount := hos.count
        cases hq : (visited W B sp (va (lv W sp.lv) sp.pt tick - 1) (va (lv W sp.lv) sp.pt tick)).getLast? with
        | none => exact absurd (List.getLast?_eq_none_iff.mp hq) hne
        | some o =>
          rw [hq] at hw
          obtain ⟨v, hv1, hov⟩ := hos.last hq
          have hat := atI_m1 hv1
          have s13 := s12.trans s3
          generalize va (lv W sp.lv) sp.pt tick = t at *
          have hxl : xs.length ≤ 1000 := by
            have h1 := hos.1
            have h2 : (visited W B sp (t - 1) t).length ≤ (order W B).length := by
              have : ∀ (is : List Nat) (sp : Spot), (visGo W B (t - 1) t is sp).length ≤ is.length := fun is => by
                induction is with
                | nil => exact fun _ => Nat.le_refl _
                | cons i is ih =>
                  intro sp
                  unfold visGo
                  split
                  · cases taken W B sp t with
                    | none => exact Nat.succ_le_succ (Nat.zero_le _)
                    | some s' => exact Nat.succ_le_succ (ih s')
                  · exact Nat.le_succ_of_le (ih sp)
              exact this _ _
            have h3 : (order W B).length = W.length := by unfold order; split <;> simp
            have := hRk.ok.len
            omega
          cases o with
          | none =>
            obtain rfl := Option.some.inj hw
            obtain rfl : v = .non := hov
            walk_at "rwn"
            refine lcF (a := f) (xs := xs) (fun x => !decide (x = V.non)) rfl (show 9 < 10 by decide) (SqL.of hf) hxl (fun x hx H' R s' hr => ?_) fun D H4 hD s4 hD4 => ⟨D, rfl, _, hD4, 0, by omega, .inr ⟨_, _, _, _, _, rfl, rfl, s13.trans s4, ?_⟩⟩
            · unfold wipe wipe
              walk_at "rwn"
            · rw [hcount]
              have h1 : ((visited W B sp (t - 1) t).filter (·.isSome)).length + 1 = (visited W B sp (t - 1) t).length := f1 hq
              rw [show mv + ((visited W B sp (t - 1) t).length : Int) - 1 = mv + (((visited W B sp (t - 1) t).filter (·.isSome)).length : Int) by omega]
          | some sp' =>
            dsimp only at hw
            obtain ⟨p', rfl, hp'⟩ := hov
            have hmu := mu_step hRk.ok hgt.1 hq
            walk_at "rwn"
            refine lcF (a := f) (xs := xs) (fun x => !decide (x = V.non)) rfl (show 9 < 10 by decide) (SqL.of hf) hxl (fun x hx H' R s' hr => ?_) fun D H4 hD s4 hD4 => ⟨D, rfl, _, hD4, m, by omega, .inl ⟨p', sp', t, _, _, _, _, rfl, s13.trans s4, hp'.same s4, hmu.2.1, ?_⟩⟩
            · unfold wipe wipe
              walk_at "rwn"
            · rw [hcount]
              have h1 : ((visited W B sp (t - 1) t).filter (·.isSome)).length = (visited W B sp (t - 1) t).length := f2 sp' hq
              rw [h1]
              exact hw
  · walk_at "rwn"
    intro f hf
    exact q .non f _ (s1.trans (Same.new hf)) rfl (updS _ _ _)
/-- the law's own tick of firing -/
def wfin (W : List Lv) (B : Bk) (start delay : Int) : Int × Int := match placeM W B start delay with
  | none => (start, 0)
  | some sp => match wl W B none (mu sp start) sp start 0 with
    | none => (0, 0)
    | some r => r.2
theorem placeM_proper {W : List Lv} (ok : WOk W) {B : Bk} {now delay : Int} {sp : Spot} (hd : 0 ≤ delay) (h : placeM W B now delay = some sp) : Proper W sp now := by
  have hre : 2 ≤ reach W := (ok.all (W.length - 1) (by have := ok.pos; omega)).2.2.2.2
  unfold placeM at h
  split at h
  · cases h
  · obtain rfl := Option.some.inj h
    intro z
    rw [spotAt_due] at z
    have hz : reach W ≤ (if reach W ≤ (if 1 > delay then 1 else delay) ∧ B.bey = 2 then reach W - 1 else (if 1 > delay then 1 else delay)) := by
      omega
    rw [spotAt_far ok hz]
/-- it is the package's -/
theorem wfin_fin {W : List Lv} (ok : WOk W) (B : Bk) {start delay : Int} (hd : 0 ≤ delay) : wfin W B start delay = fin W B start delay := by
  unfold wfin fin
  cases h : placeM W B start delay with
  | none => rfl
  | some sp =>
    dsimp only
    obtain ⟨r, hr⟩ := fol_ends ok B none (mu sp start) sp start 0 (placeM_lt ok h) (Nat.le_refl _)
    obtain ⟨r', hr'⟩ := wl_ends ok B none (mu sp start) sp start 0 (placeM_lt ok h) (Nat.le_refl _)
    obtain ⟨m, hm⟩ := fol_wl ok _ (placeM_proper ok hd h) (placeM_lt ok h) hr
    rw [hr, hr', wl_eq hr' hm]
def sp__law_fire (K : Frag) : Sp := fun vs H Q _ => ∃ (r rv : Addr) (start delay : Int), vs = [.ref r, .ref rv, .int start, .int delay] ∧ ∃ W B, RowsAt H r W ∧ RWk W ∧ VlAt H rv B ∧ 0 ≤ delay ∧ (reach W ≤ delay → B.bey ≠ 0) ∧ ∀ H', Same H H' → Q (.int (fin W B start delay).1) H'
def t__law_fire (K : Frag) (w : World) : TS :=
  (tSeq (tAsg (tFn (sp__law_put K) E0 (tCons (tVar 0) (tCons (tVar 1) (tCons (tVar 2) (tCons (tVar 3) tNil))))) (gName 4))
  (tRet (tIf (tTest (tOp oIsN (tVar 4) (tC .non))) (tVar 2) (tOp rIxLH (tFn (sp__law_run K) E0 (tCons (tVar 0) (tCons (tVar 1) (tCons (tVar 4) (tCons (tVar 2) (tCons (tC .non) tNil)))))) (tC (.int 1))))))
def n__law_fire : List Str := ["_law_rows", "_law_values", "_law_start_here", "_law_delay_here", "_law_spot"]
theorem rd__law_fire (vs : List V) (H : Hp) (Q : VK) (E : XK) (h : sp__law_fire K vs H Q E) : t__law_fire K w { nx := fun _ H' => Q .non H', rt := Q } (L2.start n__law_fire vs) H := by
  obtain ⟨r, rv, start, delay, rfl, W, B, hR, hRk, hV, hd, hb, q⟩ := h
  rw [← wfin_fin hRk.ok B hd] at q
  unfold t__law_fire n__law_fire
  walk_at "rwl"
  refine ⟨r, rv, start, delay, rfl, W, B, hR, hRk, hV, hd, hb, fun v H1 s1 ho => ?_⟩
  cases hp : placeM W B start delay with
  | none =>
    rw [hp] at ho
    obtain rfl : v = .non := ho
    unfold wfin at q
    rw [hp] at q
    rw [if_pos rfl]
    exact q _ s1
  | some sp =>
    rw [hp] at ho
    obtain ⟨p, rfl, hsp⟩ := ho
    have hl := placeM_lt hRk.ok hp
    rw [if_neg (by intro z; cases z)]
    refine ⟨r, rv, p, start, none, rfl, W, B, sp, hR.same s1, hRk, hV.same s1, hsp, hl, fun n res hw v f H2 s2 ho2 hf => ?_⟩
    obtain ⟨r', hr'⟩ := wl_ends hRk.ok B none (mu sp start) sp start 0 hl (Nat.le_refl _)
    unfold wfin at q
    rw [hp] at q
    dsimp only at q
    rw [hr', wl_eq hr' hw] at q
    exact ⟨f, rfl, _, hf, _, rfl, q _ (s1.trans s2)⟩
end
end Tw
/-! Tw: lumps -/
namespace Tw
open PySem PySem.Spec PyProof.Rows L2 He TwM StX
open PySem.W (Frag)
local macro_rules | `(tactic| walk_at "rsf") => `(tactic| simp only [*, at3_0, at3_1, at3_2, at2_0, at2_1, updS, upd_two, gSub, rSetL, updN, and_assoc, not_true_eq_false, not_false_eq_true, tNever, List.length_map, tFld, rIxTH, rIxLH, rLenTH, rLenLH, lk1, lfs_g, lfs_s, lfs_p, HO.ins.injEq, HO.tup.injEq, HO.lst.injEq, sp_Book_rounding, sp_Book_action, sp_Book_order, sp_Book_due, sp_Book_zero, sp_Book_beyond, Int.toNat_natCast, sp_visit_after, sp_is_visited, sp_Level_grain, sp_Level_slots, sp_Level_span, sp_Wheel_reach, sp_Wheel___len__, sp_is_integer, sp_is_count, sp_is_within, sp_rounded, tSeq, tAsg, gName, tVar, tC, tOp, rI, rI0, rU, tUn, oAdd, oSub, oMul, oDiv, oMod, oNeg, oLt, oLe, oGt, oGe, oIsN, oNotN, tFn, tCons, tNil, tIfS, tIf, tTest, tB, tNot, tAnd, tOr, tAndV, tOrV, tNotV,
    tRet, tRetN, tNext, tCB, tDrop, tChain, rEq, rNe, oMax2, oMin2, oInt1, rLenF, L2.start, List.map_cons, List.map_nil, List.length_cons, List.length_nil, List.replicate_succ, List.replicate_zero, List.cons_append, List.nil_append, Nat.reduceAdd, Nat.reduceSub, Nat.zero_add,
    List.set_cons_zero, List.set_cons_succ, List.getElem?_cons_zero, List.getElem?_cons_succ, Option.some.injEq, V.int.injEq, V.ref.injEq, V.str.injEq, V.bl.injEq, exists_eq_left', exists_eq_left, exists_and_left, List.cons.injEq, and_true, true_and, decide_eq_true_eq, sc_ii, sc_ss, sc_bb, sc_ni, sc_in, sc_nn, sc_is, reduceCtorEq,
    Bool.not_eq_true', decide_eq_false_iff_not, if_true, if_false, Bool.false_eq_true, exists_eq', exists_const, false_and, and_false, or_false, false_or, exists_false, Bool.not_not, Bool.not_true, Bool.not_false, sUp_up, sFire_fire, sHigh_high, sPut_put, sZone_now, sBey_refuse, sBey_cut, tTup, tLst, sz0, sz1, sz2, sz3, sz4, sz5, sz6])
section
variable {K : Frag} {w : World}
def sp_passed_lump (K : Frag) : Sp := fun vs H Q _ => ∃ (a b p : Addr) (before now : Int) (mode : Str), vs = [.ref a, .ref b, .ref p, .int before, .int now, .str mode] ∧ ∃ W B sp, WhAt K H a W ∧ BkAt K H b B ∧ SpAt H p sp ∧ sp.lv < W.length ∧
  ∀ v H', Same H H' → OSp H' v (passM W B sp before now mode) → Q v H'
theorem pass_rest {H : Hp} {Q : VK} {a b p : Addr} {bf now : Int} {W : List Lv} {B : Bk} {sp : Spot} (hW : WhAt K H a W) (hB : BkAt K H b B) (hS : SpAt H p sp)
    (q : ∀ v H', Same H H' → OSp H' v (match (visited W B sp bf now).getLast? with | none => some sp | some o => o) → Q v H') :
    sp_visited K [V.ref a, V.ref b, V.ref p, V.int bf, V.int now] H (fun x H1 => ∀ (p_1 : Addr), H1 p_1 = none → rEqD K x (V.ref p_1) (upd H1 p_1 (HO.lst [])) fun x_1 H' =>
      ∃ k, x_1 = V.bl k ∧ if k = true then Q (V.ref p) H' else ∃ p, x = V.ref p ∧ ∃ x, H' p = some (HO.lst x) ∧ ∃ x_2, atI x (-1) = some x_2 ∧ Q x_2 H') E0 := by
  refine ⟨a, b, p, _, _, rfl, W, B, sp, hW, hB, hS, fun f xs H1 s1 hfn hf hos r hr => ?_⟩
  have s2 : Same H1 (upd H1 r (.lst [])) := Same.new hr
  have hf2 := s2 _ _ hf
  have hos2 := hos.same s2
  refine ⟨.list ((visited W B sp bf now).map dSp), .list [], .lst (SqL.of hf2) hos2.dp, .lst (SqL.of upd_same) .nil, shaped_list _, by decide, _, rfl, ?_⟩
  rw [eqv_nil]
  cases hv : (visited W B sp bf now).getLast? with
  | none =>
    rw [hv] at q
    have e := List.getLast?_eq_none_iff.mp hv
    rw [e, if_pos (show ([] : List (Option Spot)).isEmpty = true from rfl)]
    exact q _ _ (s1.trans s2) ⟨p, rfl, (hS.same s1).same s2⟩
  | some o =>
    rw [hv] at q
    obtain ⟨v, hv1, hov⟩ := hos2.last hv
    rw [if_neg (fun z => by rw [List.isEmpty_iff.mp z] at hv; cases hv)]
    exact ⟨f, rfl, xs, hf2, v, atI_m1 hv1, q v _ (s1.trans s2) hov⟩
def t_passed_lump (K : Frag) (w : World) : TS :=
  (tSeq (tIfS (tTest (tOp rEq (tVar 5) (tC (.str "each")))) (tRet (tOp rIxTH (tFn (sp_followed K) E0 (tCons (tVar 0) (tCons (tVar 1) (tCons (tVar 2) (tCons (tVar 3) (tCons (tVar 4) tNil)))))) (tC (.int 0)))) tNext)
  (tSeq (tAsg (tFn (sp_visited K) E0 (tCons (tVar 0) (tCons (tVar 1) (tCons (tVar 2) (tCons (tIf (tTest (tOp rEq (tVar 5) (tC (.str "last")))) (tOp oSub (tVar 4) (tC (.int 1))) (tVar 3)) (tCons (tVar 4) tNil)))))) (gName 6))
  (tSeq (tIfS (tTest (tOp (rEqD K) (tVar 6) (tLst tNil))) (tRet (tVar 2)) tNext)
  (tRet (tOp rIxLH (tVar 6) (tUn oNeg (tC (.int 1))))))))
def n_passed_lump : List Str := ["wheel", "book", "spot", "before", "now", "mode", "found"]
theorem rd_passed_lump (vs : List V) (H : Hp) (Q : VK) (E : XK) (h : sp_passed_lump K vs H Q E) : t_passed_lump K w { nx := fun _ H' => Q .non H', rt := Q } (L2.start n_passed_lump vs) H := by
  obtain ⟨a, b, p, before, now, mode, rfl, W, B, sp, hW, hB, hS, hl, q⟩ := h
  unfold t_passed_lump n_passed_lump
  walk_at "rsf"
  unfold passM at q
  refine ite2 (fun h1 => ?_) fun h1 => ?_
  · rw [if_pos h1] at q
    refine ⟨a, b, p, before, some now, rfl, W, B, sp, hW, hB, hS, hl, fun n r hr v f H1 s1 ho hf => ?_⟩
    obtain ⟨r', hr'⟩ := fol_ends hW.ok B (some now) (mu sp before) sp before 0 hl (Nat.le_refl _)
    have e1 := fol_mono _ hr' (max n (mu sp before)) (Nat.le_max_right _ _)
    have e2 := fol_mono _ hr (max n (mu sp before)) (Nat.le_max_left _ _)
    rw [e1] at e2
    obtain rfl := Option.some.inj e2
    rw [hr'] at q
    exact ⟨f, rfl, _, hf, v, rfl, q v H1 s1 ho⟩
  · rw [if_neg h1] at q
    refine ite2 (fun h2 => ?_) fun h2 => ?_
    · rw [if_pos h2] at q
      exact pass_rest hW hB hS q
    · rw [if_neg h2] at q
      exact pass_rest hW hB hS q
def sp_passed (K : Frag) : Sp := fun vs H Q _ => ∃ (a b p : Addr) (before now : Int) (mode : Str), vs = [.ref a, .ref b, .ref p, .int before, .int now, .str mode] ∧ ∃ W B sp, WhAt K H a W ∧ BkAt K H b B ∧ SpAt H p sp ∧ sp.lv < W.length ∧ 0 ≤ before ∧ before < now ∧
  (mode = "each" ∨ mode = "last" ∨ mode = "slots") ∧ ∀ v H', Same H H' → OSp H' v (passM W B sp before now mode) → Q v H'
def t_passed (K : Frag) (w : World) : TS :=
  (tSeq (tIfS (tNot (tB (tFn (sp_is_count K) E0 (tCons (tVar 3) tNil)))) tNever tNext)
  (tSeq (tIfS (tOr (tNot (tB (tFn (sp_is_integer K) E0 (tCons (tVar 4) tNil)))) (tTest (tOp oLe (tVar 4) (tVar 3)))) tNever tNext)
  (tSeq (tIfS (tOr (tNot (tB (tCB (rIsi K) (tCons (tVar 5) (tCons (tC (.ty "str")) tNil))))) (tTest (tOp (rIn K true) (tVar 5) (tC (.ref (ga K "MODES")))))) tNever tNext)
  (tRet (tFn (sp_passed_lump K) E0 (tCons (tVar 0) (tCons (tVar 1) (tCons (tVar 2) (tCons (tVar 3) (tCons (tVar 4) (tCons (tVar 5) tNil)))))))))))
def n_passed : List Str := ["wheel", "book", "spot", "before", "now", "mode"]
theorem rd_passed (T : Kg K) (vs : List V) (H : Hp) (Q : VK) (E : XK) (h : sp_passed K vs H Q E) : t_passed K w { nx := fun _ H' => Q .non H', rt := Q } (L2.start n_passed vs) H := by
  obtain ⟨a, b, p, before, now, mode, rfl, W, B, sp, hW, hB, hS, hl, h0, h1, hm, q⟩ := h
  have hin : (if true = true then !inV (.str mode) [.str "each", .str "last", .str "slots"] else inV (.str mode) [.str "each", .str "last", .str "slots"]) = false := by
    rcases hm with rfl | rfl | rfl <;> decide +kernel
  unfold t_passed n_passed
  walk_at "rsf"
  rw [if_neg (by omega)]
  refine isi_base (.base (.str mode)) (b := true) (by decide +kernel) ⟨_, rfl, ?_⟩
  rw [if_neg Bool.noConfusion]
  refine ⟨_, _, rfl, .inr (T.md _), rfl, by decide +kernel, _, rfl, ?_⟩
  rw [hin, if_neg Bool.false_ne_true]
  exact ⟨a, b, p, before, now, mode, rfl, W, B, sp, hW, hB, hS, hl, q⟩
end
end Tw
/-! Tw: delays of any size -/
namespace Tw
open TwM
section
variable {W : List Lv} {B : Bk} {lim : Option Int}
/-- how far a timer beyond the range goes on -/
def stepM (W : List Lv) (B : Bk) : Int := ((rnd B.up (reach W - 1) (lv W (W.length - 1)).g - 1) % (lv W (W.length - 1)).s + 1) * (lv W (W.length - 1)).g
theorem stepM_va (ok : WOk W) {t : Int} (hg : (lv W (W.length - 1)).g ∣ t) : va (lv W (W.length - 1)) (rnd B.up (t + reach W - 1) (lv W (W.length - 1)).g) t = t + stepM W B := by
  have hall := ok.all (W.length - 1) (by have := ok.pos; omega)
  have e : rnd B.up (t + reach W - 1) (lv W (W.length - 1)).g = rnd B.up (reach W - 1) (lv W (W.length - 1)).g + t / (lv W (W.length - 1)).g := by
    rw [show t + reach W - 1 = (reach W - 1) + t by omega]
    exact rnd_shiftD (by omega) hg
  unfold va stepM
  rw [e]
  generalize rnd B.up (reach W - 1) (lv W (W.length - 1)).g = p
  obtain ⟨z, rfl⟩ := hg
  rw [Int.mul_ediv_cancel_left _ (by omega), show p + z - z - 1 = p - 1 by omega, show z + 1 + (p - 1) % (lv W (W.length - 1)).s = z + ((p - 1) % (lv W (W.length - 1)).s + 1) by omega, Int.add_mul, Int.mul_comm z]
theorem stepM_pos (ok : WOk W) : 1 ≤ stepM W B ∧ stepM W B ≤ 100000 ∧ (lv W (W.length - 1)).g ∣ stepM W B := by
  have hall := ok.all (W.length - 1) (by have := ok.pos; omega)
  unfold stepM
  have h0 := Int.emod_nonneg (rnd B.up (reach W - 1) (lv W (W.length - 1)).g - 1) (b := (lv W (W.length - 1)).s) (by omega)
  have h1 := Int.emod_lt_of_pos (rnd B.up (reach W - 1) (lv W (W.length - 1)).g - 1) (b := (lv W (W.length - 1)).s) (by omega)
  refine ⟨?_, ?_, Int.dvd_mul_left _ _⟩
  · have : 1 * 1 ≤ ((rnd B.up (reach W - 1) (lv W (W.length - 1)).g - 1) % (lv W (W.length - 1)).s + 1) * (lv W (W.length - 1)).g := Int.mul_le_mul (by omega) (by omega) (by omega) (by omega)
    omega
  · have : ((rnd B.up (reach W - 1) (lv W (W.length - 1)).g - 1) % (lv W (W.length - 1)).s + 1) * (lv W (W.length - 1)).g ≤ 100 * 1000 := Int.mul_le_mul (by omega) (by omega) (by omega) (by omega)
    omega
theorem wl_mv : ∀ (n : Nat) {sp : Spot} {tick mv c : Int} {r : Res}, wl W B lim n sp tick mv = some r → wl W B lim n sp tick (mv + c) = some (r.1, r.2.1, r.2.2 + c)
  | 0, _, _, _, _, _, h => by cases h
  | n + 1, sp, tick, mv, c, r, h => by
    unfold wl at h ⊢
    dsimp only at h ⊢
    split at h
    · rename_i ho
      rw [if_pos ho]
      cases h
      rfl
    · rename_i ho
      rw [if_neg ho]
      split at h
      · cases h
      · cases h
        dsimp only
        congr 3
        omega
      · have := wl_mv n (c := c) h
        rw [← this]
        congr 1
        omega
theorem visGo_none {b n : Int} : ∀ (is : List Nat) {sp : Spot}, taken W B sp n = none → sp.lv ∈ is → isVis (lv W sp.lv) sp.pt b n = true → visGo W B b n is sp = [none]
  | [], sp, _, h, _ => by simp at h
  | i :: is, sp, ht, h, hv => by
    unfold visGo
    by_cases e : sp.lv = i
    · rw [if_pos ⟨e, by rw [← e]; exact hv⟩, ht]
    · rw [if_neg (fun z => e z.1)]
      exact visGo_none is ht (by rcases List.mem_cons.mp h with q | q; exact absurd q e; exact q) hv
/-- fired at the first visit -/
theorem fin_first (ok : WOk W) {start delay : Int} {sp : Spot} (hp : placeM W B start delay = some sp) (hk : sp.lv = 0 ∨ B.fire = true) : fin W B start delay = (va (lv W sp.lv) sp.pt start, 0) := by
  have hl := placeM_lt ok hp
  have hall := ok.all _ hl
  have ht : taken W B sp (va (lv W sp.lv) sp.pt start) = none := by unfold taken; rw [if_pos hk]
  have hv : visited W B sp (va (lv W sp.lv) sp.pt start - 1) (va (lv W sp.lv) sp.pt start) = [none] := visGo_none _ ht (mem_order.mpr hl) (va_vis (by omega) (by omega) _ _)
  have hf : fol W B none 1 sp start 0 = some (none, va (lv W sp.lv) sp.pt start, 0) := by
    unfold fol
    dsimp only
    rw [show over none (va (lv W sp.lv) sp.pt start) = false from rfl, if_neg Bool.false_ne_true, hv]
    rfl
  rw [fin_some hp ok hl hf]
theorem placeM_far (ok : WOk W) {start delay : Int} (h : reach W ≤ delay) : placeM W B start delay = if B.bey = 2 then some (spotAt W B start (reach W - 1) (start + (reach W - 1))) else some ⟨W.length - 1, rnd B.up (start + reach W - 1) (lv W (W.length - 1)).g, start + delay⟩ := by
  have hre : 2 ≤ reach W := (ok.all (W.length - 1) (by have := ok.pos; omega)).2.2.2.2
  unfold placeM
  rw [if_neg (fun z => by have := z.1; omega)]
  dsimp only
  rw [if_neg (show ¬ (1 : Int) > delay by omega)]
  by_cases hb : B.bey = 2
  · rw [if_pos ⟨h, hb⟩, if_pos hb]
  · rw [if_neg (fun z => hb z.2), if_neg hb, spotAt_far ok h]
/-- cut, or fired at once: the delay beyond the range does not matter -/
theorem fin_same (ok : WOk W) {start d d' : Int} (h : reach W ≤ d) (h' : reach W ≤ d') (hk : B.bey = 2 ∨ B.fire = true ∨ W.length = 1) : fin W B start d = fin W B start d' := by
  by_cases hb : B.bey = 2
  · unfold fin
    rw [placeM_far ok h, placeM_far ok h', if_pos hb, if_pos hb]
  · have p1 := placeM_far (B := B) ok (start := start) h
    have p2 := placeM_far (B := B) ok (start := start) h'
    rw [if_neg hb] at p1 p2
    have hk' : (W.length - 1 = 0) ∨ B.fire = true := by
      rcases hk with z | z | z
      · exact absurd z hb
      · exact .inr z
      · exact .inl (by omega)
    rw [fin_first ok p1 hk', fin_first ok p2 hk']
/-- moved: so many visits more -/
theorem fin_more (ok : WOk W) {start d : Int} (many : Nat) (hf : B.fire = false) (h1 : 1 < W.length) (hb : B.bey ≠ 2) (hd : reach W + (lv W (W.length - 1)).g * (lv W (W.length - 1)).s ≤ d) :
    fin W B start (d + stepM W B * many) = ((fin W B start d).1 + stepM W B * many, (fin W B start d).2 + many) := by
  have hall := ok.all (W.length - 1) (by omega)
  have hgs0 : 1 * 1 ≤ (lv W (W.length - 1)).g * (lv W (W.length - 1)).s := Int.mul_le_mul (by omega) (by omega) (by omega) (by omega)
  obtain ⟨st1, st2, st3⟩ := stepM_pos (B := B) ok
  have hD0 : 0 ≤ stepM W B * many := Int.mul_nonneg (by omega) (by omega)
  have hre : 2 ≤ reach W := hall.2.2.2.2
  have p1 := placeM_far (B := B) ok (start := start) (delay := d) (by omega)
  have p2 := placeM_far (B := B) ok (start := start) (delay := d + stepM W B * many) (by omega)
  rw [if_neg hb] at p1 p2
  have l1 := placeM_lt ok p1
  have l2 := placeM_lt ok p2
  rw [← wfin_fin ok B (by omega), ← wfin_fin ok B (by omega)]
  have key : ∀ {d' : Int} {sp : Spot}, placeM W B start d' = some sp → ∀ {n r}, wl W B none n sp start 0 = some r → wfin W B start d' = r.2 := fun {d' sp} hp {n r} hw => by
    unfold wfin
    rw [hp]
    obtain ⟨r', hr'⟩ := wl_ends ok B none (mu sp start) sp start 0 (placeM_lt ok hp) (Nat.le_refl _)
    dsimp only
    rw [hr', wl_eq hr' hw]
  -- the first visit
  generalize ht : va (lv W (W.length - 1)) (rnd B.up (start + reach W - 1) (lv W (W.length - 1)).g) start = t
  have hgt : start < t ∧ t ≤ start + (lv W (W.length - 1)).g * (lv W (W.length - 1)).s := by
    rw [← ht, Int.mul_comm (lv W (W.length - 1)).g]
    exact ⟨va_gt (by omega) (by omega) _ _, va_most (by omega) (by omega) _ _⟩
  have hg : (lv W (W.length - 1)).g ∣ t := by rw [← ht]; exact Int.dvd_mul_left _ _
  have first : ∀ {d' : Int} (n : Nat), d ≤ d' → wl W B none (n + 1) ⟨W.length - 1, rnd B.up (start + reach W - 1) (lv W (W.length - 1)).g, start + d'⟩ start 0 = wl W B none n (spotAt W B t (start + d' - t) (start + d')) t 1 := fun {d'} n hd' => by
    have hv := visit_far ok hf (sp := ⟨W.length - 1, rnd B.up (start + reach W - 1) (lv W (W.length - 1)).g, start + d'⟩) h1 rfl (t := t) (by rw [← ht]; exact va_vis (l := lv W (W.length - 1)) (by omega) (by omega) _ _) (by show reach W ≤ start + d' - t; omega)
    conv => lhs; unfold wl
    dsimp only
    rw [ht, show over none t = false from rfl, if_neg Bool.false_ne_true, hv]
    rfl
  -- near, from the first visit on
  have hprop := spotAt_proper (B := B) ok t (start + d)
  have hsl := spotAt_lt ok B t (start + d - t) (start + d)
  obtain ⟨r, hr⟩ := fol_ends ok B none _ (spotAt W B t (start + d - t) (start + d)) t 1 hsl (Nat.le_refl _)
  obtain ⟨m, hm⟩ := fol_wl ok _ hprop hsl hr
  have hnear := key p1 (n := m + 1) (by rw [first m (Int.le_refl _)]; exact hm)
  -- far
  have hDv : Dv W (W.length - 1) (stepM W B * many) := by
    obtain ⟨z, hz⟩ := st3
    rw [hz, Int.mul_assoc]
    exact dv_of ok (by omega) _
  have hix : TwM.levelIx W (start + d - t) ≤ W.length - 1 := by have := levelIx_lt ok (start + d - t); omega
  have hsh := fol_shift (B := B) ok hDv (mu (spotAt W B t (start + d - t) (start + d)) t) (sp := spotAt W B t (start + d - t) (start + d)) (tick := t) (mv := 1) (by rw [spotAt_lv]; exact hix) hsl (by rw [spotAt_due]; exact hix)
  rw [hr, ← spotAt_shift ok hDv hix] at hsh
  have e1 : start + d - t = start + d + stepM W B * many - (t + stepM W B * many) := by omega
  have hprop2 : Proper W (spotAt W B (t + stepM W B * many) (start + d - t) (start + d + stepM W B * many)) (t + stepM W B * many) := by rw [e1]; exact spotAt_proper ok _ _
  obtain ⟨m2, hm2⟩ := fol_wl ok _ hprop2 (spotAt_lt ok _ _ _ _) hsh
  have hva : va (lv W (W.length - 1)) (spotAt W B t (start + (d + stepM W B * many) - t) (start + (d + stepM W B * many))).pt t = t + stepM W B := by
    rw [spotAt_far ok (by omega)]
    exact stepM_va ok hg
  have hcm : (many : Int) * stepM W B = stepM W B * many := Int.mul_comm _ _
  have hfar := wl_far (lim := none) ok hf h1 (due := start + (d + stepM W B * many)) (step := stepM W B) many (t := t) (mv := 1) m2 hg (by omega) hva (by omega) (fun l z => by cases z)
  rw [hcm] at hfar
  have e2 : start + (d + stepM W B * many) - (t + stepM W B * many) = start + d - t := by omega
  have e3 : start + (d + stepM W B * many) = start + d + stepM W B * many := by omega
  have hm3 := wl_mv _ (c := (many : Int)) hm2
  rw [e2] at hfar
  have hfin := key p2 (n := m2 + many + 1) (r := ((shR W (stepM W B * many) r).1, (shR W (stepM W B * many) r).2.1, (shR W (stepM W B * many) r).2.2 + many)) (by
    rw [first _ (by omega), hfar, e3]
    exact hm3)
  rw [hfin, hnear]
  rfl
/-- what waits behind a lump that ends ahead of the range -/
theorem wl_stays (ok : WOk W) (hf : B.fire = false) (h1 : 1 < W.length) {l : Int} : ∀ (n : Nat) {sp : Spot} {tick mv : Int} {r : Res}, sp.lv = W.length - 1 → reach W ≤ sp.due - l → wl W B (some l) n sp tick mv = some r → ∃ sp', r.1 = some sp' ∧ sp'.lv = W.length - 1 ∧ sp'.due = sp.due
  | 0, _, _, _, _, _, _, h => by cases h
  | n + 1, sp, tick, mv, r, hl, hr, h => by
    have hall := ok.all (W.length - 1) (by omega)
    unfold wl at h
    dsimp only at h
    split at h
    · cases h
      exact ⟨sp, rfl, hl, rfl⟩
    · rename_i ho
      have hle : va (lv W sp.lv) sp.pt tick ≤ l := by
        rcases Int.lt_or_le l (va (lv W sp.lv) sp.pt tick) with z | z
        · exact absurd (decide_eq_true z) ho
        · exact z
      have hv := visit_far ok hf h1 hl (t := va (lv W sp.lv) sp.pt tick) (va_vis (by rw [hl]; omega) (by rw [hl]; omega) _ _) (by omega)
      rw [hv] at h
      have := wl_stays ok hf h1 n (sp := spotAt W B (va (lv W sp.lv) sp.pt tick) (sp.due - va (lv W sp.lv) sp.pt tick) sp.due) (by rw [spotAt_far ok (by omega)]) (by rw [spotAt_due]; exact hr) h
      rwa [spotAt_due] at this
end
end Tw
/-! Tw: walks that are cut and go on -/
namespace Tw
open TwM
section
variable {W : List Lv} {B : Bk} {lim : Option Int}
theorem va_keep {l : Lv} (hg : 0 < l.g) (hs : 0 < l.s) {pt a b : Int} (h1 : a ≤ b) (h2 : b < va l pt a) : va l pt b = va l pt a := by
  have d := va_dvd (l := l) hs pt a
  have c := va_most (l := l) hg hs pt a
  have e : b + (va l pt a - b) = va l pt a := by omega
  have := va_uniq (l := l) hg hs (pt := pt) (tick := b) (k := va l pt a - b) (by omega) (by rw [Int.mul_comm l.g]; omega) (by rw [e]; exact d)
  omega
/-- two results of a walk that tell the same -/
def Alike (r r' : Res) : Prop := r.1 = r'.1 ∧ r.2.2 = r'.2.2 ∧ (r.1 = none → r.2.1 = r'.2.1)
theorem Alike.refl (r : Res) : Alike r r := ⟨rfl, rfl, fun _ => rfl⟩
/-- where a walk begins does not matter ahead of the next visit -/
theorem wl_from (ok : WOk W) {n : Nat} {sp : Spot} {a b mv : Int} {r : Res} (hl : sp.lv < W.length) (h1 : a ≤ b) (h2 : b < va (lv W sp.lv) sp.pt a) (h : wl W B lim n sp b mv = some r) : ∃ r', wl W B lim n sp a mv = some r' ∧ Alike r r' := by
  have hall := ok.all _ hl
  cases n with
  | zero => cases h
  | succ n =>
    have e := va_keep (l := lv W sp.lv) (by omega) (by omega) h1 h2
    unfold wl at h ⊢
    dsimp only at h ⊢
    rw [e] at h
    split at h
    · rename_i ho
      rw [if_pos ho]
      cases h
      exact ⟨_, rfl, ⟨rfl, rfl, fun z => by have z : (some sp : Option Spot) = none := z; cases z⟩⟩
    · rename_i ho
      rw [if_neg ho]
      exact ⟨r, h, Alike.refl r⟩
/-- a walk to b, then on -/
theorem wl_cut (ok : WOk W) {b : Int} (hb : ∀ c, lim = some c → b ≤ c) : ∀ (n : Nat) {sp : Spot} {a mv : Int} {r : Res}, sp.lv < W.length → a ≤ b → wl W B (some b) n sp a mv = some r →
    (r.1 = none → wl W B lim n sp a mv = some r) ∧ ∀ sp', r.1 = some sp' → sp'.lv < W.length ∧ ∀ m r2, wl W B lim m sp' b r.2.2 = some r2 → ∃ m' r3, wl W B lim m' sp a mv = some r3 ∧ Alike r2 r3
  | 0, _, _, _, _, _, _, h => by cases h
  | n + 1, sp, a, mv, r, hl, hab, h => by
    have hgt := va_step ok hl sp.pt a
    unfold wl at h
    dsimp only at h
    split at h
    · rename_i ho
      cases h
      refine ⟨fun z => (by cases z), fun sp' z => ?_⟩
      cases z
      refine ⟨hl, fun m r2 h2 => ?_⟩
      obtain ⟨r3, h3, h4⟩ := wl_from ok hl hab (of_decide_eq_true ho) h2
      exact ⟨m, r3, h3, h4⟩
    · rename_i ho
      have hle : va (lv W sp.lv) sp.pt a ≤ b := by
        rcases Int.lt_or_le b (va (lv W sp.lv) sp.pt a) with z | z
        · exact absurd (decide_eq_true z) ho
        · exact z
      have ho2 : over lim (va (lv W sp.lv) sp.pt a) = false := by
        cases hlim : lim with
        | none => rfl
        | some c =>
          have := hb c hlim
          exact decide_eq_false (by omega)
      cases hq : (visited W B sp (va (lv W sp.lv) sp.pt a - 1) (va (lv W sp.lv) sp.pt a)).getLast? with
      | none => rw [hq] at h; cases h
      | some o =>
        rw [hq] at h
        cases o with
        | none =>
          cases h
          refine ⟨fun _ => ?_, fun sp' z => (by cases z)⟩
          unfold wl
          dsimp only
          rw [ho2, if_neg Bool.false_ne_true, hq]
        | some sp1 =>
          dsimp only at h
          obtain ⟨c1, c2⟩ := visGo_last ok _ hq
          obtain ⟨g1, g2⟩ := wl_cut ok hb n c1 hle h
          have step : ∀ {m r3}, wl W B lim m sp1 (va (lv W sp.lv) sp.pt a) (mv + (visited W B sp (va (lv W sp.lv) sp.pt a - 1) (va (lv W sp.lv) sp.pt a)).length) = some r3 → wl W B lim (m + 1) sp a mv = some r3 := fun {m r3} z => by
            unfold wl
            dsimp only
            rw [ho2, if_neg Bool.false_ne_true, hq]
            exact z
          refine ⟨fun z => step (g1 z), fun sp' z => ?_⟩
          obtain ⟨k1, k2⟩ := g2 sp' z
          refine ⟨k1, fun m r2 h2 => ?_⟩
          obtain ⟨m', r3, h3, h4⟩ := k2 m r2 h2
          exact ⟨m' + 1, r3, step h3, h4⟩
/-- what a timer is after ticks in turn, walked without leaps -/
def aft (W : List Lv) (B : Bk) (sp : Spot) (a b : Int) : Option Spot := match wl W B (some b) (mu sp a) sp a 0 with
  | some r => r.1
  | none => none
theorem aft_of (ok : WOk W) {sp : Spot} {a b mv : Int} {n : Nat} {r : Res} (hl : sp.lv < W.length) (h : wl W B (some b) n sp a mv = some r) : aft W B sp a b = r.1 := by
  unfold aft
  obtain ⟨r', h'⟩ := wl_ends ok B (some b) (mu sp a) sp a 0 hl (Nat.le_refl _)
  rw [h']
  have := wl_mv _ (c := mv) h'
  rw [Int.zero_add] at this
  have e := wl_eq this h
  rw [← e]
theorem passM_each (ok : WOk W) {sp : Spot} {a b : Int} (hl : sp.lv < W.length) (hp : Proper W sp a) : passM W B sp a b "each" = aft W B sp a b := by
  unfold passM
  rw [if_pos rfl]
  obtain ⟨r, hr⟩ := fol_ends ok B (some b) (mu sp a) sp a 0 hl (Nat.le_refl _)
  obtain ⟨m, hm⟩ := fol_wl ok _ hp hl hr
  rw [hr, aft_of ok hl hm]
/-- in one lump or in several -/
theorem aft_comp (ok : WOk W) {sp : Spot} {a b c : Int} (hl : sp.lv < W.length) (h1 : a ≤ b) (h2 : b ≤ c) : aft W B sp a c = match aft W B sp a b with
    | none => none
    | some sp' => aft W B sp' b c := by
  obtain ⟨r, hr⟩ := wl_ends ok B (some b) (mu sp a) sp a 0 hl (Nat.le_refl _)
  obtain ⟨g1, g2⟩ := wl_cut (lim := some c) ok (fun c' z => by cases z; exact h2) _ hl h1 hr
  rw [aft_of ok hl hr]
  cases hr1 : r.1 with
  | none => rw [aft_of ok hl (g1 hr1), hr1]
  | some sp' =>
    obtain ⟨k1, k2⟩ := g2 sp' hr1
    obtain ⟨r2, hr2⟩ := wl_ends ok B (some c) (mu sp' b) sp' b r.2.2 k1 (Nat.le_refl _)
    obtain ⟨m', r3, h3, h4⟩ := k2 _ _ hr2
    rw [aft_of ok hl h3, ← h4.1]
    exact (aft_of ok k1 hr2).symm
theorem aft_lt (ok : WOk W) {sp sp' : Spot} {a b : Int} (hl : sp.lv < W.length) (h : aft W B sp a b = some sp') (h1 : a ≤ b) : sp'.lv < W.length := by
  obtain ⟨r, hr⟩ := wl_ends ok B (some b) (mu sp a) sp a 0 hl (Nat.le_refl _)
  obtain ⟨g1, g2⟩ := wl_cut (lim := some b) ok (fun c' z => by cases z; exact Int.le_refl _) _ hl h1 hr
  rw [aft_of ok hl hr] at h
  exact (g2 sp' h).1
/-- fired by a lump just if it ends at or behind the tick of firing -/
theorem aft_fire (ok : WOk W) {sp : Spot} {a b : Int} {n : Nat} {r : Res} (hl : sp.lv < W.length) (h1 : a ≤ b) (h : wl W B none n sp a 0 = some r) : (aft W B sp a b = none ↔ r.2.1 ≤ b) ∧ r.1 = none ∧ a < r.2.1 := by
  have hnone : ∀ (n : Nat) {sp : Spot} {a mv : Int} {r : Res}, sp.lv < W.length → wl W B none n sp a mv = some r → r.1 = none ∧ a < r.2.1 := by
    intro n
    induction n with
    | zero => intro sp a mv r _ h; cases h
    | succ n ih =>
      intro sp a mv r hl h
      have hgt := va_step ok hl sp.pt a
      unfold wl at h
      dsimp only at h
      rw [show over none (va (lv W sp.lv) sp.pt a) = false from rfl, if_neg Bool.false_ne_true] at h
      split at h
      · cases h
      · cases h
        exact ⟨rfl, hgt.1⟩
      · rename_i hq
        obtain ⟨c1, c2⟩ := visGo_last ok _ hq
        have := ih c1 h
        exact ⟨this.1, by omega⟩
  have hbnd : ∀ (n : Nat) {sp : Spot} {a mv : Int} {r : Res}, sp.lv < W.length → a ≤ b → wl W B (some b) n sp a mv = some r → r.2.1 ≤ b := by
    intro n
    induction n with
    | zero => intro sp a mv r _ _ h; cases h
    | succ n ih =>
      intro sp a mv r hl hab h
      unfold wl at h
      dsimp only at h
      split at h
      · cases h; exact hab
      · rename_i ho
        have hle : va (lv W sp.lv) sp.pt a ≤ b := by
          rcases Int.lt_or_le b (va (lv W sp.lv) sp.pt a) with z | z
          · exact absurd (decide_eq_true z) ho
          · exact z
        split at h
        · cases h
        · cases h; exact hle
        · rename_i hq
          obtain ⟨c1, c2⟩ := visGo_last ok _ hq
          exact ih c1 hle h
  obtain ⟨z1, z2⟩ := hnone n hl h
  refine ⟨?_, z1, z2⟩
  obtain ⟨r', hr'⟩ := wl_ends ok B (some b) (mu sp a) sp a 0 hl (Nat.le_refl _)
  obtain ⟨g1, g2⟩ := wl_cut (lim := none) ok (fun c z => by cases z) _ hl h1 hr'
  rw [aft_of ok hl hr']
  cases hr1 : r'.1 with
  | none =>
    have := wl_eq (g1 hr1) h
    rw [← this]
    exact ⟨fun _ => hbnd _ hl h1 hr', fun _ => rfl⟩
  | some sp' =>
    obtain ⟨k1, k2⟩ := g2 sp' hr1
    obtain ⟨r2, hr2⟩ := wl_ends ok B none (mu sp' b) sp' b r'.2.2 k1 (Nat.le_refl _)
    obtain ⟨m', r3, h3, h4⟩ := k2 _ _ hr2
    have e := wl_eq h3 h
    obtain ⟨y1, y2⟩ := hnone _ k1 hr2
    have := h4.2.2 y1
    rw [e] at this
    exact ⟨fun z => (by cases z), fun z => by omega⟩
/-- what a walk with a limit leaves behind, step by step: a property of spots and ticks that every visit hands on -/
theorem aft_ind (ok : WOk W) {b : Int} {P : Spot → Int → Prop} (hv : ∀ sp t sp', P sp t → t ≤ b → (visited W B sp (t - 1) t).getLast? = some (some sp') → P sp' t) (hm : ∀ sp t t', P sp t → t ≤ t' → t' ≤ b → P sp t') :
    ∀ (n : Nat) {sp : Spot} {a mv : Int} {r : Res} {sp' : Spot}, sp.lv < W.length → a ≤ b → P sp a → wl W B (some b) n sp a mv = some r → r.1 = some sp' → P sp' b
  | 0, _, _, _, _, _, _, _, _, h, _ => by cases h
  | n + 1, sp, a, mv, r, sp', hl, hab, hp, h, hr => by
    have hgt := va_step ok hl sp.pt a
    unfold wl at h
    dsimp only at h
    split at h
    · cases h
      cases hr
      exact hm _ _ _ hp hab (Int.le_refl _)
    · rename_i ho
      have hle : va (lv W sp.lv) sp.pt a ≤ b := by
        rcases Int.lt_or_le b (va (lv W sp.lv) sp.pt a) with z | z
        · exact absurd (decide_eq_true z) ho
        · exact z
      split at h
      · cases h
      · cases h; cases hr
      · rename_i hq
        obtain ⟨c1, c2⟩ := visGo_last ok _ hq
        exact aft_ind ok hv hm n c1 hle (hv _ _ _ (hm _ _ _ hp (by omega) hle) hle hq) h hr
theorem aft_P (ok : WOk W) {a b : Int} {P : Spot → Int → Prop} (hv : ∀ sp t sp', P sp t → t ≤ b → (visited W B sp (t - 1) t).getLast? = some (some sp') → P sp' t) (hm : ∀ sp t t', P sp t → t ≤ t' → t' ≤ b → P sp t') {sp sp' : Spot} (hl : sp.lv < W.length) (hab : a ≤ b) (hp : P sp a) (h : aft W B sp a b = some sp') : P sp' b := by
  obtain ⟨r, hr⟩ := wl_ends ok B (some b) (mu sp a) sp a 0 hl (Nat.le_refl _)
  rw [aft_of ok hl hr] at h
  exact aft_ind ok hv hm _ hl hab hp hr h
theorem aft_proper (ok : WOk W) {a b : Int} {sp sp' : Spot} (hl : sp.lv < W.length) (hab : a ≤ b) (hp : Proper W sp a) (h : aft W B sp a b = some sp') : Proper W sp' b := by
  refine aft_P ok (P := Proper W) (fun sp t sp' hp _ hq => ?_) (fun sp t t' hp h1 _ => fun z => hp (by omega)) hl hab hp h
  obtain ⟨c1, c2, c3, c4⟩ := visGo_last ok _ hq
  intro z
  have hre : 2 ≤ reach W := (ok.all (W.length - 1) (by have := ok.pos; omega)).2.2.2.2
  rcases c4 with ⟨d1, d2⟩ | ⟨d1, d2⟩
  · rw [c2] at z
    rw [d2, spotAt_far ok z]
  · omega
/-- bounds of what a spot holds -/
structure SpB (N : Int) (sp : Spot) : Prop where
  p0 : 0 ≤ sp.pt
  p1 : sp.pt ≤ N
  d0 : 0 ≤ sp.due
  d1 : sp.due ≤ N
theorem rnd_bound {up : Bool} {t g : Int} (hg : 1 ≤ g) (ht : 0 ≤ t) : 0 ≤ rnd up t g ∧ rnd up t g ≤ t := by
  unfold rnd
  split
  · have h1 : (-t) / g ≤ 0 := by
      have : (-t) / g < 1 := Int.ediv_lt_of_lt_mul (by omega) (by omega)
      omega
    have h2 : -t ≤ (-t) / g := Int.le_ediv_of_mul_le (by omega) (by
      have : -t * g ≤ -t * 1 := Int.mul_le_mul_of_nonpos_left (by omega) hg
      omega)
    omega
  · exact ⟨Int.ediv_nonneg ht (by omega), Int.ediv_le_self _ ht⟩
theorem spotAt_bound (ok : WOk W) {now due N : Int} (h0 : 0 ≤ now) (h1 : now ≤ due) (h2 : due ≤ N) (h3 : now + reach W ≤ N) : SpB N (spotAt W B now (due - now) due) := by
  have hre : 2 ≤ reach W := (ok.all (W.length - 1) (by have := ok.pos; omega)).2.2.2.2
  unfold spotAt
  cases hl : levelOf W (due - now) with
  | some i =>
    have hi := levelOf_lt hl
    have hall := ok.all i hi.1
    obtain ⟨b1, b2⟩ := rnd_bound (up := B.up) (t := now + (due - now)) (g := (lv W i).g) (by omega) (by omega)
    exact ⟨b1, by show rnd _ _ _ ≤ N; omega, by show 0 ≤ due; omega, h2⟩
  | none =>
    have hall := ok.all (W.length - 1) (by have := ok.pos; omega)
    obtain ⟨b1, b2⟩ := rnd_bound (up := B.up) (t := now + reach W - 1) (g := (lv W (W.length - 1)).g) (by omega) (by omega)
    exact ⟨b1, by show rnd _ _ _ ≤ N; omega, by show 0 ≤ due; omega, h2⟩
theorem vis_bound (ok : WOk W) {sp sp' : Spot} {bf t N : Int} (h0 : 0 ≤ t) (h3 : t + reach W ≤ N) (hb : SpB N sp) (hq : (visited W B sp bf t).getLast? = some (some sp')) : SpB N sp' := by
  obtain ⟨c1, c2, c3, c4⟩ := visGo_last ok _ hq
  have hre : 2 ≤ reach W := (ok.all (W.length - 1) (by have := ok.pos; omega)).2.2.2.2
  rcases c4 with ⟨d1, d2⟩ | ⟨d1, d2⟩
  · rw [d2]
    exact spotAt_bound ok h0 (by omega) hb.d1 h3
  · rw [d2]
    exact ⟨h0, by show t ≤ N; omega, hb.d0, hb.d1⟩
theorem aft_bound (ok : WOk W) {a b N : Int} {sp sp' : Spot} (hl : sp.lv < W.length) (h0 : 0 ≤ a) (hab : a ≤ b) (hN : b + reach W ≤ N) (hb : SpB N sp) (h : aft W B sp a b = some sp') : SpB N sp' :=
  (aft_P ok (P := fun sp t => SpB N sp ∧ 0 ≤ t) (fun sp t sp' hp h1 hq => ⟨vis_bound ok hp.2 (by omega) hp.1 hq, hp.2⟩) (fun sp t t' hp h1 _ => ⟨hp.1, by omega⟩) hl hab ⟨hb, h0⟩ h).1
theorem TwM_vis {W : List Lv} {B : Bk} {b n : Int} : ∀ (is : List Nat) {sp : Spot}, visGo W B b n is sp ≠ [] → isVis (lv W sp.lv) sp.pt b n = true
  | [], sp, h => absurd rfl h
  | i :: is, sp, h => by
    unfold visGo at h
    split at h
    · rename_i hc
      rw [hc.1]; exact hc.2
    · exact TwM_vis is h
/-- no visit between a tick and the first visit behind it -/
theorem TwM_no {l : Lv} (hg : 0 < l.g) (hs : 0 < l.s) (pt : Int) {a b n : Int} (h1 : a ≤ b) (h2 : n < va l pt a) (h : isVis l pt b n = true) : False := by
  unfold isVis at h
  have h := of_decide_eq_true h
  unfold va at h2
  have m1 : a / l.g ≤ b / l.g := Int.ediv_le_ediv hg h1
  have m2 : n / l.g < a / l.g + 1 + (pt - a / l.g - 1) % l.s := Int.ediv_lt_of_lt_mul hg h2
  have k0 := Int.emod_nonneg (pt - b / l.g - 1) (b := l.s) (by omega)
  have k1 := Int.emod_nonneg (pt - a / l.g - 1) (b := l.s) (by omega)
  have i1 := hit_iff (q := a / l.g + 1) (pt := pt) (s := l.s) (j := b / l.g - a / l.g + (pt - b / l.g - 1) % l.s) hs (by omega)
  have e1 : pt - (a / l.g + 1) = pt - a / l.g - 1 := by omega
  rw [e1] at i1
  have e2 : a / l.g + 1 + (b / l.g - a / l.g + (pt - b / l.g - 1) % l.s) - pt = -((pt - b / l.g - 1) - (pt - b / l.g - 1) % l.s) := by omega
  have e3 : (a / l.g + 1 + (b / l.g - a / l.g + (pt - b / l.g - 1) % l.s) - pt) % l.s = 0 := by
    rw [e2]
    have := Int.mul_ediv_add_emod (pt - b / l.g - 1) l.s
    rw [show (pt - b / l.g - 1) - (pt - b / l.g - 1) % l.s = l.s * ((pt - b / l.g - 1) / l.s) by omega, ← Int.mul_neg]
    exact Int.mul_emod_right _ _
  have := (i1 (by omega)).mp e3
  omega
/-- a lump of one tick -/
theorem aft_one (ok : WOk W) {sp : Spot} {t : Int} (hl : sp.lv < W.length) : aft W B sp (t - 1) t = match (visited W B sp (t - 1) t).getLast? with
    | none => some sp
    | some o => o := by
  have hall := ok.all _ hl
  have hgt := va_step ok hl sp.pt (t - 1)
  obtain ⟨r, hr⟩ := wl_ends ok B (some t) (mu sp (t - 1)) sp (t - 1) 0 hl (Nat.le_refl _)
  have h0 := hr
  rw [aft_of ok hl hr]
  have hmu1 : 1 ≤ mu sp (t - 1) := by unfold mu; split <;> omega
  have hmu : ∃ n, mu sp (t - 1) = n + 1 := ⟨mu sp (t - 1) - 1, by omega⟩
  obtain ⟨n, hn⟩ := hmu
  rw [hn] at hr
  unfold wl at hr
  dsimp only at hr
  by_cases he : va (lv W sp.lv) sp.pt (t - 1) = t
  · rw [he] at hr
    rw [if_neg (by unfold over; simp)] at hr
    cases hq : (visited W B sp (t - 1) t).getLast? with
    | none =>
      have := visited_ne ok (B := B) hl (tick := t - 1)
      rw [he] at this
      exact absurd (List.getLast?_eq_none_iff.mp hq) this
    | some o =>
      rw [hq] at hr
      cases o with
      | none => cases hr; rfl
      | some sp' =>
        dsimp only at hr ⊢
        obtain ⟨c1, c2⟩ := visGo_last ok _ hq
        have hg2 := va_step ok c1 sp'.pt t
        cases n with
        | zero => cases hr
        | succ n =>
          unfold wl at hr
          dsimp only at hr
          rw [if_pos (by unfold over; exact decide_eq_true (by omega))] at hr
          cases hr
          rfl
  · rw [if_pos (by unfold over; exact decide_eq_true (by omega))] at hr
    cases hr
    have hnil : visited W B sp (t - 1) t = [] := by
      apply Classical.byContradiction
      intro hne
      have hvis := TwM_vis (W := W) (B := B) (order W B) hne
      exact TwM_no (by omega) (by omega) sp.pt (a := t - 1) (b := t - 1) (n := t) (Int.le_refl _) (by omega) hvis
    rw [hnil]
    rfl
end
end Tw
/-! Tw: how late a timer fires at most -/
namespace Tw
open TwM
/-- fired not much later than due -/
theorem wl_late {W : List Lv} {B : Bk} (ok : WOk W) {M : Int} (hM : ∀ i, i < W.length → (lv W i).s * (lv W i).g ≤ M) : ∀ (n : Nat) {sp : Spot} {a mv : Int} {r : Res}, sp.lv < W.length → wl W B none n sp a mv = some r → r.2.1 ≤ (if sp.lv = 0 then a + M else (if a < sp.due then sp.due else a) + 2 * M)
  | 0, _, _, _, _, _, h => by cases h
  | n + 1, sp, a, mv, r, hl, h => by
    have hall := ok.all _ hl
    have hgt := va_step ok hl sp.pt a
    have hmost := va_most (l := lv W sp.lv) (by omega) (by omega) sp.pt a
    have hm := hM _ hl
    unfold wl at h
    dsimp only at h
    rw [show over none (va (lv W sp.lv) sp.pt a) = false from rfl, if_neg Bool.false_ne_true] at h
    split at h
    · cases h
    · cases h
      dsimp only
      split
      · omega
      · split <;> omega
    · rename_i sp' hq
      obtain ⟨c1, c2, c3, c4⟩ := visGo_last ok _ hq
      have h0 : sp.lv ≠ 0 := fun e => by
        have := visGo_zero (W := W) (B := B) (before := va (lv W sp.lv) sp.pt a - 1) (now := va (lv W sp.lv) sp.pt a) (order W B) e (some sp') (List.mem_of_getLast? hq)
        cases this
      have ih := wl_late ok hM n c1 h
      rw [if_neg h0]
      rcases c4 with ⟨d1, d2⟩ | ⟨d1, d2⟩
      · rw [c2, if_pos d1] at ih
        split at ih <;> split <;> omega
      · have hz : sp'.lv = 0 := by rw [d2]
        rw [if_pos hz] at ih
        split <;> omega
theorem g_dvd {W : List Lv} (ok : WOk W) : ∀ (n : Nat) {i : Nat}, i + n < W.length → (lv W i).g ∣ (lv W (i + n)).g
  | 0, i, _ => Int.dvd_refl _
  | n + 1, i, h => Int.dvd_trans (g_dvd ok n (by omega)) (ok.dv (i + n) (by omega))
theorem placeM_bound {W : List Lv} {B : Bk} (ok : WOk W) {start delay N : Int} {sp : Spot} (h0 : 0 ≤ start) (hd : 0 ≤ delay) (hN : start + delay + reach W + 1 ≤ N) (h : placeM W B start delay = some sp) : SpB N sp ∧ sp.due ≤ start + delay + 1 := by
  have hre : 2 ≤ reach W := (ok.all (W.length - 1) (by have := ok.pos; omega)).2.2.2.2
  unfold placeM at h
  split at h
  · cases h
  · obtain rfl := Option.some.inj h
    rw [spotAt_due]
    generalize hr : (if reach W ≤ (if 1 > delay then 1 else delay) ∧ B.bey = 2 then reach W - 1 else if 1 > delay then 1 else delay) = rr
    have h1 : 1 ≤ rr ∧ rr ≤ delay + 1 := by
      rw [← hr]
      repeat' split
      all_goals omega
    have := spotAt_bound (B := B) ok (now := start) (due := start + rr) (N := N) h0 (by omega) (by omega) (by omega)
    rw [show start + rr - start = rr by omega] at this
    exact ⟨this, by omega⟩
theorem fin_ge {W : List Lv} {B : Bk} (ok : WOk W) {d : Int} (hd : 0 ≤ d) (start : Int) : start ≤ (fin W B start d).1 := by
  cases hpl : placeM W B start d with
  | none => rw [fin_none hpl]; exact Int.le_refl _
  | some sp =>
    have hl := placeM_lt ok hpl
    rw [← wfin_fin ok B hd]
    obtain ⟨rr, hrr'⟩ := wl_ends ok B none (mu sp start) sp start 0 hl (Nat.le_refl _)
    have hgt := (aft_fire ok (b := start) hl (Int.le_refl _) hrr').2.2
    have hw : wfin W B start d = rr.2 := by unfold wfin; rw [hpl]; dsimp only; rw [hrr']
    rw [hw]
    omega
theorem fin_late {W : List Lv} {B : Bk} (ok : WOk W) {M : Int} (hM : ∀ i, i < W.length → (lv W i).s * (lv W i).g ≤ M) {d start : Int} (h0 : 0 ≤ start) (hd : 0 ≤ d) (hM0 : 0 ≤ M) : (fin W B start d).1 ≤ start + d + 1 + 2 * M := by
  cases hpl : placeM W B start d with
  | none => rw [fin_none hpl]; show start ≤ _; omega
  | some sp =>
    have hl := placeM_lt ok hpl
    have hdu := (placeM_bound ok h0 hd (Int.le_refl _) hpl).2
    rw [← wfin_fin ok B hd]
    obtain ⟨rr, hrr'⟩ := wl_ends ok B none (mu sp start) sp start 0 hl (Nat.le_refl _)
    have hlate := wl_late ok hM _ hl hrr'
    have hw : wfin W B start d = rr.2 := by unfold wfin; rw [hpl]; dsimp only; rw [hrr']
    rw [hw]
    split at hlate
    · omega
    · split at hlate <;> omega
theorem tkR_ge {W : List Lv} {B : Bk} (ok : WOk W) {d start : Int} (hd : 0 ≤ d) (h0 : 0 ≤ start) : ∀ n, 0 ≤ tkR W B d start n
  | 0 => h0
  | n + 1 => Int.le_trans (tkR_ge ok hd h0 n) (fin_ge ok hd _)
theorem tkR_mono {W : List Lv} {B : Bk} (ok : WOk W) {d start : Int} (hd : 0 ≤ d) (n : Nat) : ∀ k, tkR W B d start n ≤ tkR W B d start (n + k)
  | 0 => Int.le_refl _
  | k + 1 => Int.le_trans (tkR_mono ok hd n k) (fin_ge ok hd _)
theorem tkR_late {W : List Lv} {B : Bk} (ok : WOk W) {M : Int} (hM : ∀ i, i < W.length → (lv W i).s * (lv W i).g ≤ M) {d start : Int} (h0 : 0 ≤ start) (hd : 0 ≤ d) (hM0 : 0 ≤ M) (n : Nat) : ∀ k : Nat, tkR W B d start (n + k) ≤ tkR W B d start n + k * (d + 1 + 2 * M)
  | 0 => by simp
  | k + 1 => by
    have ih := tkR_late (B := B) ok hM h0 hd hM0 n k
    have h1 := fin_late (B := B) ok hM (start := tkR W B d start (n + k)) (tkR_ge ok hd h0 _) hd hM0
    show (fin W B (tkR W B d start (n + k)) d).1 ≤ _
    rw [show ((k + 1 : Nat) : Int) = (k : Int) + 1 by omega, Int.add_mul]
    omega
end Tw
/-! Tw: two plans, in plain Lean -/
namespace Tw
open TwM
theorem place_in {W : List Lv} (ok : WOk W) {B : Bk} {d : Int} {i : Nat} (hi : levelOf W d = some i) (h1 : 1 ≤ d) (start : Int) : placeM W B start d = some ⟨i, rnd B.up (start + d) (lv W i).g, start + d⟩ := by
  obtain ⟨a1, a2⟩ := levelOf_lt hi
  have hr : d < reach W := by
    have := le_reach ok a1
    omega
  have e0 : (if 1 > d then 1 else d) = d := by split <;> omega
  unfold placeM
  rw [if_neg (fun z => by have := z.1; omega)]
  dsimp only
  rw [e0, if_neg (fun z => by have := z.1; omega)]
  unfold spotAt
  rw [hi]
theorem mod_same {s x m : Int} (hs : 0 < s) (h : x / s = (x + m) / s) : (x + m) % s = x % s + m := by
  have h1 := Int.mul_ediv_add_emod x s
  have h2 := Int.mul_ediv_add_emod (x + m) s
  rw [← h] at h2
  omega
/-- within one turn of the point a timer fires as much later as its delay is longer -/
theorem fin_turn {W : List Lv} (ok : WOk W) {B : Bk} {d start m : Int} {i : Nat} (hi : levelOf W d = some i) (h1 : 1 ≤ d) (hi' : levelOf W (d + (lv W i).g * m) = some i) (h1' : 1 ≤ d + (lv W i).g * m)
    (ht : (rnd B.up (start + d) (lv W i).g - start / (lv W i).g - 1) / (lv W i).s = (rnd B.up (start + d) (lv W i).g - start / (lv W i).g - 1 + m) / (lv W i).s) :
    (fin W B start (d + (lv W i).g * m)).1 = (fin W B start d).1 + (lv W i).g * m := by
  obtain ⟨hl, _⟩ := levelOf_lt hi
  have hall := ok.all i hl
  have e1 := place_in ok (B := B) hi h1 start
  have e2 := place_in ok (B := B) hi' h1' start
  have hix : TwM.levelIx W d = i := by unfold TwM.levelIx; rw [hi]; rfl
  have hD := dv_of ok hl m
  have hsh : (⟨i, rnd B.up (start + (d + (lv W i).g * m)) (lv W i).g, start + (d + (lv W i).g * m)⟩ : Spot) = sh W ((lv W i).g * m) ⟨i, rnd B.up (start + d) (lv W i).g, start + d⟩ := by
    unfold sh
    dsimp only
    rw [show start + (d + (lv W i).g * m) = start + d + (lv W i).g * m by omega, rnd_shift (by omega), Int.mul_ediv_cancel_left _ (by omega)]
  rw [hsh] at e2
  generalize hsp : (⟨i, rnd B.up (start + d) (lv W i).g, start + d⟩ : Spot) = sp at *
  have hspl : sp.lv = i := by rw [← hsp]
  have hspp : sp.pt = rnd B.up (start + d) (lv W i).g := by rw [← hsp]
  have hspd : sp.due = start + d := by rw [← hsp]
  have hlw : sp.lv < W.length := by rw [hspl]; exact hl
  obtain ⟨q, hq⟩ := fol_ends ok B none (mu sp start + 1) sp start 0 hlw (Nat.le_succ _)
  have hq2 := fol_shift (B := B) ok hD (mu sp start + 1) (sp := sp) (tick := start) (mv := 0) (by omega) hlw (by rw [hspd, show start + d - start = d by omega, hix]; exact Nat.le_refl _)
  rw [hq] at hq2
  have hva : va (lv W (sh W ((lv W i).g * m) sp).lv) (sh W ((lv W i).g * m) sp).pt start = va (lv W (sh W ((lv W i).g * m) sp).lv) (sh W ((lv W i).g * m) sp).pt (start + (lv W i).g * m) := by
    show va (lv W sp.lv) (sp.pt + (lv W i).g * m / (lv W sp.lv).g) start = va (lv W sp.lv) (sp.pt + (lv W i).g * m / (lv W sp.lv).g) (start + (lv W i).g * m)
    rw [hspl, va_shift (by omega) (Int.dvd_mul_right _ _), Int.mul_ediv_cancel_left _ (by omega)]
    unfold va
    have k1 := mod_same (s := (lv W i).s) (by omega) ht
    rw [hspp]
    rw [show rnd B.up (start + d) (lv W i).g + m - start / (lv W i).g - 1 = rnd B.up (start + d) (lv W i).g - start / (lv W i).g - 1 + m by omega, k1]
    rw [show start / (lv W i).g + 1 + ((rnd B.up (start + d) (lv W i).g - start / (lv W i).g - 1) % (lv W i).s + m) = (start / (lv W i).g + 1 + (rnd B.up (start + d) (lv W i).g - start / (lv W i).g - 1) % (lv W i).s) + m by omega, Int.add_mul, Int.mul_comm m]
  have hq3 : fol W B none (mu sp start + 1) (sh W ((lv W i).g * m) sp) start 0 = (some q).map (shR W ((lv W i).g * m)) := by
    rw [← hq2]
    unfold fol
    rw [hva]
    dsimp only
    rw [show over none (va (lv W (sh W ((lv W i).g * m) sp).lv) (sh W ((lv W i).g * m) sp).pt (start + (lv W i).g * m)) = false from rfl, if_neg Bool.false_ne_true, if_neg Bool.false_ne_true]
  have f1 := fin_some e1 ok hlw hq
  have f2 := fin_some e2 ok (by show sp.lv < W.length; exact hlw) hq3
  rw [f1, f2]
  rfl
def ttt (up : Bool) (l : Lv) (tot : Int) : Int := ((0 - rnd up tot l.g) % l.s + 1) * l.g
/-- up to the next turn -/
theorem fin_jump {W : List Lv} (ok : WOk W) {B : Bk} {d start k : Int} {i : Nat} (hi : levelOf W d = some i) (h1 : 1 ≤ d) (hi' : levelOf W (d + k) = some i) (hk0 : 0 ≤ k) (hg : (lv W i).g ∣ k) (hk : k < ttt B.up (lv W i) (start % (lv W i).g + d)) :
    (fin W B start (d + k)).1 = (fin W B start d).1 + k := by
  obtain ⟨hl, _⟩ := levelOf_lt hi
  have hall := ok.all i hl
  obtain ⟨m, rfl⟩ := hg
  refine fin_turn ok hi h1 hi' (by omega) ?_
  have e0 : rnd B.up (start + d) (lv W i).g = rnd B.up (start % (lv W i).g + d) (lv W i).g + start / (lv W i).g := by
    rw [← rnd_shift (by omega)]
    congr 1
    have := Int.emod_add_mul_ediv start (lv W i).g
    omega
  rw [e0]
  unfold ttt at hk
  generalize rnd B.up (start % (lv W i).g + d) (lv W i).g = p at *
  rw [show p + start / (lv W i).g - start / (lv W i).g - 1 = p - 1 by omega]
  have hm0 : 0 ≤ m := by
    rcases Int.lt_or_le m 0 with z | z
    · have := Int.mul_neg_of_pos_of_neg (a := (lv W i).g) (by omega) z
      omega
    · exact z
  have hm1 : m < (0 - p) % (lv W i).s + 1 := by
    rw [Int.mul_comm] at hk
    exact Int.lt_of_mul_lt_mul_right hk (by omega)
  have h3 := Int.mul_ediv_add_emod (0 - p) (lv W i).s
  have h4 := Int.emod_nonneg (0 - p) (b := (lv W i).s) (by omega)
  have h5 := Int.emod_lt_of_pos (0 - p) (b := (lv W i).s) (by omega)
  generalize (0 - p) % (lv W i).s = r at *
  have key : ∀ x : Int, 0 ≤ x → x ≤ r → (p - 1 + x) / (lv W i).s = -((0 - p) / (lv W i).s) - 1 := fun x x0 x1 => by
    have := (Int.ediv_emod_unique (a := p - 1 + x) (b := (lv W i).s) (q := -((0 - p) / (lv W i).s) - 1) (r := (lv W i).s - r - 1 + x) (by omega)).mpr ⟨by rw [Int.mul_sub, Int.mul_neg]; omega, by omega, by omega⟩
    exact this.1
  have k0 := key 0 (Int.le_refl _) h4
  rw [Int.add_zero] at k0
  rw [k0, key m hm0 (by omega)]
section
variable (W1 : List Lv) (B1 : Bk) (W2 : List Lv) (B2 : Bk)
def dif (start d : Int) : Int := (fin W1 B1 start d).1 - (fin W2 B2 start d).1
def prd (later : Bool) (z : Int) : Prop := if later = true then 0 < z else z ≠ 0
instance (later : Bool) (z : Int) : Decidable (prd later z) := by unfold prd; infer_instance
/-- the first pair of all -/
def PairIs (later : Bool) (o : Option (Int × Int)) : Prop := match o with
  | none => ∀ d, 0 ≤ d → d < reach W1 → d < reach W2 → ∀ st, 0 ≤ st → ¬ prd later (dif W1 B1 W2 B2 st d)
  | some (st, d) => 0 ≤ d ∧ d < reach W1 ∧ d < reach W2 ∧ 0 ≤ st ∧ prd later (dif W1 B1 W2 B2 st d) ∧ (∀ d', 0 ≤ d' → d' < d → ∀ st', 0 ≤ st' → ¬ prd later (dif W1 B1 W2 B2 st' d')) ∧ ∀ st', 0 ≤ st' → st' < st → ¬ prd later (dif W1 B1 W2 B2 st' d)
end
section
variable {W1 : List Lv} {B1 : Bk} {W2 : List Lv} {B2 : Bk}
theorem PairIs.uniq {later : Bool} {o o' : Option (Int × Int)} (h : PairIs W1 B1 W2 B2 later o) (h' : PairIs W1 B1 W2 B2 later o') : o = o' := by
  cases o with
  | none =>
    cases o' with
    | none => rfl
    | some p' =>
      obtain ⟨a1, a2, a3, a4, a5, _⟩ := h'
      exact absurd a5 (h _ a1 a2 a3 _ a4)
  | some p =>
    cases o' with
    | none =>
      obtain ⟨a1, a2, a3, a4, a5, _⟩ := h
      exact absurd a5 (h' _ a1 a2 a3 _ a4)
    | some p' =>
      obtain ⟨a1, a2, a3, a4, a5, a6, a7⟩ := h
      obtain ⟨b1, b2, b3, b4, b5, b6, b7⟩ := h'
      obtain ⟨st, d⟩ := p
      obtain ⟨st', d'⟩ := p'
      dsimp only at *
      have hd : d = d' := by
        rcases Int.lt_trichotomy d d' with z | z | z
        · exact absurd a5 (b6 d a1 z st a4)
        · exact z
        · exact absurd b5 (a6 d' b1 z st' b4)
      subst hd
      have hs : st = st' := by
        rcases Int.lt_trichotomy st st' with z | z | z
        · exact absurd a5 (b7 st a4 z)
        · exact z
        · exact absurd b5 (a7 st' b4 z)
      rw [hs]
theorem dif_swap (st d : Int) : dif W2 B2 W1 B1 st d = -dif W1 B1 W2 B2 st d := by unfold dif; omega
theorem prd_swap {z : Int} : prd false (-z) ↔ prd false z := by unfold prd; simp
theorem PairIs.swap {o : Option (Int × Int)} (h : PairIs W1 B1 W2 B2 false o) : PairIs W2 B2 W1 B1 false o := by
  cases o with
  | none => exact fun d a b c st e => by rw [dif_swap, prd_swap]; exact h d a c b st e
  | some p =>
    obtain ⟨a1, a2, a3, a4, a5, a6, a7⟩ := h
    refine ⟨a1, a3, a2, a4, by rw [dif_swap, prd_swap]; exact a5, fun d' x y st z => by rw [dif_swap, prd_swap]; exact a6 d' x y st z, fun st' x y => by rw [dif_swap, prd_swap]; exact a7 st' x y⟩
/-- starts count by a common multiple of the grains -/
theorem dif_later (ok1 : WOk W1) (ok2 : WOk W2) (hb1 : B1.bey < 3) (hb2 : B2.bey < 3) {d : Int} (hd : 1 ≤ d) (hr1 : d < reach W1) (hr2 : d < reach W2) {m : Int} (h1 : (lv W1 (TwM.levelIx W1 d)).g ∣ m) (h2 : (lv W2 (TwM.levelIx W2 d)).g ∣ m) (start : Int) :
    dif W1 B1 W2 B2 (start + m) d = dif W1 B1 W2 B2 start d := by
  obtain ⟨a, ha⟩ := h1
  obtain ⟨b, hb⟩ := h2
  obtain ⟨_, _, _, _, _, _, _, e1, _⟩ := later (B := B1) ok1 hb1 hd (fun z => by omega) start a
  obtain ⟨_, _, _, _, _, _, _, e2, _⟩ := later (B := B2) ok2 hb2 hd (fun z => by omega) start b
  unfold dif
  rw [← ha] at e1
  rw [← hb] at e2
  omega
theorem dif_mod (ok1 : WOk W1) (ok2 : WOk W2) (hb1 : B1.bey < 3) (hb2 : B2.bey < 3) {d : Int} (hd : 1 ≤ d) (hr1 : d < reach W1) (hr2 : d < reach W2) {m : Int} (h1 : (lv W1 (TwM.levelIx W1 d)).g ∣ m) (h2 : (lv W2 (TwM.levelIx W2 d)).g ∣ m) (start : Int) :
    dif W1 B1 W2 B2 (start % m) d = dif W1 B1 W2 B2 start d := by
  have := dif_later (B1 := B1) (B2 := B2) ok1 ok2 hb1 hb2 hd hr1 hr2 (m := m * (start / m)) (Int.dvd_trans h1 (Int.dvd_mul_right _ _)) (Int.dvd_trans h2 (Int.dvd_mul_right _ _)) (start % m)
  rw [Int.emod_add_mul_ediv] at this
  exact this.symm
/-- a timer with delay 0 -/
theorem fin_zero {W : List Lv} {B : Bk} (start : Int) : (fin W B start 0).1 = (if B.zone = false then start else (fin W B start 1).1) := by
  unfold fin placeM
  cases B.zone
  · simp
  · simp
theorem dif_zero (ok1 : WOk W1) (ok2 : WOk W2) (hb1 : B1.bey < 3) (hb2 : B2.bey < 3) (st : Int) : dif W1 B1 W2 B2 st 0 = dif W1 B1 W2 B2 0 0 := by
  have one : ∀ {W : List Lv} {B : Bk}, WOk W → B.bey < 3 → (fin W B st 1).1 = (fin W B 0 1).1 + st := fun {W B} ok hb => by
    have hp := ok.pos
    have h2 := (ok.all 0 hp).2.2.2.2
    have hr : 2 ≤ reach W := (ok.all (W.length - 1) (by omega)).2.2.2.2
    have hi : levelOf W 1 = some 0 := levelOf_is hp (fun j hj => absurd hj (Nat.not_lt_zero _)) (by omega)
    have hix : TwM.levelIx W 1 = 0 := by unfold TwM.levelIx; rw [hi]; rfl
    obtain ⟨_, _, _, _, _, _, _, e1, _⟩ := later (B := B) ok hb (delay := 1) (Int.le_refl _) (fun z => by omega) 0 st
    rw [hix, ok.first, Int.one_mul, Int.zero_add] at e1
    exact e1
  unfold dif
  rw [fin_zero, fin_zero (W := W2), fin_zero (W := W1) (start := 0), fin_zero (W := W2) (start := 0), one ok1 hb1, one ok2 hb2]
  split <;> split <;> omega
end
/-! ### delays that two wheels have in common -/
def lowD (W : List Lv) (i : Nat) : Int := if i = 0 then 1 else (lv W (i - 1)).p
structure Part where
  i : Nat
  j : Nat
  lo : Int
  hi : Int
def pLo (W1 W2 : List Lv) (i j : Nat) : Int := if lowD W2 j > lowD W1 i then lowD W2 j else lowD W1 i
def pHi (W1 W2 : List Lv) (i j : Nat) : Int := (if (lv W2 j).p < (lv W1 i).p then (lv W2 j).p else (lv W1 i).p) - 1
def partAt (W1 W2 : List Lv) (i j : Nat) : List Part := if pLo W1 W2 i j ≤ pHi W1 W2 i j then [⟨i, j, pLo W1 W2 i j, pHi W1 W2 i j⟩] else []
def cparts (W1 W2 : List Lv) : List Part := (List.range W1.length).flatMap fun i => (List.range W2.length).flatMap fun j => partAt W1 W2 i j
theorem asc_lt {W : List Lv} (ok : WOk W) {i j : Nat} (h : i < j) (hj : j < W.length) : (lv W i).p < (lv W j).p := by
  have := asc_le ok (j - i - 1) i (by omega)
  rwa [show i + (j - i - 1) + 1 = j by omega] at this
theorem lowD_le {W : List Lv} (ok : WOk W) {i j : Nat} (h : i < j) (hj : j < W.length) : (lv W i).p ≤ lowD W j := by
  unfold lowD
  rw [if_neg (by omega)]
  rcases Nat.lt_or_ge i (j - 1) with z | z
  · have := asc_lt ok z (by omega)
    omega
  · rw [show j - 1 = i by omega]
    exact Int.le_refl _
theorem lowD_pos {W : List Lv} (ok : WOk W) {i : Nat} (hi : i < W.length) : 1 ≤ lowD W i := by
  unfold lowD
  split
  · exact Int.le_refl _
  · have := (ok.all (i - 1) (by omega)).2.2.2.2
    omega
theorem level_in {W : List Lv} (ok : WOk W) {i : Nat} (hi : i < W.length) {d : Int} (h1 : lowD W i ≤ d) (h2 : d < (lv W i).p) : levelOf W d = some i := levelOf_is hi (fun j hj => by
  have := lowD_le ok hj hi
  omega) h2
theorem in_level {W : List Lv} (ok : WOk W) {d : Int} (h1 : 1 ≤ d) (h2 : d < reach W) : ∃ i, i < W.length ∧ lowD W i ≤ d ∧ d < (lv W i).p := by
  have hp := ok.pos
  cases e : levelOf W d with
  | none =>
    have := levelOf_none e (W.length - 1) (by omega)
    have h3 : reach W = (lv W (W.length - 1)).p := rfl
    omega
  | some i =>
    obtain ⟨a, b⟩ := levelOf_lt e
    refine ⟨i, a, ?_, b⟩
    unfold lowD
    split
    · exact h1
    · exact levelOf_ge e (i - 1) (by omega)
theorem mem_cparts {W1 W2 : List Lv} {x : Part} : x ∈ cparts W1 W2 ↔ x.i < W1.length ∧ x.j < W2.length ∧ x.lo = pLo W1 W2 x.i x.j ∧ x.hi = pHi W1 W2 x.i x.j ∧ x.lo ≤ x.hi := by
  unfold cparts partAt
  simp only [List.mem_flatMap, List.mem_range]
  constructor
  · rintro ⟨i, hi, j, hj, h⟩
    split at h
    · obtain rfl := List.mem_singleton.mp h
      exact ⟨hi, hj, rfl, rfl, by assumption⟩
    · cases h
  · rintro ⟨hi, hj, e1, e2, e3⟩
    refine ⟨x.i, hi, x.j, hj, ?_⟩
    rw [if_pos (by omega), ← e1, ← e2]
    exact List.mem_singleton.mpr rfl
theorem part_in {W1 W2 : List Lv} (ok1 : WOk W1) (ok2 : WOk W2) {x : Part} (hx : x ∈ cparts W1 W2) {d : Int} (h1 : x.lo ≤ d) (h2 : d ≤ x.hi) : 1 ≤ d ∧ levelOf W1 d = some x.i ∧ levelOf W2 d = some x.j ∧ d < reach W1 ∧ d < reach W2 := by
  obtain ⟨a, b, e1, e2, _⟩ := mem_cparts.mp hx
  have l1 := lowD_pos ok1 a
  have l2 := lowD_pos ok2 b
  unfold pLo at e1
  unfold pHi at e2
  have hl1 : lowD W1 x.i ≤ d := by split at e1 <;> omega
  have hl2 : lowD W2 x.j ≤ d := by split at e1 <;> omega
  have hp1 : d < (lv W1 x.i).p := by split at e2 <;> omega
  have hp2 : d < (lv W2 x.j).p := by split at e2 <;> omega
  have r1 := le_reach ok1 a
  have r2 := le_reach ok2 b
  exact ⟨by omega, level_in ok1 a hl1 hp1, level_in ok2 b hl2 hp2, by omega, by omega⟩
theorem part_of {W1 W2 : List Lv} (ok1 : WOk W1) (ok2 : WOk W2) {d : Int} (h0 : 1 ≤ d) (h1 : d < reach W1) (h2 : d < reach W2) : ∃ x ∈ cparts W1 W2, x.lo ≤ d ∧ d ≤ x.hi := by
  obtain ⟨i, a1, a2, a3⟩ := in_level ok1 h0 h1
  obtain ⟨j, b1, b2, b3⟩ := in_level ok2 h0 h2
  have c1 : pLo W1 W2 i j ≤ d := by unfold pLo; split <;> omega
  have c2 : d ≤ pHi W1 W2 i j := by unfold pHi; split <;> omega
  exact ⟨⟨i, j, pLo W1 W2 i j, pHi W1 W2 i j⟩, mem_cparts.mpr ⟨a1, b1, rfl, rfl, by show pLo W1 W2 i j ≤ pHi W1 W2 i j; omega⟩, c1, c2⟩
theorem parts_asc {W1 W2 : List Lv} (ok1 : WOk W1) (ok2 : WOk W2) : (cparts W1 W2).Pairwise fun x y => x.hi < y.lo := by
  unfold cparts
  have hm : ∀ {i j : Nat} {x : Part}, x ∈ partAt W1 W2 i j → x.lo = pLo W1 W2 i j ∧ x.hi = pHi W1 W2 i j := fun {i j x} h => by
    unfold partAt at h
    split at h
    · obtain rfl := List.mem_singleton.mp h
      exact ⟨rfl, rfl⟩
    · cases h
  rw [List.pairwise_flatMap]
  refine ⟨fun i hi => ?_, (List.pairwise_lt_range (n := W1.length)).imp_of_mem fun {i i'} hi hi' hlt x hx y hy => ?_⟩
  · rw [List.pairwise_flatMap]
    refine ⟨fun j hj => ?_, (List.pairwise_lt_range (n := W2.length)).imp_of_mem fun {j j'} hj hj' hlt x hx y hy => ?_⟩
    · unfold partAt
      split
      · exact List.pairwise_singleton _ _
      · exact List.Pairwise.nil
    · have := lowD_le ok2 hlt (List.mem_range.mp hj')
      rw [(hm hx).2, (hm hy).1]
      unfold pHi pLo
      split <;> split <;> omega
  · obtain ⟨j, hj, hx⟩ := List.mem_flatMap.mp hx
    obtain ⟨j', hj', hy⟩ := List.mem_flatMap.mp hy
    have := lowD_le ok1 hlt (List.mem_range.mp hi')
    rw [(hm hx).2, (hm hy).1]
    unfold pHi pLo
    split <;> split <;> omega
section
variable {W1 : List Lv} {B1 : Bk} {W2 : List Lv} {B2 : Bk}
/-- the first pair of a part -/
def PartIs (W1 : List Lv) (B1 : Bk) (W2 : List Lv) (B2 : Bk) (later : Bool) (x : Part) (m : Int) (o : Option (Int × Int)) : Prop := match o with
  | none => ∀ d, x.lo ≤ d → d ≤ x.hi → ∀ st, 0 ≤ st → st < m → ¬ prd later (dif W1 B1 W2 B2 st d)
  | some (d, st) => x.lo ≤ d ∧ d ≤ x.hi ∧ 0 ≤ st ∧ st < m ∧ prd later (dif W1 B1 W2 B2 st d) ∧ ∀ d' st', x.lo ≤ d' → d' ≤ x.hi → 0 ≤ st' → st' < m → prd later (dif W1 B1 W2 B2 st' d') → d < d' ∨ d = d' ∧ st ≤ st'
theorem part_mod (ok1 : WOk W1) (ok2 : WOk W2) (hb1 : B1.bey < 3) (hb2 : B2.bey < 3) {x : Part} (hx : x ∈ cparts W1 W2) {m : Int} (hm : IsL (lv W1 x.i).g (lv W2 x.j).g m) {d : Int} (h1 : x.lo ≤ d) (h2 : d ≤ x.hi) (st : Int) : dif W1 B1 W2 B2 (st % m) d = dif W1 B1 W2 B2 st d := by
  obtain ⟨a1, a2, a3, a4, a5⟩ := part_in ok1 ok2 hx h1 h2
  have e1 : TwM.levelIx W1 d = x.i := by unfold TwM.levelIx; rw [a2]; rfl
  have e2 : TwM.levelIx W2 d = x.j := by unfold TwM.levelIx; rw [a3]; rfl
  have := (hm.2 m).mp (Int.dvd_refl _)
  exact dif_mod ok1 ok2 hb1 hb2 a1 a4 a5 (by rw [e1]; exact this.1) (by rw [e2]; exact this.2) st
theorem pair_none (ok1 : WOk W1) (ok2 : WOk W2) (hb1 : B1.bey < 3) (hb2 : B2.bey < 3) {later : Bool} (h0 : ¬ prd later (dif W1 B1 W2 B2 0 0)) (h : ∀ x ∈ cparts W1 W2, ∃ m, IsL (lv W1 x.i).g (lv W2 x.j).g m ∧ PartIs W1 B1 W2 B2 later x m none) : PairIs W1 B1 W2 B2 later none := by
  intro d hd0 hd1 hd2 st hst
  by_cases hz : d = 0
  · rw [hz, dif_zero ok1 ok2 hb1 hb2]
    exact h0
  · obtain ⟨x, hx, a, b⟩ := part_of ok1 ok2 (by omega) hd1 hd2
    obtain ⟨m, hm, hp⟩ := h x hx
    rw [← part_mod ok1 ok2 hb1 hb2 hx hm a b]
    exact hp d a b _ (Int.emod_nonneg _ (by have := hm.1; omega)) (Int.emod_lt_of_pos _ hm.1)
theorem pair_some (ok1 : WOk W1) (ok2 : WOk W2) (hb1 : B1.bey < 3) (hb2 : B2.bey < 3) {later : Bool} (h0 : ¬ prd later (dif W1 B1 W2 B2 0 0)) {k : Nat} {x : Part} (hk : (cparts W1 W2)[k]? = some x) (h : ∀ k' y, k' < k → (cparts W1 W2)[k']? = some y → ∃ m, IsL (lv W1 y.i).g (lv W2 y.j).g m ∧ PartIs W1 B1 W2 B2 later y m none)
    {m : Int} (hm : IsL (lv W1 x.i).g (lv W2 x.j).g m) {d st : Int} (hp : PartIs W1 B1 W2 B2 later x m (some (d, st))) : PairIs W1 B1 W2 B2 later (some (st, d)) := by
  have hx := List.mem_of_getElem? hk
  obtain ⟨p1, p2, p3, p4, p5, p6⟩ := hp
  obtain ⟨a1, a2, a3, a4, a5⟩ := part_in ok1 ok2 hx p1 p2
  have m0 := hm.1
  have inm : ∀ s : Int, 0 ≤ s % m ∧ s % m < m := fun s => ⟨Int.emod_nonneg _ (by omega), Int.emod_lt_of_pos _ m0⟩
  refine ⟨by omega, a4, a5, p3, p5, fun d' hd0 hd1 st' hst hq => ?_, fun st' hst hlt hq => ?_⟩
  · by_cases hz : d' = 0
    · rw [hz, dif_zero ok1 ok2 hb1 hb2] at hq
      exact h0 hq
    · obtain ⟨y, hy, b1, b2⟩ := part_of ok1 ok2 (d := d') (by omega) (by omega) (by omega)
      obtain ⟨k', hk'⟩ := List.getElem?_of_mem hy
      rcases Nat.lt_trichotomy k' k with z | z | z
      · obtain ⟨m', hm', hn⟩ := h k' y z hk'
        rw [← part_mod ok1 ok2 hb1 hb2 hy hm' b1 b2] at hq
        exact hn d' b1 b2 _ (Int.emod_nonneg _ (by have := hm'.1; omega)) (Int.emod_lt_of_pos _ hm'.1) hq
      · subst z
        rw [hk] at hk'
        obtain rfl := Option.some.inj hk'
        rw [← part_mod ok1 ok2 hb1 hb2 hx hm b1 b2] at hq
        rcases p6 d' _ b1 b2 (inm st').1 (inm st').2 hq with c | c <;> omega
      · have := List.pairwise_iff_getElem.mp (parts_asc ok1 ok2) k k' (List.getElem?_eq_some_iff.mp hk).1 (List.getElem?_eq_some_iff.mp hk').1 z
        rw [(List.getElem?_eq_some_iff.mp hk).2, (List.getElem?_eq_some_iff.mp hk').2] at this
        omega
  · rcases p6 d st' p1 p2 hst (by omega) hq with c | c <;> omega
theorem IsL.eq {a b m m' : Int} (h : IsL a b m) (h' : IsL a b m') : m = m' :=
  Int.dvd_antisymm (Int.le_of_lt h.1) (Int.le_of_lt h'.1) ((h.2 m').mpr ((h'.2 m').mp (Int.dvd_refl _))) ((h'.2 m).mpr ((h.2 m).mp (Int.dvd_refl _)))
/-- the first delay, of those a common multiple apart, for one start -/
def FDIs (W1 : List Lv) (B1 : Bk) (W2 : List Lv) (B2 : Bk) (later : Bool) (hi m start low : Int) (o : Option Int) : Prop := match o with
  | none => ∀ d, low ≤ d → d ≤ hi → m ∣ d - low → ¬ prd later (dif W1 B1 W2 B2 start d)
  | some d => low ≤ d ∧ d ≤ hi ∧ m ∣ d - low ∧ prd later (dif W1 B1 W2 B2 start d) ∧ ∀ d', low ≤ d' → d' < d → m ∣ d' - low → ¬ prd later (dif W1 B1 W2 B2 start d')
theorem ttt_pos {up : Bool} {l : Lv} {t : Int} (hg : 1 ≤ l.g) (hs : 1 ≤ l.s) : 1 ≤ ttt up l t := by
  unfold ttt
  have := Int.emod_nonneg (0 - rnd up t l.g) (b := l.s) (by omega)
  have := Int.mul_le_mul (a := 1) (b := 1) (c := (0 - rnd up t l.g) % l.s + 1) (d := l.g) (by omega) hg (by omega) (by omega)
  omega
theorem fd_step (ok1 : WOk W1) (ok2 : WOk W2) {later : Bool} {x : Part} (hx : x ∈ cparts W1 W2) {m : Int} (hm : IsL (lv W1 x.i).g (lv W2 x.j).g m) {start dd n : Int} (h1 : x.lo ≤ dd) (hn : 1 ≤ n) (hq : ¬ prd later (dif W1 B1 W2 B2 start dd))
    (n1 : n ≤ ttt B1.up (lv W1 x.i) (start % (lv W1 x.i).g + dd)) (n2 : n ≤ ttt B2.up (lv W2 x.j) (start % (lv W2 x.j).g + dd)) :
    dd < dd - (0 - n) / m * m ∧ m ∣ dd - (0 - n) / m * m - dd ∧ ∀ d', dd ≤ d' → d' < dd - (0 - n) / m * m → d' ≤ x.hi → m ∣ d' - dd → ¬ prd later (dif W1 B1 W2 B2 start d') := by
  have m0 := hm.1
  have e1 := Int.mul_ediv_add_emod (0 - n) m
  have e2 := Int.emod_nonneg (0 - n) (b := m) (by omega)
  have e3 := Int.emod_lt_of_pos (0 - n) m0
  have e4 : (0 - n) / m * m = m * ((0 - n) / m) := Int.mul_comm ..
  refine ⟨by omega, ⟨-((0 - n) / m), by rw [Int.mul_neg]; omega⟩, fun d' a b c hd => ?_⟩
  obtain ⟨k, hk⟩ := hd
  obtain ⟨a1, a2, a3, a4, a5⟩ := part_in ok1 ok2 hx h1 (by omega)
  obtain ⟨b1, b2, b3, b4, b5⟩ := part_in ok1 ok2 hx (d := d') (by omega) c
  have hk1 : k < -((0 - n) / m) := by
    have : m * k < m * (-((0 - n) / m)) := by rw [Int.mul_neg]; omega
    exact Int.lt_of_mul_lt_mul_left this (by omega)
  have hkn : m * k < n := by
    have : m * k ≤ m * (-((0 - n) / m) - 1) := Int.mul_le_mul_of_nonneg_left (by omega) (by omega)
    rw [Int.mul_sub, Int.mul_neg, Int.mul_one] at this
    omega
  have hmm := (hm.2 m).mp (Int.dvd_refl _)
  have ed : d' = dd + m * k := by omega
  subst ed
  have f1 := fin_jump (B := B1) ok1 (start := start) a2 a1 b2 (by omega) (Int.dvd_trans hmm.1 (Int.dvd_mul_right _ _)) (by omega)
  have f2 := fin_jump (B := B2) ok2 (start := start) a3 a1 b3 (by omega) (Int.dvd_trans hmm.2 (Int.dvd_mul_right _ _)) (by omega)
  have : dif W1 B1 W2 B2 start (dd + m * k) = dif W1 B1 W2 B2 start dd := by unfold dif; omega
  rw [this]
  exact hq
/-- the least of some pairs -/
def BestIs (W1 : List Lv) (B1 : Bk) (W2 : List Lv) (B2 : Bk) (later : Bool) (x : Part) (m : Int) (P : Int → Int → Prop) (o : Option (Int × Int)) : Prop := match o with
  | none => ∀ d st, x.lo ≤ d → d ≤ x.hi → P d st → ¬ prd later (dif W1 B1 W2 B2 st d)
  | some (d, st) => x.lo ≤ d ∧ d ≤ x.hi ∧ 0 ≤ st ∧ st < m ∧ prd later (dif W1 B1 W2 B2 st d) ∧ ∀ d' st', x.lo ≤ d' → d' ≤ x.hi → P d' st' → prd later (dif W1 B1 W2 B2 st' d') → d < d' ∨ d = d' ∧ st ≤ st'
theorem BestIs.imp {later : Bool} {x : Part} {m : Int} {P P' : Int → Int → Prop} {o : Option (Int × Int)} (h : BestIs W1 B1 W2 B2 later x m P o) (hP : ∀ d st, x.lo ≤ d → d ≤ x.hi → P' d st → P d st) : BestIs W1 B1 W2 B2 later x m P' o := by
  cases o with
  | none => exact fun d st a b c => h d st a b (hP d st a b c)
  | some p =>
    obtain ⟨a1, a2, a3, a4, a5, a6⟩ := h
    exact ⟨a1, a2, a3, a4, a5, fun d' st' a b c => a6 d' st' a b (hP d' st' a b c)⟩
theorem BestIs.part {later : Bool} {x : Part} {m : Int} {o : Option (Int × Int)} (h : BestIs W1 B1 W2 B2 later x m (fun _ st => 0 ≤ st ∧ st < m) o) : PartIs W1 B1 W2 B2 later x m o := by
  cases o with
  | none => exact fun d a b st c e => h d st a b ⟨c, e⟩
  | some p =>
    obtain ⟨a1, a2, a3, a4, a5, a6⟩ := h
    exact ⟨a1, a2, a3, a4, a5, fun d' st' a b c e => a6 d' st' a b ⟨c, e⟩⟩
def nextBest (o : Option (Int × Int)) (st : Int) : Option Int → Option (Int × Int)
  | none => o
  | some d => match o with
    | none => some (d, st)
    | some (bd, bs) => if (if d = bd then (if st = bs then False else st < bs) else d < bd) then some (d, st) else some (bd, bs)
theorem BestIs.next {later : Bool} {x : Part} {m : Int} {P : Int → Int → Prop} {o : Option (Int × Int)} (h : BestIs W1 B1 W2 B2 later x m P o) {st low : Int} (hlo : x.lo ≤ low) (h0 : 0 ≤ st) (h1 : st < m) (hlm : low < x.lo + m) {o2 : Option Int} (hf : FDIs W1 B1 W2 B2 later x.hi m st low o2) :
    BestIs W1 B1 W2 B2 later x m (fun d s => P d s ∨ s = st ∧ low ≤ d ∧ m ∣ d - low) (nextBest o st o2) := by
  cases o2 with
  | none =>
    cases o with
    | none =>
      intro d s a b c
      rcases c with c | ⟨rfl, c1, c2⟩
      · exact h d s a b c
      · exact hf d c1 b c2
    | some p =>
      obtain ⟨a1, a2, a3, a4, a5, a6⟩ := h
      refine ⟨a1, a2, a3, a4, a5, fun d' s' a b c hq => ?_⟩
      rcases c with c | ⟨rfl, c1, c2⟩
      · exact a6 d' s' a b c hq
      · exact absurd hq (hf d' c1 b c2)
  | some d0 =>
    obtain ⟨f1, f2, f3, f4, f5⟩ := hf
    have key : ∀ d', x.lo ≤ d' → d' ≤ x.hi → low ≤ d' → m ∣ d' - low → prd later (dif W1 B1 W2 B2 st d') → d0 ≤ d' := fun d' a b c e hq => by
      rcases Int.lt_or_le d' d0 with z | z
      · exact absurd hq (f5 d' c z e)
      · exact z
    cases o with
    | none =>
      refine ⟨by omega, f2, h0, h1, f4, fun d' s' a b c hq => ?_⟩
      rcases c with c | ⟨rfl, c1, c2⟩
      · exact absurd hq (h d' s' a b c)
      · have := key d' a b c1 c2 hq
        omega
    | some p =>
      obtain ⟨bd, bs⟩ := p
      obtain ⟨a1, a2, a3, a4, a5, a6⟩ := h
      show BestIs W1 B1 W2 B2 later x m _ (if (if d0 = bd then (if st = bs then False else st < bs) else d0 < bd) then some (d0, st) else some (bd, bs))
      by_cases hc : (if d0 = bd then (if st = bs then False else st < bs) else d0 < bd)
      · rw [if_pos hc]
        have hc' : d0 < bd ∨ d0 = bd ∧ st < bs := by
          split at hc
          · split at hc
            · exact hc.elim
            · exact .inr ⟨by assumption, hc⟩
          · exact .inl hc
        refine ⟨by omega, f2, h0, h1, f4, fun d' s' a b c hq => ?_⟩
        rcases c with c | ⟨rfl, c1, c2⟩
        · rcases a6 d' s' a b c hq with z | z <;> omega
        · have := key d' a b c1 c2 hq
          omega
      · rw [if_neg hc]
        have hc' : bd < d0 ∨ bd = d0 ∧ bs ≤ st := by
          split at hc
          · split at hc <;> omega
          · omega
        refine ⟨a1, a2, a3, a4, a5, fun d' s' a b c hq => ?_⟩
        rcases c with c | ⟨rfl, c1, c2⟩
        · exact a6 d' s' a b c hq
        · have := key d' a b c1 c2 hq
          omega
end
end Tw
/-! Tw: kinds of timers of a level, in plain Lean -/
namespace Tw
open TwM
/-- two timers whose points lie in one turn fire alike, as much later as their sums are -/
theorem fin_block {W : List Lv} (ok : WOk W) {B : Bk} {d d' s s' m : Int} {i : Nat} (hi : levelOf W d = some i) (h1 : 1 ≤ d) (hi' : levelOf W d' = some i) (h1' : 1 ≤ d') (s0 : 0 ≤ s) (s1 : s < (lv W i).g) (s0' : 0 ≤ s') (s1' : s' < (lv W i).g)
    (hs : s' + d' = s + d + (lv W i).g * m) (ht : (rnd B.up (s + d) (lv W i).g - 1) / (lv W i).s = (rnd B.up (s + d) (lv W i).g - 1 + m) / (lv W i).s) :
    (fin W B s' d').1 = (fin W B s d).1 + (lv W i).g * m := by
  obtain ⟨hl, _⟩ := levelOf_lt hi
  have hall := ok.all i hl
  have e1 := place_in ok (B := B) hi h1 s
  have e2 := place_in ok (B := B) hi' h1' s'
  have hix : TwM.levelIx W d = i := by unfold TwM.levelIx; rw [hi]; rfl
  have hD := dv_of ok hl m
  have hsh : (⟨i, rnd B.up (s' + d') (lv W i).g, s' + d'⟩ : Spot) = sh W ((lv W i).g * m) ⟨i, rnd B.up (s + d) (lv W i).g, s + d⟩ := by
    unfold sh
    dsimp only
    rw [hs, rnd_shift (by omega), Int.mul_ediv_cancel_left _ (by omega)]
  rw [hsh] at e2
  have z1 : s / (lv W i).g = 0 := Int.ediv_eq_zero_of_lt s0 s1
  have z2 : s' / (lv W i).g = 0 := Int.ediv_eq_zero_of_lt s0' s1'
  generalize hsp : (⟨i, rnd B.up (s + d) (lv W i).g, s + d⟩ : Spot) = sp at *
  have hspl : sp.lv = i := by rw [← hsp]
  have hspp : sp.pt = rnd B.up (s + d) (lv W i).g := by rw [← hsp]
  have hspd : sp.due = s + d := by rw [← hsp]
  have hlw : sp.lv < W.length := by rw [hspl]; exact hl
  obtain ⟨q, hq⟩ := fol_ends ok B none (mu sp s + 1) sp s 0 hlw (Nat.le_succ _)
  have hq2 := fol_shift (B := B) ok hD (mu sp s + 1) (sp := sp) (tick := s) (mv := 0) (by omega) hlw (by rw [hspd, show s + d - s = d by omega, hix]; exact Nat.le_refl _)
  rw [hq] at hq2
  have hva : va (lv W (sh W ((lv W i).g * m) sp).lv) (sh W ((lv W i).g * m) sp).pt s' = va (lv W (sh W ((lv W i).g * m) sp).lv) (sh W ((lv W i).g * m) sp).pt (s + (lv W i).g * m) := by
    show va (lv W sp.lv) (sp.pt + (lv W i).g * m / (lv W sp.lv).g) s' = va (lv W sp.lv) (sp.pt + (lv W i).g * m / (lv W sp.lv).g) (s + (lv W i).g * m)
    rw [hspl, va_shift (by omega) (Int.dvd_mul_right _ _), Int.mul_ediv_cancel_left _ (by omega)]
    unfold va
    have k1 := mod_same (s := (lv W i).s) (by omega) ht
    rw [hspp, z1, z2]
    rw [show rnd B.up (s + d) (lv W i).g + m - 0 - 1 = rnd B.up (s + d) (lv W i).g - 1 + m by omega, k1, show rnd B.up (s + d) (lv W i).g - 0 - 1 = rnd B.up (s + d) (lv W i).g - 1 by omega]
    rw [show (0 : Int) + 1 + ((rnd B.up (s + d) (lv W i).g - 1) % (lv W i).s + m) = (0 + 1 + (rnd B.up (s + d) (lv W i).g - 1) % (lv W i).s) + m by omega, Int.add_mul, Int.mul_comm m]
  have hq3 : fol W B none (mu sp s + 1) (sh W ((lv W i).g * m) sp) s' 0 = (some q).map (shR W ((lv W i).g * m)) := by
    rw [← hq2]
    unfold fol
    rw [hva]
    dsimp only
    rw [show over none (va (lv W (sh W ((lv W i).g * m) sp).lv) (sh W ((lv W i).g * m) sp).pt (s + (lv W i).g * m)) = false from rfl, if_neg Bool.false_ne_true, if_neg Bool.false_ne_true]
  have f1 := fin_some e1 ok hlw hq
  have f2 := fin_some e2 ok (by show sp.lv < W.length; exact hlw) hq3
  rw [f1, f2]
  rfl
section
variable {W : List Lv} {B : Bk} {i : Nat}
/-- how much later than due -/
def lat (W : List Lv) (B : Bk) (s d : Int) : Int := (fin W B s d).1 - s - d
/-- the pair of a sum -/
def prD (W : List Lv) (i : Nat) (T : Int) : Int := max (lowD W i) (T - (lv W i).g + 1)
def latT (W : List Lv) (B : Bk) (i : Nat) (T : Int) : Int := lat W B (T - prD W i T) (prD W i T)
/-- the sums that a level has -/
def Tot (W : List Lv) (i : Nat) (T : Int) : Prop := lowD W i ≤ T ∧ T < (lv W i).p + (lv W i).g - 1
theorem lowD_lt (ok : WOk W) (hi : i < W.length) : lowD W i < (lv W i).p := by
  unfold lowD
  split
  · have := ok.all i hi; omega
  · have := ok.asc (i - 1) (by omega)
    rw [show i - 1 + 1 = i by omega] at this
    exact this
theorem prD_in (ok : WOk W) (hi : i < W.length) {T : Int} (h : Tot W i T) : lowD W i ≤ prD W i T ∧ prD W i T < (lv W i).p ∧ 0 ≤ T - prD W i T ∧ T - prD W i T < (lv W i).g := by
  obtain ⟨h1, h2⟩ := h
  have h3 := lowD_lt ok hi
  have h4 := ok.all i hi
  unfold prD
  omega
theorem in_lv (ok : WOk W) {d : Int} (h1 : 1 ≤ d) (hd : levelOf W d = some i) : i < W.length ∧ lowD W i ≤ d ∧ d < (lv W i).p := by
  obtain ⟨a, b⟩ := levelOf_lt hd
  refine ⟨a, ?_, b⟩
  unfold lowD
  split
  · exact h1
  · exact levelOf_ge hd (i - 1) (by omega)
theorem tot_of (ok : WOk W) {s d : Int} (h1 : 1 ≤ d) (hd : levelOf W d = some i) (s0 : 0 ≤ s) (s1 : s < (lv W i).g) : Tot W i (s + d) := by
  obtain ⟨a, b, c⟩ := in_lv ok h1 hd
  exact ⟨by omega, by omega⟩
/-- the lateness is its sum's -/
theorem lat_of (ok : WOk W) {s d : Int} (h1 : 1 ≤ d) (hd : levelOf W d = some i) (s0 : 0 ≤ s) (s1 : s < (lv W i).g) : lat W B s d = latT W B i (s + d) := by
  obtain ⟨a, b, c⟩ := in_lv ok h1 hd
  obtain ⟨p1, p2, p3, p4⟩ := prD_in ok a (tot_of ok h1 hd s0 s1)
  have lp := lowD_pos ok a
  have h := fin_block ok (B := B) (m := 0) hd h1 (level_in ok a p1 p2) (by omega) s0 s1 p3 p4 (by omega) (by rw [Int.add_zero])
  unfold latT lat
  rw [h]
  omega
theorem lat_mod (ok : WOk W) (hb3 : B.bey < 3) {s d : Int} (h1 : 1 ≤ d) (hd : levelOf W d = some i) : lat W B s d = latT W B i (s % (lv W i).g + d) := by
  obtain ⟨a, b, c⟩ := in_lv ok h1 hd
  have hg := (ok.all i a).1
  have hix : TwM.levelIx W d = i := by unfold TwM.levelIx; rw [hd]; rfl
  rw [← lat_of ok h1 hd (Int.emod_nonneg _ (by omega)) (Int.emod_lt_of_pos _ (by omega))]
  have hr : d < reach W := by
    have := le_reach ok a
    omega
  obtain ⟨_, _, _, _, _, _, _, f, _⟩ := later ok hb3 (B := B) h1 (fun z => by omega) (s % (lv W i).g) (s / (lv W i).g)
  rw [hix, Int.emod_add_mul_ediv] at f
  have := Int.emod_add_mul_ediv s (lv W i).g
  unfold lat
  omega
/-- within a turn -/
theorem latT_turn (ok : WOk W) (hi : i < W.length) {T m : Int} (h : Tot W i T) (h' : Tot W i (T + (lv W i).g * m)) (ht : (rnd B.up T (lv W i).g - 1) / (lv W i).s = (rnd B.up T (lv W i).g - 1 + m) / (lv W i).s) : latT W B i (T + (lv W i).g * m) = latT W B i T := by
  obtain ⟨p1, p2, p3, p4⟩ := prD_in ok hi h
  obtain ⟨q1, q2, q3, q4⟩ := prD_in ok hi h'
  have lp := lowD_pos ok hi
  have e : T - prD W i T + prD W i T = T := by omega
  have f := fin_block ok (B := B) (m := m) (level_in ok hi p1 p2) (by omega) (level_in ok hi q1 q2) (by omega) p3 p4 q3 q4 (by omega) (by rw [e]; exact ht)
  unfold latT lat
  rw [f]
  omega
/-! ### the turns of a rest -/
/-- the first sum of the next turn -/
def nxT (W : List Lv) (B : Bk) (i : Nat) (r T : Int) : Int :=
  (((rnd B.up T (lv W i).g - 1) / (lv W i).s + 1) * (lv W i).s + 1) * (lv W i).g + r - (if B.up = true ∧ 0 < r then (lv W i).g else 0)
theorem rnd_at {up : Bool} {g r q : Int} (hr : 0 ≤ r) (h : r < g) : rnd up (q * g + r) g = q + (if up = true ∧ 0 < r then 1 else 0) := by
  unfold rnd
  cases up with
  | false =>
    rw [if_neg Bool.false_ne_true, if_neg (fun z => Bool.false_ne_true z.1), Int.mul_comm, Int.mul_add_ediv_left _ _ (by omega), Int.ediv_eq_zero_of_lt hr h]
  | true =>
    rw [if_pos rfl]
    by_cases z : 0 < r
    · rw [if_pos ⟨rfl, z⟩, show -(q * g + r) = g * (-(q + 1)) + (g - r) by rw [Int.mul_neg, Int.mul_add, Int.mul_comm q]; omega, Int.mul_add_ediv_left _ _ (by omega), Int.ediv_eq_zero_of_lt (by omega) (by omega)]
      omega
    · rw [if_neg (fun y => z y.2), show r = 0 by omega, Int.add_zero, show -(q * g) = g * (-q) by rw [Int.mul_neg, Int.mul_comm q], Int.mul_ediv_cancel_left _ (by omega)]
      omega
theorem nxT_is (ok : WOk W) (hi : i < W.length) {r T : Int} (h0 : 0 ≤ r) (hr : r < (lv W i).g) (hT : T % (lv W i).g = r) :
    ∃ n : Int, 1 ≤ n ∧ nxT W B i r T = T + (lv W i).g * n ∧ ∀ m, 0 ≤ m → (m < n ↔ (rnd B.up T (lv W i).g - 1) / (lv W i).s = (rnd B.up T (lv W i).g - 1 + m) / (lv W i).s) := by
  have hall := ok.all i hi
  generalize hs : (lv W i).s = s at *
  generalize hg : (lv W i).g = g at *
  have e := Int.mul_ediv_add_emod T g
  rw [hT] at e
  have er : rnd B.up T g = T / g + (if B.up = true ∧ 0 < r then 1 else 0) := by
    have := rnd_at (up := B.up) (q := T / g) h0 hr
    rw [show T / g * g + r = T by rw [Int.mul_comm]; exact e] at this
    exact this
  unfold nxT
  rw [hs, hg]
  generalize hp : rnd B.up T g = p at *
  have m1 := Int.mul_ediv_add_emod (p - 1) s
  have m2 := Int.emod_nonneg (p - 1) (b := s) (by omega)
  have m3 := Int.emod_lt_of_pos (p - 1) (b := s) (by omega)
  refine ⟨s - (p - 1) % s, by omega, ?_, fun m hm => ?_⟩
  · have k : ((p - 1) / s + 1) * s + 1 = p + (s - (p - 1) % s) := by
      rw [Int.add_mul, Int.mul_comm]; omega
    rw [k, Int.add_mul, Int.mul_comm g]
    have e2 : T / g * g + r = T := by rw [Int.mul_comm]; exact e
    rw [er]
    by_cases z : B.up = true ∧ 0 < r
    · rw [if_pos z, if_pos z, Int.add_mul]; omega
    · rw [if_neg z, if_neg z, Int.add_mul]; omega
  · constructor
    · intro hlt
      have := (Int.ediv_emod_unique (a := p - 1 + m) (b := s) (q := (p - 1) / s) (r := (p - 1) % s + m) (by omega)).mpr ⟨by omega, by omega, by omega⟩
      exact this.1.symm
    · intro he
      have n1 := Int.mul_ediv_add_emod (p - 1 + m) s
      have n3 := Int.emod_lt_of_pos (p - 1 + m) (b := s) (by omega)
      rw [← he] at n1
      omega
/-- the turns' first sums, from T on, below top -/
def blkGo (W : List Lv) (B : Bk) (i : Nat) (r : Int) : Nat → Int → List Int
  | 0, _ => []
  | n + 1, T => if T < (lv W i).p + (lv W i).g - 1 then T :: blkGo W B i r n (nxT W B i r T) else []
def frT (W : List Lv) (i : Nat) (r : Int) : Int := lowD W i + (r - lowD W i) % (lv W i).g
def blk (W : List Lv) (B : Bk) (i : Nat) (r : Int) : List Int := blkGo W B i r ((lv W i).p + (lv W i).g).toNat (frT W i r)
theorem frT_mod (ok : WOk W) (hi : i < W.length) {r : Int} (h0 : 0 ≤ r) (hr : r < (lv W i).g) : frT W i r % (lv W i).g = r ∧ lowD W i ≤ frT W i r ∧ frT W i r < lowD W i + (lv W i).g := by
  have hg := (ok.all i hi).1
  unfold frT
  refine ⟨?_, by have := Int.emod_nonneg (r - lowD W i) (b := (lv W i).g) (by omega); omega, by have := Int.emod_lt_of_pos (r - lowD W i) (b := (lv W i).g) (by omega); omega⟩
  rw [Int.add_emod_emod, show lowD W i + (r - lowD W i) = r by omega, Int.emod_eq_of_lt h0 hr]
/-- each sum of this rest from T on has its turn's first sum among them; it is the least of its turn -/
theorem blkGo_has (ok : WOk W) (hi : i < W.length) {r : Int} (h0 : 0 ≤ r) (hr : r < (lv W i).g) : ∀ (n : Nat) (T : Int), lowD W i ≤ T → T % (lv W i).g = r → (lv W i).p + (lv W i).g - 1 - T ≤ n →
    (∀ x ∈ blkGo W B i r n T, T ≤ x ∧ Tot W i x ∧ x % (lv W i).g = r) ∧
    ∀ x, T ≤ x → x % (lv W i).g = r → x < (lv W i).p + (lv W i).g - 1 → ∃ y ∈ blkGo W B i r n T, y ≤ x ∧ latT W B i x = latT W B i y
  | 0, T, hl, hT, hn => ⟨fun x hx => absurd hx List.not_mem_nil, fun x a b c => by omega⟩
  | n + 1, T, hl, hT, hn => by
    have hg := (ok.all i hi).1
    obtain ⟨k, k1, k2, k3⟩ := nxT_is ok hi (B := B) h0 hr hT
    have gk : (lv W i).g * 1 ≤ (lv W i).g * k := Int.mul_le_mul_of_nonneg_left k1 (by omega)
    unfold blkGo
    by_cases z : T < (lv W i).p + (lv W i).g - 1
    · rw [if_pos z]
      have hTm : nxT W B i r T % (lv W i).g = r := by rw [k2, Int.add_mul_emod_self_left]; exact hT
      obtain ⟨i1, i2⟩ := blkGo_has ok hi h0 hr n (nxT W B i r T) (by omega) hTm (by omega)
      refine ⟨fun x hx => ?_, fun x a b c => ?_⟩
      · rcases List.mem_cons.mp hx with e | hx
        · subst e; exact ⟨Int.le_refl _, ⟨hl, z⟩, hT⟩
        · obtain ⟨q1, q2, q3⟩ := i1 x hx
          exact ⟨by omega, q2, q3⟩
      · rcases Int.lt_or_le x (nxT W B i r T) with y | y
        · obtain ⟨m, hm⟩ : ∃ m, x = T + (lv W i).g * m := by
            have := Int.emod_emod_of_dvd (x - T) (Int.dvd_refl (lv W i).g)
            have hd : (lv W i).g ∣ x - T := Int.dvd_of_emod_eq_zero (by rw [Int.sub_emod, b, hT, Int.sub_self, Int.zero_emod])
            obtain ⟨m, hm⟩ := hd
            exact ⟨m, by omega⟩
          have hm0 : 0 ≤ m := by
            rcases Int.lt_or_le m 0 with q | q
            · have := Int.mul_neg_of_pos_of_neg (a := (lv W i).g) (by omega) q
              omega
            · exact q
          have hmk : m < k := by
            have : (lv W i).g * m < (lv W i).g * k := by omega
            exact Int.lt_of_mul_lt_mul_left this (by omega)
          refine ⟨T, List.mem_cons_self, a, ?_⟩
          subst hm
          exact latT_turn ok hi ⟨hl, z⟩ ⟨by omega, c⟩ ((k3 m hm0).mp hmk)
        · obtain ⟨w, w1, w2⟩ := i2 x y b c
          exact ⟨w, List.mem_cons_of_mem _ w1, w2⟩
    · rw [if_neg z]
      exact ⟨fun x hx => absurd hx List.not_mem_nil, fun x a b c => by omega⟩
theorem blk_has (ok : WOk W) (hi : i < W.length) {r : Int} (h0 : 0 ≤ r) (hr : r < (lv W i).g) :
    (∀ x ∈ blk W B i r, Tot W i x ∧ x % (lv W i).g = r) ∧ ∀ x, Tot W i x → x % (lv W i).g = r → ∃ y ∈ blk W B i r, y ≤ x ∧ latT W B i x = latT W B i y := by
  obtain ⟨f1, f2, f3⟩ := frT_mod ok hi h0 hr
  have hall := ok.all i hi
  have lp := lowD_pos ok hi
  obtain ⟨a, b⟩ := blkGo_has ok hi (B := B) h0 hr ((lv W i).p + (lv W i).g).toNat (frT W i r) f2 f1 (by omega)
  refine ⟨fun x hx => (a x hx).2, fun x ht hx => b x ?_ hx ht.2⟩
  rcases Int.lt_or_le x (frT W i r) with z | z
  · have hd : (lv W i).g ∣ frT W i r - x := Int.dvd_of_emod_eq_zero (by rw [Int.sub_emod, f1, hx, Int.sub_self, Int.zero_emod])
    have := Int.le_of_dvd (by omega) hd
    have := ht.1
    omega
  · exact z
/-- the sums that samples looks at -/
def smp (W : List Lv) (B : Bk) (i : Nat) : List Int := (List.range (lv W i).g.toNat).flatMap fun (r : Nat) => blk W B i r
theorem smp_in (ok : WOk W) (hi : i < W.length) {T : Int} (h : T ∈ smp W B i) : Tot W i T := by
  obtain ⟨r, hr, h⟩ := List.mem_flatMap.mp h
  have hr := List.mem_range.mp hr
  exact ((blk_has ok hi (B := B) (by omega) (by omega)).1 T h).1
theorem smp_has (ok : WOk W) (hi : i < W.length) {T : Int} (h : Tot W i T) : ∃ y ∈ smp W B i, y ≤ T ∧ latT W B i T = latT W B i y := by
  have hg := (ok.all i hi).1
  have h0 := Int.emod_nonneg T (b := (lv W i).g) (by omega)
  have hr := Int.emod_lt_of_pos T (b := (lv W i).g) (by omega)
  obtain ⟨y, y1, y2⟩ := (blk_has ok hi (B := B) h0 hr).2 T h rfl
  refine ⟨y, List.mem_flatMap.mpr ⟨(T % (lv W i).g).toNat, List.mem_range.mpr (by omega), ?_⟩, y2⟩
  rw [show (((T % (lv W i).g).toNat : Nat) : Int) = T % (lv W i).g by omega]
  exact y1
end
end Tw
/-! Tw: the least delay of a level -/
namespace Tw
open PySem PySem.Spec PyProof.Rows L2 He TwM StX
open PySem.W (Frag)
local macro_rules | `(tactic| walk_at "rsl") => `(tactic| simp only [*, at3_0, at3_1, at3_2, at2_0, at2_1, updS, upd_two, gSub, rSetL, updN, tPar, tPar3, gTup, gCons, gNil, and_assoc, not_true_eq_false, not_false_eq_true, tNever, List.length_map, tFld, rIxTH, rIxLH, rLenTH, rLenLH, lk1, lfs_g, lfs_s, lfs_p, HO.ins.injEq, HO.tup.injEq, HO.lst.injEq, sp_Book_rounding, sp_Book_action, sp_Book_order, sp_Book_due, sp_Book_zero, sp_Book_beyond, Int.toNat_natCast, sp_visit_after, sp_is_visited, sp_Level_grain, sp_Level_slots, sp_Level_span, sp_Wheel_reach, sp_Wheel___len__, sp_is_integer, sp_is_count, sp_is_within, sp_rounded, tAsg, gName, tVar, tC, tOp, rI, rI0, rU, tUn, oAdd, oSub, oMul, oDiv, oMod, oNeg, oLt, oLe, oGt, oGe, oIsN, oNotN, tFn, tCons, tNil, tIfS, tIf, tTest, tB, tNot, tAnd, tOr, tAndV, tOrV, tNotV,
    tRet, tRetN, tNext, tCB, tDrop, tChain, rEq, rNe, oMax2, oMin2, oInt1, rLenF, L2.start, List.map_cons, List.map_nil, List.length_cons, List.length_nil, List.replicate_succ, List.replicate_zero, List.cons_append, List.nil_append, Nat.reduceAdd, Nat.reduceSub, Nat.zero_add,
    List.set_cons_zero, List.set_cons_succ, List.getElem?_cons_zero, List.getElem?_cons_succ, Option.some.injEq, V.int.injEq, V.ref.injEq, V.str.injEq, V.bl.injEq, exists_eq_left', exists_eq_left, exists_and_left, List.cons.injEq, and_true, true_and, decide_eq_true_eq, sc_ii, sc_ss, sc_bb, sc_ni, sc_in, sc_nn, sc_is, reduceCtorEq,
    Bool.not_eq_true', decide_eq_false_iff_not, if_true, if_false, Bool.false_eq_true, exists_eq', exists_const, false_and, and_false, or_false, false_or, exists_false, Bool.not_not, Bool.not_true, Bool.not_false, sUp_up, sFire_fire, sHigh_high, sPut_put, sZone_now, sBey_refuse, sBey_cut, tTup, tLst, sz0, sz1, sz2, sz3, sz4, sz5, sz6])
section
variable {K : Frag} {w : World}
def sp_low_delay (K : Frag) : Sp := fun vs H Q _ => ∃ (a : Addr) (i : Nat), vs = [.ref a, .int (i : Nat)] ∧ ∃ W, WhAt K H a W ∧ i < W.length ∧ Q (.int (lowD W i)) H
def t_low_delay (K : Frag) (w : World) : TS :=
  (tSeq (tIfS (tTest (tOp rEq (tVar 1) (tC (.int 0)))) (tRet (tC (.int 1))) tNext)
  (tRet (tFn (sp_Level_span K) E0 (tCons (tFn (sp_Wheel___getitem__ K) E0 (tCons (tVar 0) (tCons (tOp oSub (tVar 1) (tC (.int 1))) tNil))) tNil))))
def n_low_delay : List Str := ["wheel", "index"]
theorem rd_low_delay (vs : List V) (H : Hp) (Q : VK) (E : XK) (h : sp_low_delay K vs H Q E) : t_low_delay K w { nx := fun _ H' => Q .non H', rt := Q } (L2.start n_low_delay vs) H := by
  obtain ⟨a, i, rfl, W, hW, hi, q⟩ := h
  unfold lowD at q
  unfold t_low_delay n_low_delay
  rw [seq1]
  walk_at "rsl"
  refine ite2 (fun h0 => ?_) fun h0 => ?_
  · rw [if_pos (by omega)] at q
    exact q
  · rw [if_neg (by omega)] at q
    refine ⟨a, (i : Int) - 1, rfl, W, hW, by omega, by omega, fun c hc => ⟨c, rfl, _, hc, ?_⟩⟩
    rw [show ((i : Int) - 1).toNat = i - 1 by omega]
    exact q
end
end Tw
/-! what sleeps stays asleep: a promise that holds of every table of generators keeps each sleeping one as it is -/
namespace TwZ
open PySem
open Sem (wp)

/-- asleep, and nobody can wake it -/
def dull : GenState → GenState
  | .suspended _ l c p fs cl => .suspended (fun _ => .unsupported "") l c p fs cl
  | x => x
def slp : GenState → Bool
  | .suspended .. => true
  | _ => false
theorem dull_seen (x : GenState) : (dull x).seen = x.seen := by cases x <;> rfl
theorem dull_bare (x : GenState) : (dull x).bare = x.bare := by cases x <;> rfl
/-- what stands at i: the sleeper of T, else x -/
def pick (T : Array GenState) (i : Nat) (x : GenState) : GenState :=
  match T[i]? with
  | some y => if slp y = true then y else x
  | none => x
theorem pick_slp {T : Array GenState} {i : Nat} {x y : GenState} (h : T[i]? = some y) (hy : slp y = true) : pick T i x = y := by
  unfold pick; rw [h]; exact if_pos hy
theorem pick_not {T : Array GenState} {i : Nat} {x : GenState} (h : ∀ y, T[i]? = some y → slp y = false) : pick T i x = x := by
  unfold pick
  cases e : T[i]? with
  | none => rfl
  | some y => exact if_neg (by rw [h y e]; exact Bool.false_ne_true)
def und (T G : Array GenState) : Array GenState := Array.ofFn (n := G.size) fun i => pick T i.1 G[i.1]
theorem und_size (T G : Array GenState) : (und T G).size = G.size := by simp [und]
theorem und_get (T G : Array GenState) (i : Nat) : (und T G)[i]? = (G[i]?).map (pick T i) := by
  by_cases h : i < G.size
  · have h2 : i < (und T G).size := by rw [und_size]; exact h
    rw [Array.getElem?_eq_getElem h, Array.getElem?_eq_getElem h2]
    simp [und]
  · have h2 : ¬ i < (und T G).size := by rw [und_size]; exact h
    rw [Array.getElem?_eq_none (Nat.le_of_not_lt h), Array.getElem?_eq_none (Nat.le_of_not_lt h2)]
    rfl
/-- the sleepers of T sleep in G, and nobody can wake them; whatever else sleeps in G sleeps by itself -/
structure Dl (T G : Array GenState) : Prop where
  at' : ∀ (i : Nat) (y : GenState), T[i]? = some y → slp y = true → G[i]? = some (dull y)
  own : ∀ (i : Nat) k l c p fs cl, G[i]? = some (.suspended k l c p fs cl) → splitAtGen fs = none ∨ ∃ y, T[i]? = some y ∧ slp y = true
theorem Dl.seen {T G : Array GenState} (d : Dl T G) {i : Nat} {x : GenState} (h : G[i]? = some x) : (und T G)[i]? = some (pick T i x) ∧ (pick T i x).seen = x.seen := by
  refine ⟨by rw [und_get, h]; rfl, ?_⟩
  unfold pick
  cases e : T[i]? with
  | none => rfl
  | some y =>
    show (if slp y = true then y else x).seen = _
    by_cases z : slp y = true
    · rw [if_pos z]
      have q := d.at' i y e z
      rw [h] at q; cases q
      exact (dull_seen y).symm
    · rw [if_neg z]
theorem Dl.lt {T G : Array GenState} (d : Dl T G) {i : Nat} {y : GenState} (h : T[i]? = some y) (hy : slp y = true) : i < G.size :=
  (Array.getElem?_eq_some_iff.mp (d.at' i y h hy)).1
theorem Dl.push {T G : Array GenState} (d : Dl T G) (c : Code) : Dl T (G.push (.fresh c)) ∧ und T (G.push (.fresh c)) = (und T G).push (.fresh c) := by
  refine ⟨⟨fun i y h hy => ?_, fun i k l c' p fs cl h => ?_⟩, ?_⟩
  · rw [Array.getElem?_push, if_neg (Nat.ne_of_lt (d.lt h hy))]
    exact d.at' i y h hy
  · rw [Array.getElem?_push] at h
    split at h
    · cases h
    · exact d.own i k l c' p fs cl h
  · refine Array.ext_getElem? fun i => ?_
    rw [und_get, Array.getElem?_push, Array.getElem?_push, und_get, und_size]
    by_cases z : i = G.size
    · rw [if_pos z, if_pos z]
      show some (pick T i _) = _
      rw [pick_not fun y hy => ?_]
      cases e : slp y with
      | false => rfl
      | true => exact absurd (d.lt hy e) (by rw [z]; exact Nat.lt_irrefl _)
    · rw [if_neg z, if_neg z]
/-- g is no sleeper of T -/
def Awk (T : Array GenState) (g : Nat) : Prop := ∀ y, T[g]? = some y → slp y = false
theorem Dl.set {T G : Array GenState} (d : Dl T G) {g : Nat} {x : GenState} (hg : Awk T g) (hx : ∀ k l c p fs cl, x = .suspended k l c p fs cl → splitAtGen fs = none) :
    Dl T (G.setIfInBounds g x) ∧ und T (G.setIfInBounds g x) = (und T G).setIfInBounds g x := by
  refine ⟨⟨fun i y h hy => ?_, fun i k l c' p fs cl h => ?_⟩, ?_⟩
  · have n : g ≠ i := fun e => by subst e; rw [hg y h] at hy; cases hy
    rw [Array.getElem?_setIfInBounds_ne n]
    exact d.at' i y h hy
  · by_cases z : g = i
    · subst z
      rw [Array.getElem?_setIfInBounds] at h
      split at h
      · split at h
        · cases h; exact .inl (hx _ _ _ _ _ _ rfl)
        · cases h
      · exact d.own _ k l c' p fs cl h
    · rw [Array.getElem?_setIfInBounds_ne z] at h
      exact d.own i k l c' p fs cl h
  · refine Array.ext_getElem? fun i => ?_
    rw [und_get, Array.getElem?_setIfInBounds, Array.getElem?_setIfInBounds, und_get, und_size]
    by_cases z : g = i
    · subst z
      rw [if_pos rfl, if_pos rfl]
      by_cases q : g < G.size
      · rw [if_pos q]
        show some (pick T g x) = _
        rw [pick_not hg]
      · rw [if_neg q]; rfl
    · rw [if_neg z, if_neg z]
theorem Dl.fresh {T G : Array GenState} (d : Dl T G) {g : Nat} {x : GenState} (h : G[g]? = some x) (hx : slp x = false) : Awk T g := fun y hy => by
  cases e : slp y with
  | false => rfl
  | true =>
    have q := d.at' g y hy e
    rw [h] at q; cases q
    cases y <;> first | (cases hx; done) | (cases e; done)
/-- the state with its sleepers -/
abbrev und' (T : Array GenState) (s : Shared) : Shared := { s with gens := und T s.gens }
theorem und_set {T : Array GenState} {s : Shared} (d : Dl T s.gens) {g : Nat} {x : GenState} (hg : Awk T g) (hx : ∀ k l c p fs cl, x = .suspended k l c p fs cl → splitAtGen fs = none) :
    und' T (s.setGen g x) = (und' T s).setGen g x := by
  show ({ s with gens := und T (s.gens.setIfInBounds g x) } : Shared) = { s with gens := (und T s.gens).setIfInBounds g x }
  rw [(d.set hg hx).2]
theorem no_unsup {M : Model} {Γ : Ctx} {p : Pos} {w : String} {fs : List Frame} {s s' : Shared} {e : End} : ¬ Runs M Γ p (.unsupported w) fs s e s' := fun h => by
  generalize ht : (Sem.unsupported w : Sem PySem.Fin) = t at h
  induction h <;> first | (cases ht; done) | (rename_i ih; exact ih ht) | (rename_i ih _; exact ih ht) | (rename_i ih _ _; exact ih ht) | skip

theorem split_app {a b : List Frame} (ha : splitAtGen a = none) (hb : splitAtGen b = none) : splitAtGen (a ++ b) = none := by
  induction a with
  | nil => exact hb
  | cons f a ih =>
    cases f with
    | gen g k l c p => cases ha
    | ret k h g l c p kp =>
      have q : splitAtGen a = none := by
        cases e : splitAtGen a with
        | none => rfl
        | some x => rw [show splitAtGen (.ret k h g l c p kp :: a) = (splitAtGen a).map _ from rfl, e] at ha; cases ha
      show (splitAtGen (a ++ b)).map _ = none
      rw [ih q]; rfl
theorem split_tl {k h g l c p kp} {fs : List Frame} (n : splitAtGen (.ret k h g l c p kp :: fs) = none) : splitAtGen fs = none := by
  cases e : splitAtGen fs with
  | none => rfl
  | some x => rw [show splitAtGen (.ret k h g l c p kp :: fs) = (splitAtGen fs).map _ from rfl, e] at n; cases n
/-- an end whose frames hold no generator's mark -/
def cln : End → Prop
  | .ret _ => True
  | .susp _ _ _ _ _ _ fs => splitAtGen fs = none
theorem cln_gs {e : End} (h : cln e) : ∀ k l c p fs cl, e.genState = .suspended k l c p fs cl → splitAtGen fs = none := by
  cases e with
  | ret r => intro _ _ _ _ _ _ q; cases q
  | susp v g l k c p fs => intro _ _ _ _ _ _ q; cases q; exact h
theorem runs_und {M : Model} {Γ : Ctx} {p : Pos} {t : Sem PySem.Fin} {fs : List Frame} {s s' : Shared} {e : End} (h : Runs M Γ p t fs s e s') {T : Array GenState} :
    splitAtGen fs = none → Dl T s.gens → Runs M Γ p t fs (und' T s) e (und' T s') ∧ Dl T s'.gens ∧ cln e := by
  induction h with
  | done => intro _ d; exact ⟨.done, d, trivial⟩
  | raise => intro _ d; exact ⟨.raise, d, trivial⟩
  | again q _ ih => intro n d; obtain ⟨a, b⟩ := ih n d; exact ⟨.again q a, b⟩
  | rule _ ih => intro n d; obtain ⟨a, b⟩ := ih n d; exact ⟨.rule a, b⟩
  | «at» _ ih => intro n d; obtain ⟨a, b⟩ := ih n d; exact ⟨.at a, b⟩
  | load o _ ih => intro n d; obtain ⟨a, b⟩ := ih n d; exact ⟨.load o a, b⟩
  | update o _ ih => intro n d; obtain ⟨a, b⟩ := ih n d; exact ⟨.update o a, b⟩
  | loadIfAlive _ ih => intro n d; obtain ⟨a, b⟩ := ih n d; exact ⟨.loadIfAlive a, b⟩
  | point _ ih => intro n d; obtain ⟨a, b⟩ := ih n d; exact ⟨.point a, b⟩
  | alloc _ ih => intro n d; obtain ⟨a, b⟩ := ih n d; exact ⟨.alloc a, b⟩
  | fresh _ ih => intro n d; obtain ⟨a, b⟩ := ih n d; exact ⟨.fresh a, b⟩
  | ask _ ih => intro n d; obtain ⟨a, b⟩ := ih n d; exact ⟨.ask a, b⟩
  | choose q _ ih => intro n d; obtain ⟨a, b⟩ := ih n d; exact ⟨.choose q a, b⟩
  | os _ ih => intro n d; obtain ⟨a, b⟩ := ih n d; exact ⟨.os a, b⟩
  | handled _ ih => intro n d; obtain ⟨a, b⟩ := ih n d; exact ⟨.handled a, b⟩
  | genState hg _ ih =>
    intro n d
    obtain ⟨a, b⟩ := ih n d
    obtain ⟨q1, q2⟩ := d.seen hg
    rw [← q2] at a
    exact ⟨.genState q1 a, b⟩
  | stack _ ih => intro n d; obtain ⟨a, b⟩ := ih n d; exact ⟨.stack a, b⟩
  | thread _ ih => intro n d; obtain ⟨a, b⟩ := ih n d; exact ⟨.thread a, b⟩
  | newGen _ ih =>
    intro n d
    obtain ⟨q1, q2⟩ := d.push _
    obtain ⟨a, b⟩ := ih n q1
    refine ⟨.newGen ?_, b⟩
    rw [und_size]
    rw [← q2]
    exact a
  | call _ _ ih1 ih2 => intro n d; obtain ⟨a, b, _⟩ := ih1 rfl d; obtain ⟨a2, b2⟩ := ih2 n b; exact ⟨.call a a2, b2⟩
  | callSusp _ ih1 => intro n d; obtain ⟨a, b, c⟩ := ih1 rfl d; exact ⟨.callSusp a, b, split_app c rfl⟩
  | yield => intro _ d; exact ⟨.yield, d, rfl⟩
  | resumeFresh hg _ hq _ ih1 ih2 =>
    intro n d
    have w := d.fresh hg rfl
    have q0 := d.set (x := .running) w (fun _ _ _ _ _ _ z => by cases z)
    obtain ⟨a, b, c⟩ := ih1 rfl q0.1
    rw [und_set d w (fun _ _ _ _ _ _ z => by cases z)] at a
    obtain ⟨a2, b2⟩ := ih2 n (b.set w (cln_gs c)).1
    rw [und_set b w (cln_gs c)] at a2
    have hg2 := (d.seen hg).1
    rw [pick_not w] at hg2
    exact ⟨.resumeFresh hg2 a hq a2, b2⟩
  | resumeSuspended hg hr hq _ ih1 ih2 =>
    rename_i g _ _ _ _ _ _ _ _ _ _ _ _ _ _ _
    intro n d
    have w : Awk T g := fun y hy => by
      cases e : slp y with
      | false => rfl
      | true =>
        have q := d.at' g y hy e
        rw [hg] at q
        cases y <;> first | (cases e; done) | skip
        cases q
        exact absurd hr no_unsup
    have hf := (d.own _ _ _ _ _ _ _ hg).resolve_right fun ⟨y, hy, e⟩ => by rw [w y hy] at e; cases e
    have q0 := d.set (x := .running) w (fun _ _ _ _ _ _ z => by cases z)
    obtain ⟨a, b, c⟩ := ih1 hf q0.1
    rw [und_set d w (fun _ _ _ _ _ _ z => by cases z)] at a
    obtain ⟨a2, b2⟩ := ih2 n (b.set w (cln_gs c)).1
    rw [und_set b w (cln_gs c)] at a2
    have hg2 := (d.seen hg).1
    rw [pick_not w] at hg2
    exact ⟨.resumeSuspended hg2 a hq a2, b2⟩
  | resumeJustStarted hg hv _ ih =>
    intro n d
    obtain ⟨a, b⟩ := ih n d
    have hg2 := (d.seen hg).1
    rw [pick_not (d.fresh hg rfl)] at hg2
    exact ⟨.resumeJustStarted hg2 hv a, b⟩
  | resumeThrowFresh hg _ ih =>
    intro n d
    have w := d.fresh hg rfl
    have q0 := d.set (x := .finished) w (fun _ _ _ _ _ _ z => by cases z)
    obtain ⟨a, b⟩ := ih n q0.1
    rw [und_set d w (fun _ _ _ _ _ _ z => by cases z)] at a
    have hg2 := (d.seen hg).1
    rw [pick_not w] at hg2
    exact ⟨.resumeThrowFresh hg2 a, b⟩
  | resumeRunning hg _ ih =>
    intro n d
    obtain ⟨a, b⟩ := ih n d
    refine ⟨.resumeRunning ?_ a, b⟩
    rw [show (und' T _).gens = und T _ from rfl, und_get, hg]
    exact congrArg some (pick_not (d.fresh hg rfl))
  | resumeFinished hg _ ih =>
    intro n d
    obtain ⟨a, b⟩ := ih n d
    refine ⟨.resumeFinished ?_ a, b⟩
    rw [show (und' T _).gens = und T _ from rfl, und_get, hg]
    exact congrArg some (pick_not (d.fresh hg rfl))
  | segRet _ _ ih1 ih2 =>
    intro n d
    obtain ⟨a, b, _⟩ := ih1 rfl d
    obtain ⟨a2, b2⟩ := ih2 (split_tl n) b
    exact ⟨.segRet a a2, b2⟩
  | segGen => intro n; cases n
  | segSuspOut hn _ ih1 => intro n d; obtain ⟨a, b, c⟩ := ih1 rfl d; exact ⟨.segSuspOut hn a, b, split_app c hn⟩
  | segSuspGen hs => intro n; rw [hs] at n; cases n

theorem returns_und {M : Model} {Γ : Ctx} {p : Pos} {s s' : Shared} {r : Result} (h : Returns M Γ p s r s') {T : Array GenState} (d : Dl T s.gens) : Returns M Γ p (und' T s) r (und' T s') ∧ Dl T s'.gens :=
  let ⟨a, b, _⟩ := runs_und h rfl d
  ⟨a, b⟩
theorem wakes_und {M : Model} {Γ : Ctx} {p : Pos} {g : Nat} {r : Resume} {s s' : Shared} {res : GenResult} (h : Wakes M Γ p g r s res s') {T : Array GenState} (d : Dl T s.gens) :
    Wakes M Γ p g r (und' T s) res (und' T s') ∧ Dl T s'.gens := by
  unfold Wakes at h ⊢
  have hu : (und' T s).gens[g]? = (s.gens[g]?).map (pick T g) := und_get T s.gens g
  rw [hu]
  cases hg : s.gens[g]? with
  | none => rw [hg] at h; exact h.elim
  | some x =>
    rw [hg] at h
    cases x with
    | fresh c =>
      have w := d.fresh hg rfl
      rw [show (some (GenState.fresh c)).map (pick T g) = some (.fresh c) from congrArg some (pick_not w)]
      cases r with
      | send v =>
        by_cases z : v = .none
        · subst z
          obtain ⟨e, s1, hr, hq, h1, rfl⟩ := h
          have q0 := d.set (x := .running) w (fun _ _ _ _ _ _ z => by cases z)
          obtain ⟨a, b, c⟩ := runs_und hr rfl q0.1
          rw [und_set d w (fun _ _ _ _ _ _ z => by cases z)] at a
          exact ⟨⟨e, _, a, hq, h1, und_set b w (cln_gs c)⟩, (b.set w (cln_gs c)).1⟩
        · have h' : res = .justStarted ∧ s' = s := by cases v <;> first | exact absurd rfl z | exact h
          obtain ⟨rfl, rfl⟩ := h'
          refine ⟨?_, d⟩
          cases v <;> first | exact absurd rfl z | exact ⟨rfl, rfl⟩
      | throw x =>
        obtain ⟨h1, rfl⟩ := h
        exact ⟨⟨h1, und_set d w (fun _ _ _ _ _ _ z => by cases z)⟩, (d.set w (fun _ _ _ _ _ _ z => by cases z)).1⟩
    | suspended k l c p' fs cl =>
      obtain ⟨e, s1, hr, hq, h1, rfl⟩ := h
      have w : Awk T g := fun y hy => by
        cases e : slp y with
        | false => rfl
        | true =>
          have q := d.at' g y hy e
          rw [hg] at q
          cases y <;> first | (cases e; done) | skip
          cases q
          exact absurd hr no_unsup
      have hf := (d.own _ _ _ _ _ _ _ hg).resolve_right fun ⟨y, hy, e⟩ => by rw [w y hy] at e; cases e
      have q0 := d.set (x := .running) w (fun _ _ _ _ _ _ z => by cases z)
      obtain ⟨a, b, c⟩ := runs_und hr hf q0.1
      rw [und_set d w (fun _ _ _ _ _ _ z => by cases z)] at a
      rw [show (some (GenState.suspended k l _ p' fs cl)).map (pick T g) = some _ from congrArg some (pick_not w)]
      exact ⟨⟨e, _, a, hq, h1, und_set b w (cln_gs c)⟩, (b.set w (cln_gs c)).1⟩
    | running =>
      have w := d.fresh hg rfl
      rw [show (some GenState.running).map (pick T g) = some .running from congrArg some (pick_not w)]
      obtain ⟨h1, rfl⟩ := h
      exact ⟨⟨h1, rfl⟩, d⟩
    | finished =>
      have w := d.fresh hg rfl
      rw [show (some GenState.finished).map (pick T g) = some .finished from congrArg some (pick_not w)]
      obtain ⟨h1, rfl⟩ := h
      exact ⟨⟨h1, rfl⟩, d⟩
theorem wp_und {α : Type} (M : Model) (Γ : Ctx) (T : Array GenState) (t : Sem α) : ∀ (Q : α → Pos → Shared → Prop) (E : Value → Pos → Shared → Prop) (p : Pos) (s : Shared), Dl T s.gens → wp M Γ t Q E p s →
    wp M Γ t (fun a p' s' => ∃ s1, s' = und' T s1 ∧ Dl T s1.gens ∧ Q a p' s1) (fun e p' s' => ∃ s1, s' = und' T s1 ∧ Dl T s1.gens ∧ E e p' s1) p (und' T s) := by
  induction t with
  | pure a => intro Q E p s d h; exact ⟨s, rfl, d, h⟩
  | raise e => intro Q E p s d h; exact ⟨s, rfl, d, h⟩
  | unsupported _ => intro Q E p s _ h; exact h
  | finish _ => intro Q E p s _ h; exact h
  | rule _ k ih => intro Q E p s d h; exact ih () Q E p s d h
  | «at» p' k ih => intro Q E p s d h; exact ih () Q E p' s d h
  | load a _ k ih => intro Q E p s d h; obtain ⟨o, ho, h⟩ := h; exact ⟨o, ho, ih o Q E p s d h⟩
  | update a _ f k ih => intro Q E p s d h; exact ⟨h.1, ih () Q E p { s with heap := s.heap.update a f } d h.2⟩
  | loadIfAlive a k ih => intro Q E p s d h; exact ih _ Q E p s d h
  | point _ k ih => intro Q E p s d h; exact ih () Q E p s d h
  | register _ _ => intro Q E p s _ h; exact h
  | alloc o k ih => intro Q E p s d h; exact ih _ Q E p { s with heap := s.heap.push o } d h
  | fresh k ih => intro Q E p s d h; exact ih _ Q E p { s with toks := s.toks + 1 } d h
  | ask k ih => intro Q E p s d h; exact ih _ Q E p s d h
  | choose src m k ih => intro Q E p s d h; exact ⟨h.1, ih _ Q E p { s with drawn := s.drawn.bump src } d h.2⟩
  | os q _ k ih => intro Q E p s d h; exact ih _ Q E p { s with os := (Os.step s.os q).1 } d h
  | call c hd _ _ k ih =>
    intro Q E p s d h
    obtain ⟨r, s', hr, h⟩ := h
    obtain ⟨a, b⟩ := returns_und hr d
    exact ⟨r, _, a, ih r Q E p s' b h⟩
  | handled own k ih => intro Q E p s d h; exact ih _ Q E p s d h
  | genState g k ih =>
    intro Q E p s d h
    obtain ⟨st, hs, h⟩ := h
    obtain ⟨q1, q2⟩ := d.seen hs
    refine ⟨_, q1, ?_⟩
    rw [q2]
    exact ih _ Q E p s d h
  | newGen c k ih =>
    intro Q E p s d h
    obtain ⟨q1, q2⟩ := d.push c
    have := ih _ Q E p { s with gens := s.gens.push (.fresh c) } q1 h
    rw [Sem.wp_newGen, show (und' T s).gens.size = s.gens.size from und_size _ _]
    have e : und' T { s with gens := s.gens.push (.fresh c) } = { und' T s with gens := (und' T s).gens.push (.fresh c) } := by
      show ({ s with gens := und T (s.gens.push (.fresh c)) } : Shared) = _
      rw [q2]
    rw [e] at this
    exact this
  | resume g r _ k ih =>
    intro Q E p s d h
    obtain ⟨res, s', hw, h⟩ := h
    obtain ⟨a, b⟩ := wakes_und hw d
    exact ⟨res, _, a, ih res Q E p s' b h⟩
  | yield _ _ _ _ => intro Q E p s _ h; exact h
  | stack k ih => intro Q E p s d h; exact ih _ Q E p s d h
  | fork _ _ => intro Q E p s _ h; exact h
  | thread k ih => intro Q E p s d h; exact ih _ Q E p s d h
  | await _ _ _ _ _ => intro Q E p s _ h; exact h

/-- a table with its sleepers made dull -/
def dulls (T : Array GenState) : Array GenState := T.map dull
theorem dulls_get (T : Array GenState) (i : Nat) : (dulls T)[i]? = (T[i]?).map dull := by simp [dulls]
theorem dulls_dl (T : Array GenState) : Dl T (dulls T) := ⟨fun i y h _ => by rw [dulls_get, h]; rfl, fun i k l c p fs cl h => by
  rw [dulls_get] at h
  cases e : T[i]? with
  | none => rw [e] at h; cases h
  | some y =>
    rw [e] at h
    refine .inr ⟨y, rfl, ?_⟩
    cases y <;> first | rfl | (cases h; done)⟩
theorem und_dulls (T : Array GenState) : und T (dulls T) = T := by
  refine Array.ext_getElem? fun i => ?_
  rw [und_get, dulls_get]
  cases e : T[i]? with
  | none => rfl
  | some y =>
    show some (pick T i (dull y)) = some y
    cases z : slp y with
    | true => rw [pick_slp e z]
    | false => rw [pick_not fun y' h => by rw [e] at h; cases h; exact z]; cases y <;> first | rfl | (cases z; done)
/-- all that sleeps in T sleeps in G just so -/
def Slps (T G : Array GenState) : Prop := ∀ (i : Nat) (y : GenState), T[i]? = some y → slp y = true → G[i]? = some y
theorem Slps.refl (T : Array GenState) : Slps T T := fun _ _ h _ => h
theorem Slps.trans {A B C : Array GenState} (a : Slps A B) (b : Slps B C) : Slps A C := fun i y h z => b i y (a i y h z) z
theorem slps_und {T G : Array GenState} (d : Dl T G) : Slps T (und T G) := fun i y h z => by
  rw [und_get, d.at' i y h z]
  exact congrArg some (pick_slp h z)
/-- THE LAW: a promise that holds of the table with its sleepers made dull leaves each sleeper as it was -/
theorem wpAny_slps {α : Type} {M : Model} {A : Around} {s : Shared} {t : Sem α} {Q : α → Shared → Prop} {E : Value → Shared → Prop}
    (h : wpAny M A t (fun a s' => ∀ G, Slps s.gens G → (∀ x ∈ G, (∃ y ∈ s'.gens, y.bare = x.bare)) → (∀ i : Nat, s.gens.size ≤ i → G[i]? = s'.gens[i]?) → Q a { s' with gens := G })
      (fun e s' => ∀ G, Slps s.gens G → (∀ x ∈ G, (∃ y ∈ s'.gens, y.bare = x.bare)) → (∀ i : Nat, s.gens.size ≤ i → G[i]? = s'.gens[i]?) → E e { s' with gens := G }) { s with gens := dulls s.gens }) :
    wpAny M A t Q E s := fun Γ p hΓ => by
  have q := wp_und M Γ s.gens t _ _ p { s with gens := dulls s.gens } (dulls_dl _) (h Γ p hΓ)
  have e : und' s.gens { s with gens := dulls s.gens } = s := by
    show ({ s with gens := und s.gens (dulls s.gens) } : Shared) = s
    rw [und_dulls]
  rw [e] at q
  have br : ∀ s1 : Shared, Dl s.gens s1.gens → ∀ x ∈ und s.gens s1.gens, ∃ y ∈ s1.gens, y.bare = x.bare := fun s1 d x hx => by
    obtain ⟨i, hi, rfl⟩ := Array.mem_iff_getElem.mp hx
    have hi' : i < s1.gens.size := by rw [und_size] at hi; exact hi
    refine ⟨s1.gens[i], Array.getElem_mem hi', ?_⟩
    have h2 := und_get s.gens s1.gens i
    rw [Array.getElem?_eq_getElem hi, Array.getElem?_eq_getElem hi'] at h2
    injection h2 with h2
    rw [h2]
    unfold pick
    cases e : s.gens[i]? with
    | none => rfl
    | some y =>
      show _ = (if slp y = true then y else _).bare
      by_cases z : slp y = true
      · rw [if_pos z]
        have := d.at' i y e z
        rw [Array.getElem?_eq_getElem hi'] at this
        injection this with this
        rw [this, dull_bare]
      · rw [if_neg z]
  have nw : ∀ s1 : Shared, ∀ i : Nat, s.gens.size ≤ i → (und s.gens s1.gens)[i]? = s1.gens[i]? := fun s1 i hi => by
    rw [und_get]
    cases s1.gens[i]? with
    | none => rfl
    | some x => exact congrArg some (pick_not fun y hy => absurd (Array.getElem?_eq_some_iff.mp hy).1 (Nat.not_lt.mpr hi))
  exact Sem.wp_mono M Γ t (fun a p' s' ⟨s1, e1, d, hq⟩ => by rw [e1]; exact hq _ (slps_und d) (br s1 d) (nw s1)) (fun a p' s' ⟨s1, e1, d, hq⟩ => by rw [e1]; exact hq _ (slps_und d) (br s1 d) (nw s1)) p s q
/-! ### where some may be woken -/
/-- no generator's mark in its frames -/
def nog : GenState → Bool
  | .suspended _ _ _ _ fs _ => (splitAtGen fs).isNone
  | _ => true
def msk (B : List Nat) (T : Array GenState) : Array GenState := Array.ofFn (n := T.size) fun i => if i.1 ∈ B then .finished else T[i.1]
def dullB (B : List Nat) (T : Array GenState) : Array GenState := Array.ofFn (n := T.size) fun i => if i.1 ∈ B then T[i.1] else dull T[i.1]
theorem msk_get (B : List Nat) (T : Array GenState) (i : Nat) : (msk B T)[i]? = if i ∈ B then (T[i]?).map (fun _ => .finished) else T[i]? := by
  by_cases h : i < T.size
  · have h2 : i < (msk B T).size := by simp [msk, h]
    rw [Array.getElem?_eq_getElem h, Array.getElem?_eq_getElem h2]
    by_cases z : i ∈ B <;> simp [msk, z]
  · rw [Array.getElem?_eq_none (Nat.le_of_not_lt h), Array.getElem?_eq_none (by simp [msk]; exact Nat.le_of_not_lt h)]
    by_cases z : i ∈ B <;> simp [z]
theorem dullB_size (B : List Nat) (T : Array GenState) : (dullB B T).size = T.size := by simp [dullB]
theorem dullB_get (B : List Nat) (T : Array GenState) (i : Nat) : (dullB B T)[i]? = if i ∈ B then T[i]? else (T[i]?).map dull := by
  by_cases h : i < T.size
  · have h2 : i < (dullB B T).size := by simp [dullB, h]
    rw [Array.getElem?_eq_getElem h, Array.getElem?_eq_getElem h2]
    by_cases z : i ∈ B <;> simp [dullB, z]
  · rw [Array.getElem?_eq_none (Nat.le_of_not_lt h), Array.getElem?_eq_none (by simp [dullB]; exact Nat.le_of_not_lt h)]
    by_cases z : i ∈ B <;> simp [z]
theorem dullB_dl {B : List Nat} {T : Array GenState} (hB : ∀ i ∈ B, ∀ y, T[i]? = some y → nog y = true) : Dl (msk B T) (dullB B T) := ⟨fun i y h hy => by
  rw [msk_get] at h
  rw [dullB_get]
  by_cases z : i ∈ B
  · rw [if_pos z] at h
    cases e : T[i]? with
    | none => rw [e] at h; cases h
    | some x => rw [e] at h; cases h; cases hy
  · rw [if_neg z] at h
    rw [if_neg z, h]; rfl, fun i k l c p fs cl h => by
  rw [dullB_get] at h
  by_cases z : i ∈ B
  · rw [if_pos z] at h
    have q := hB i z _ h
    exact .inl (Option.isNone_iff_eq_none.mp q)
  · rw [if_neg z] at h
    cases e : T[i]? with
    | none => rw [e] at h; cases h
    | some y =>
      rw [e] at h
      refine .inr ⟨y, by rw [msk_get, if_neg z, e], ?_⟩
      cases y <;> first | rfl | (cases h; done)⟩
theorem und_dullB (B : List Nat) (T : Array GenState) : und (msk B T) (dullB B T) = T := by
  refine Array.ext_getElem? fun i => ?_
  rw [und_get, dullB_get]
  by_cases z : i ∈ B
  · rw [if_pos z]
    cases e : T[i]? with
    | none => rfl
    | some y =>
      refine congrArg some (pick_not fun y' h => ?_)
      rw [msk_get, if_pos z, e] at h
      cases h; rfl
  · rw [if_neg z]
    cases e : T[i]? with
    | none => rfl
    | some y =>
      have m : (msk B T)[i]? = some y := by rw [msk_get, if_neg z, e]
      show some (pick _ i (dull y)) = some y
      cases zz : slp y with
      | true => rw [pick_slp m zz]
      | false =>
        rw [pick_not fun y' h => by rw [m] at h; cases h; exact zz]
        cases y <;> first | rfl | (cases zz; done)
/-- THE LAW, where those at B may be woken -/
theorem wpAny_slpsB {α : Type} {M : Model} {A : Around} {s : Shared} {t : Sem α} {Q : α → Shared → Prop} {E : Value → Shared → Prop} {B : List Nat} (hB : ∀ i ∈ B, ∀ y, s.gens[i]? = some y → nog y = true)
    (h : wpAny M A t (fun a s' => ∀ G, (∀ i y, i ∉ B → s.gens[i]? = some y → slp y = true → G[i]? = some y) → (∀ x ∈ G, (∃ y ∈ s'.gens, y.bare = x.bare)) → (∀ i : Nat, (i ∈ B ∨ s.gens.size ≤ i) → G[i]? = s'.gens[i]?) → Q a { s' with gens := G })
      (fun e s' => ∀ G, (∀ i y, i ∉ B → s.gens[i]? = some y → slp y = true → G[i]? = some y) → (∀ x ∈ G, (∃ y ∈ s'.gens, y.bare = x.bare)) → (∀ i : Nat, (i ∈ B ∨ s.gens.size ≤ i) → G[i]? = s'.gens[i]?) → E e { s' with gens := G }) { s with gens := dullB B s.gens }) :
    wpAny M A t Q E s := fun Γ p hΓ => by
  have q := wp_und M Γ (msk B s.gens) t _ _ p { s with gens := dullB B s.gens } (dullB_dl hB) (h Γ p hΓ)
  have e : und' (msk B s.gens) { s with gens := dullB B s.gens } = s := by
    show ({ s with gens := und (msk B s.gens) (dullB B s.gens) } : Shared) = s
    rw [und_dullB]
  rw [e] at q
  have br : ∀ s1 : Shared, Dl (msk B s.gens) s1.gens → ∀ x ∈ und (msk B s.gens) s1.gens, ∃ y ∈ s1.gens, y.bare = x.bare := fun s1 d x hx => by
    obtain ⟨i, hi, rfl⟩ := Array.mem_iff_getElem.mp hx
    have hi' : i < s1.gens.size := by rw [und_size] at hi; exact hi
    refine ⟨s1.gens[i], Array.getElem_mem hi', ?_⟩
    have h2 := und_get (msk B s.gens) s1.gens i
    rw [Array.getElem?_eq_getElem hi, Array.getElem?_eq_getElem hi'] at h2
    injection h2 with h2
    rw [h2]
    unfold pick
    cases e : (msk B s.gens)[i]? with
    | none => rfl
    | some y =>
      show _ = (if slp y = true then y else _).bare
      by_cases z : slp y = true
      · rw [if_pos z]
        have := d.at' i y e z
        rw [Array.getElem?_eq_getElem hi'] at this
        injection this with this
        rw [this, dull_bare]
      · rw [if_neg z]
  have nw : ∀ s1 : Shared, ∀ i : Nat, (i ∈ B ∨ s.gens.size ≤ i) → (und (msk B s.gens) s1.gens)[i]? = s1.gens[i]? := fun s1 i hi => by
    rw [und_get]
    cases s1.gens[i]? with
    | none => rfl
    | some x =>
      refine congrArg some (pick_not fun y hy => ?_)
      rw [msk_get] at hy
      rcases hi with hi | hi
      · rw [if_pos hi] at hy
        cases e : s.gens[i]? with
        | none => rw [e] at hy; cases hy
        | some z => rw [e] at hy; cases hy; rfl
      · have e : s.gens[i]? = none := Array.getElem?_eq_none hi
        rw [e] at hy
        split at hy <;> cases hy
  have kp : ∀ s1 : Shared, Dl (msk B s.gens) s1.gens → ∀ i y, i ∉ B → s.gens[i]? = some y → slp y = true → (und (msk B s.gens) s1.gens)[i]? = some y := fun s1 d i y hi hy hz => slps_und d i y (by rw [msk_get, if_neg hi, hy]) hz
  exact Sem.wp_mono M Γ t (fun a p' s' ⟨s1, e1, d, hq⟩ => by rw [e1]; exact hq _ (kp s1 d) (br s1 d) (nw s1)) (fun a p' s' ⟨s1, e1, d, hq⟩ => by rw [e1]; exact hq _ (kp s1 d) (br s1 d) (nw s1)) p s q
end TwZ
/-! one stretch of a generator's run, from a waking to the next yield or to the end -/
namespace TwZ
open PySem PySem.Spec PyProof.Rows GenW
open Sem (wp)

/-- the stretch from t ends so that Φ -/
def Sg (M : Model) (A : Around) (Φ : End → Shared → Prop) (c : Code) (t : Sem PySem.Fin) (fs : List Frame) (s : Shared) : Prop :=
  ∀ (Γ : PySem.Ctx) (p : Pos), Γ.code = c → Γ.Woken A → ∃ (e : End) (s2 : Shared), Runs M Γ p t fs s e s2 ∧ e.quiet = true ∧ Φ e s2
section
variable {M : Model} {A : Around} {Φ : End → Shared → Prop} {c : Code} {fs : List Frame} {s : Shared}
theorem sg_imp {Ψ : End → Shared → Prop} {t : Sem PySem.Fin} (h : Sg M A Φ c t fs s) (hi : ∀ e s2, Φ e s2 → Ψ e s2) : Sg M A Ψ c t fs s := fun Γ p a b =>
  let ⟨e, s2, r, q, z⟩ := h Γ p a b
  ⟨e, s2, r, q, hi e s2 z⟩
theorem sg_wrap {α : Type} {m : Sem α} {K : α → Sem PySem.Fin} {J : Value → Sem PySem.Fin} {gd : Bool → Bool} {lv : List Value → List Value}
    (h : wpAny M (A.over c fs) m (fun a s2 => Sg M A Φ c (K a) fs s2) (fun x s2 => Sg M A Φ c (J x) fs s2) s) : Sg M A Φ c (m.wrap K J gd lv) fs s := by
  intro Γ p e hw
  subst e
  obtain ⟨e, s2, r, q⟩ := runs_wrap_of_wp (Φ := fun e s2 => e.quiet = true ∧ Φ e s2) K J gd lv m (h (Γ.over fs) p (hw.over fs))
    (fun a p2 s2 z => let ⟨e, s3, r, q⟩ := z Γ p2 rfl hw; ⟨e, s3, r, q⟩) fun a p2 s2 z => let ⟨e, s3, r, q⟩ := z Γ p2 rfl hw; ⟨e, s3, r, q⟩
  exact ⟨e, s2, r, q⟩
theorem sg_bind {α : Type} {m : Sem α} {K : α → Sem PySem.Fin} (h : wpAny M (A.over c fs) m (fun a s2 => Sg M A Φ c (K a) fs s2) (fun x s2 => Sg M A Φ c (.raise x) fs s2) s) : Sg M A Φ c (m >>= K) fs s := by
  rw [Sem.bind_eq_wrap']
  exact sg_wrap h
theorem sg_bindw {α β : Type} {m : Sem α} {f : α → Sem β} {K : β → Sem PySem.Fin} {J : Value → Sem PySem.Fin} {gd : Bool → Bool} {lv : List Value → List Value}
    (h : wpAny M (A.over c fs) m (fun a s2 => Sg M A Φ c ((f a).wrap K J gd lv) fs s2) (fun x s2 => Sg M A Φ c (J x) fs s2) s) : Sg M A Φ c ((m >>= f).wrap K J gd lv) fs s := by
  rw [Sem.bind_eq_wrap', Sem.wrap_wrap]
  exact sg_wrap h
theorem sg_of {t t2 : Sem PySem.Fin} (h : Sg M A Φ c t2 fs s) (e : t = t2) : Sg M A Φ c t fs s := e ▸ h
theorem sg_at {p2 : Pos} {k : Unit → Sem PySem.Fin} (h : Sg M A Φ c (k ()) fs s) : Sg M A Φ c (.at p2 k) fs s :=
  sg_wrap (m := standAt p2) (K := k) (J := .raise) (gd := id) (lv := id) (wpAny_standAt h)
theorem sg_point {l : List Value} {k : Unit → Sem PySem.Fin} (h : Sg M A Φ c (k ()) fs s) : Sg M A Φ c (.point l k) fs s :=
  sg_wrap (m := point) (K := k) (J := .raise) (gd := id) (lv := fun _ => l) (wpAny_point h)
theorem sg_call {c2 : Code} {hd : Option Value} {g : Bool} {l : List Value} {k : Result → Sem PySem.Fin} (h : ∀ p, Sg M A Φ c2 (M.den c2) (.ret k hd g l c p [] :: fs) s) : Sg M A Φ c (.call c2 hd g l k) fs s := by
  intro Γ p e hw
  subst e
  obtain ⟨e, s2, r, q⟩ := h p (Γ.goto c2) p rfl (hw.goto c2)
  exact ⟨e, s2, runs_call_seg r, q⟩
theorem sg_leaf {k : Result → Sem PySem.Fin} {hd : Option Value} {g : Bool} {l kp : List Value} {c1 : Code} {p1 : Pos} (r : Result) (h : Sg M A Φ c1 (k r) fs s) : Sg M A Φ c (leafOf r) (.ret k hd g l c1 p1 kp :: fs) s := by
  intro Γ p e hw
  subst e
  obtain ⟨e, s2, z, q⟩ := h (Γ.goto c1) p1 rfl (hw.goto c1)
  exact ⟨e, s2, Runs.pop r z, q⟩
theorem sg_again {c2 : Code} (hq : c2.quiet = true) (h : Sg M A Φ c2 (M.den c2) fs s) : Sg M A Φ c (.pure (.again c2)) fs s := by
  intro Γ p e hw
  subst e
  obtain ⟨e, s2, z, q⟩ := h (Γ.goto c2) p rfl (hw.goto c2)
  exact ⟨e, s2, Runs.head (c₁ := c2) (fun _ _ y => .again hq y) z, q⟩
theorem sg_end (r : Result) (h : Φ (.ret r) s) : Sg M A Φ c (leafOf r) [] s := fun Γ p e _ => ⟨.ret r, s, Runs.leaf r, rfl, h⟩
theorem sg_yield {v : Value} {g : Bool} {l : List Value} {k : Resume → Sem PySem.Fin} (hs : splitAtGen fs = none) (hg : g = false) (hf : fs.any Frame.guarded = false)
    (h : ∀ p, Φ (.susp v g l k c p fs) s) : Sg M A Φ c (.yield v g l k) fs s := fun Γ p e _ => by
  subst e
  exact ⟨_, s, Runs.yield' fs hs, by simp [End.quiet, hg, hf], h p⟩
end

/-- what a sleeping or a fresh generator does when it is woken by None -/
def Goes (M : Model) (A : Around) (Φ : End → Shared → Prop) (gs : GenState) (s : Shared) : Prop :=
  match gs with
  | .fresh c => Sg M A Φ c (M.den c) [] s
  | .suspended k _ c _ fs _ => Sg M A Φ c (k (.send .none)) fs s
  | _ => False
theorem quiet_bare {e : End} (h : e.quiet = true) : e.genState.bare = true := End.bare_of_quiet h
/-- THE WAKING -/
theorem wake {M : Model} {A : Around} {Φ : End → Shared → Prop} {E : Value → Shared → Prop} {s : Shared} {g : Nat} {gs : GenState} {l : List Value} {α : Type} {k : GenResult → Sem α} {Q : α → Shared → Prop} (hg : s.gens[g]? = some gs)
    (hgo : Goes M A Φ gs (s.setGen g .running)) (h : ∀ e s1, e.quiet = true → Φ e s1 → wpAny M A (k e.result) Q E (s1.setGen g e.genState)) : wpAny M A (.resume g (.send .none) l k) Q E s := by
  intro Γ p hΓ
  rw [Sem.wp_resume]
  have hB : ∀ c, (Γ.wake c p).Woken A := fun c => hΓ.wake c p
  cases gs with
  | fresh c =>
    obtain ⟨e, s1, r, q, z⟩ := hgo (Γ.wake c p) p rfl (hB c)
    exact ⟨_, _, by unfold Wakes; rw [hg]; exact ⟨e, s1, r, q, rfl, rfl⟩, h e s1 q z Γ p hΓ⟩
  | suspended k2 l2 c p2 fs cl =>
    obtain ⟨e, s1, r, q, z⟩ := hgo (Γ.wake c p) p2 rfl (hB c)
    exact ⟨_, _, by unfold Wakes; rw [hg]; exact ⟨e, s1, r, q, rfl, rfl⟩, h e s1 q z Γ p hΓ⟩
  | running => exact hgo.elim
  | finished => exact hgo.elim

section
variable {P : Program} {w : World} {A : Around} {E : Value → Shared → Prop} {s : Shared}
/-- next(g): v is handed out, or it has come to its end -/
theorem next_g {a : Addr} {g : Nat} {gs : GenState} {Φ : End → Shared → Prop} {Q : Option Value → Shared → Prop} (hh : A.handled = none) (hl : s.heap.NoLimit) (hroom : A.depth < recursionLimit) (hg : s.heap.IsGen a g) (hgs : s.gens[g]? = some gs)
    (hgo : Goes (model P w) A.in1 Φ gs (s.setGen g .running))
    (hY : ∀ v gd l k c p fs s1, Φ (.susp v gd l k c p fs) s1 → (End.susp v gd l k c p fs).genState.bare = true → Q (some v) (s1.setGen g (End.susp v gd l k c p fs).genState))
    (hR : ∀ r s1, Φ (.ret r) s1 → (r = .ok (.ret .none) ∨ r = .ok .next) ∧ ∀ h', (∀ b o, s1.heap.get? b = some o → h'.get? b = some o) → Q none { s1.setGen g .finished with heap := h' }) :
    wpAny (model P w) A (pyNext (.ref a)) Q E s := by
  unfold pyNext
  refine wpAny_bind (wpAny_attempt (wpAny_callSpecial?_slot (name := Str.ofString "__next__") hg.typeIs slot_gen_next (wpAny_call_entry slot_gen_next hg.typeIs entry_gen_next ?_ (args_gen_next _))))
  show wpAny _ A.in1 (Builtin.Generator.genWake (.ref a) (.send .none)) _ _ s
  unfold Builtin.Generator.genWake
  refine wpAny_bind (wpAny_holding (wpAny_genNumber hg (wpAny_bind (wpAny_genState hgs ?_))))
  cases gs with
  | running => exact hgo.elim
  | finished => exact hgo.elim
  | _ =>
    refine wpAny_bind (wpAny_roomToWake hl hroom ?_)
    show wpAny _ A.in1 (.resume g (.send .none) [] _) _ _ s
    refine wake hgs hgo fun e s1 hq hz => ?_
    cases e with
    | susp v gd l k c p fs => exact wpAny_pure ⟨v, rfl, wpAny_pure (hY v gd l k c p fs s1 hz (quiet_bare hq))⟩
    | ret r =>
      obtain ⟨hr, hp⟩ := hR r s1 hz
      have hres : End.result (.ret r) = .returned .none := by
        rcases hr with hr | hr <;> rw [hr] <;> rfl
      first | rw [hres] | simp only [hres]
      show wpAny _ A.in1 (newExc (.type "StopIteration") [] >>= _) _ _ _
      refine wpAny_bind ?_
      simp only [newExc, newTuple]
      refine wpAny_bind (wpAny_newObj_type ?_ (by size_fits))
      refine wpAny_bind (m := firstArgMember _ _) (wpAny_of_eq (a := Value.none) (by first | rfl | (simp only [firstArgMember]; rfl)) ?_)
      refine wpAny_newObj_type ?_ (by size_fits)
      simp only [raiseNew]
      refine wpAny_bind (wpAny_bind (wpAny_handled ?_))
      first | rw [show A.in1.handled = none from hh] | rw [hh]
      refine wpAny_throw ?_
      refine wpAny_bind (wpAny_isInstance (T := "StopIteration") (b := true) ⟨_, Heap.get?_push_size _ rfl, rfl⟩ isSubtype_stop ?_)
      exact wpAny_pure (hp _ fun b o hb => Heap.get?_push_of_some _ (Heap.get?_push_of_some _ hb))
end

/-! ### statements in a stretch -/
section
variable {M : Model} {A : Around} {Φ : End → Shared → Prop} {c : Code} {fs : List Frame} {s : Shared} {env : Env} {K : Flow → Sem PySem.Fin} {J : Value → Sem PySem.Fin} {gd : Bool → Bool} {lv : List Value → List Value}
theorem sg_nil (h : Sg M A Φ c (K .next) fs s) : Sg M A Φ c ((execs [] env).wrap K J gd lv) fs s := h
theorem sg_cons {st : Stmt} {rest : List Stmt} (h : Sg M A Φ c ((exec st env).wrap (fun f => match f with | .next => (execs rest env).wrap K J gd lv | f => K f) J gd lv) fs s) :
    Sg M A Φ c ((execs (st :: rest) env).wrap K J gd lv) fs s := by
  rw [execs_cons_wrap]
  exact h
theorem sg_yieldE {e : Expr} {yp pos : Pos} (hs : splitAtGen fs = none) (hgd : gd false = false) (hf : fs.any Frame.guarded = false)
    (h : wpAny M (A.over c fs) (eval e env) (fun v s2 => ∀ (g : Bool) (l : List Value) (k : Resume → Sem PySem.Fin) (p : Pos), (∀ s3, Sg M A (fun _ _ => True) c (k (.send .none)) fs s3 → True) →
        (∀ (Ψ : End → Shared → Prop) (s3 : Shared), Sg M A Ψ c (K .next) fs s3 → Sg M A Ψ c (k (.send .none)) fs s3) → Φ (.susp v g l k c p fs) s2)
      (fun x s2 => Sg M A Φ c (J x) fs s2) s) (hco : env.scope.isCoroutine = false := by rfl) (hi : interactive env = false := by rfl) :
    Sg M A Φ c ((exec (.Expr (.Yield (some e) yp) pos) env).wrap K J gd lv) fs s := by
  rw [exec_Expr env _ pos hi rfl]
  show Sg M A Φ c (.at pos fun _ => ((eval e env >>= fun v => (standAt yp >>= fun _ => yieldOut env v)) >>= fun x => dropValue (.Yield (some e) yp) pos x).wrap K J gd lv) fs s
  have hy : ∀ v, yieldOut env v = yieldValue v := fun v => by simp only [yieldOut, hco, Bool.false_eq_true, if_false]
  simp only [hy]
  refine sg_at ?_
  rw [Sem.bind_eq_wrap', Sem.bind_eq_wrap', Sem.wrap_wrap, Sem.wrap_wrap]
  refine sg_wrap (wpAny_mono h (fun v s2 h2 => ?_) fun _ _ x => x)
  refine sg_at (sg_yield hs hgd hf fun p => h2 _ _ _ p (fun _ _ => trivial) fun Ψ s3 q => ?_)
  exact q
theorem sg_While {test : Expr} {body orelse : List Stmt} {pos : Pos}
    (h : ∀ p, Sg M A Φ (.whileLoop test body orelse env) (M.den (.whileLoop test body orelse env))
      (.ret (fun r => ((match r with | .ok f => (.pure f : Sem Flow) | .error e => .raise e).onRaise (L2.cameBack env)).wrap K J gd lv) none (gd false) (lv []) c p [] :: fs) s) :
    Sg M A Φ c ((exec (.While test body orelse pos) env).wrap K J gd lv) fs s := sg_at (sg_call h)
end
section
variable {P : Program} {w : World} {A : Around} {Φ : End → Shared → Prop} {c : Code} {fs : List Frame} {s : Shared} {env : Env} {K : Flow → Sem PySem.Fin} {J : Value → Sem PySem.Fin} {gd : Bool → Bool} {lv : List Value → List Value}
/-- what a loop's turn owes for the exception that leaves it -/
abbrev lft (env : Env) (x : Value) : Sem PySem.Fin := (do noteFrame x env; theTreesLotGoes x : Sem Unit).wrap (fun _ => .raise x) .raise id id
/-- how a loop's turn goes on -/
abbrev trn (c : Code) (f : Flow) : Sem PySem.Fin := match f with
  | .next | .cont => .pure (.again c)
  | .brk => .pure (.done .next)
  | .ret v => .pure (.done (.ret v))
theorem sg_while {test : Expr} {body : List Stmt}
    (h : wpAny (model P w) (A.over (.whileLoop test body [] env) fs) (isTrue test env (eval test env)) (fun b s2 =>
        if b = true then Sg (model P w) A Φ (.whileLoop test body [] env) ((execs body env).wrap (trn (.whileLoop test body [] env)) (lft env) id id) fs s2
        else Sg (model P w) A Φ (.whileLoop test body [] env) (.pure (.done .next)) fs s2)
      (fun x s2 => Sg (model P w) A Φ (.whileLoop test body [] env) (lft env x) fs s2) s) :
    Sg (model P w) A Φ (.whileLoop test body [] env) ((model P w).den (.whileLoop test body [] env)) fs s := by
  show Sg _ A Φ _ ((whileTurn test body [] env).onRaise (fun x => do noteFrame x env; theTreesLotGoes x)) fs s
  unfold whileTurn
  rw [Sem.onRaise_eq_wrap, Sem.bind_eq_wrap', Sem.wrap_wrap]
  refine sg_wrap (wpAny_mono h (fun b s2 hb => ?_) fun x s2 hx => ?_)
  · cases b with
    | true =>
      rw [if_pos rfl] at hb
      show Sg _ A Φ _ (Sem.wrap _ _ _ _ (if true = true then _ else _)) fs s2
      rw [if_pos rfl, Sem.bind_eq_wrap', Sem.wrap_wrap]
      exact sg_of hb (Sem.wrap_congr (execs body env) _ _ (fun f => by cases f <;> rfl) (fun x => Sem.bind_eq_wrap _ _))
    | false =>
      rw [if_neg Bool.false_ne_true] at hb
      show Sg _ A Φ _ (Sem.wrap _ _ _ _ (if false = true then _ else _)) fs s2
      rw [if_neg Bool.false_ne_true]
      exact hb
  · exact sg_of hx (Sem.bind_eq_wrap _ _)
/-- a loop's iterator; a turn's head -/
def itOf (iter : Expr) (env : Env) : Sem Value := eval iter env >>= fun v => standAt iter.pos >>= fun _ => holding [v] (pyIter v)
def headOf (target : Expr) (it : Value) (env : Env) : Sem Bool := (pyNext it).onRaise (fun _ => standAt { target.pos with line := 0 }) >>= fun r => match r with
  | none => pure false
  | some v => letOwnedTupleGo target it v >>= fun _ => assign target env v >>= fun _ => pure true
theorem sg_For {target iter : Expr} {body : List Stmt} {pos : Pos}
    (h : wpAny (model P w) (A.over c fs) (itOf iter env) (fun it s2 => ∀ p, Sg (model P w) A Φ (.forLoop target it body [] env) ((model P w).den (.forLoop target it body [] env))
        (.ret (fun r => ((match r with | .ok f => (.pure f : Sem Flow) | .error e => .raise e).onRaise (L2.cameBack env)).wrap K J gd lv) none (gd false) (lv []) c p [] :: fs) s2)
      (fun x s2 => Sg (model P w) A Φ c (J x) fs s2) s) (hs : ∀ x, foldedSetIterable iter env x = pure x := by intro _; rfl) :
    Sg (model P w) A Φ c ((exec (.For target iter body [] pos) env).wrap K J gd lv) fs s := by
  have e : exec (.For target iter body [] pos) env = (standAt pos >>= fun _ => itOf iter env >>= fun it => runOwn (.forLoop target it body [] env) env) := by
    rw [exec_For]
    simp only [itOf, hs, pure_bind, bind_assoc]
  rw [e]
  refine sg_bindw (wpAny_standAt (sg_bindw (wpAny_mono h (fun it s2 h2 => ?_) fun _ _ x => x)))
  exact sg_call h2
theorem forTurn_eq {target : Expr} {it : Value} {body : List Stmt} : forTurn target it body [] env = (standAt target.pos >>= fun _ => headOf target it env >>= fun b => if b = true then execs body env >>= fun f => trn (.forLoop target it body [] env) f else again (.block [] env)) := by
  unfold forTurn headOf
  simp only [bind_assoc]
  refine congrArg _ (funext fun _ => congrArg _ (funext fun r => ?_))
  cases r with
  | none => rfl
  | some v =>
    dsimp only
    simp only [bind_assoc, pure_bind]
    refine congrArg _ (funext fun _ => congrArg _ (funext fun _ => ?_))
    rw [if_pos trivial]
    refine congrArg _ (funext fun f => ?_)
    cases f <;> rfl
theorem sg_for {target : Expr} {it : Value} {body : List Stmt}
    (h : wpAny (model P w) (A.over (.forLoop target it body [] env) fs) (headOf target it env) (fun b s1 =>
        if b = true then Sg (model P w) A Φ (.forLoop target it body [] env) ((execs body env).wrap (trn (.forLoop target it body [] env)) (lft env) id id) fs s1
        else Sg (model P w) A Φ (.forLoop target it body [] env) (.pure (.again (.block [] env))) fs s1)
      (fun x s2 => Sg (model P w) A Φ (.forLoop target it body [] env) (lft env x) fs s2) s) :
    Sg (model P w) A Φ (.forLoop target it body [] env) ((model P w).den (.forLoop target it body [] env)) fs s := by
  show Sg _ A Φ _ ((forTurn target it body [] env).onRaise (fun x => do noteFrame x env; theTreesLotGoes x)) fs s
  rw [forTurn_eq, Sem.onRaise_eq_wrap]
  refine sg_bindw (wpAny_standAt ?_)
  refine sg_bindw (wpAny_mono h (fun b s1 h1 => ?_) fun x s1 h1 => sg_of h1 (Sem.bind_eq_wrap _ _))
  cases b with
  | true =>
    rw [if_pos rfl] at h1
    show Sg _ A Φ _ (Sem.wrap _ _ _ _ (if true = true then _ else _)) fs s1
    rw [if_pos rfl, Sem.bind_eq_wrap', Sem.wrap_wrap]
    exact sg_of h1 (Sem.wrap_congr (execs body env) _ _ (fun f => by cases f <;> rfl) (fun x => Sem.bind_eq_wrap _ _))
  | false =>
    rw [if_neg Bool.false_ne_true] at h1
    show Sg _ A Φ _ (Sem.wrap _ _ _ _ (if false = true then _ else _)) fs s1
    rw [if_neg Bool.false_ne_true]
    exact h1
/-- the loop is through -/
theorem sg_through {l kp : List Value} {g : Bool} {c1 : Code} {p1 : Pos} {k : Result → Sem PySem.Fin} (h : Sg (model P w) A Φ c1 (k (.ok .next)) fs s) :
    Sg (model P w) A Φ c (.pure (.again (.block [] env))) (.ret k none g l c1 p1 kp :: fs) s := by
  refine sg_again rfl ?_
  show Sg _ A Φ _ (Sem.bind _ _) _ s
  exact sg_leaf (.ok .next) h
theorem sg_func {body : List Stmt} (h : Sg (model P w) A Φ (.func body env) ((execs body env).wrap (fun f => .pure (.done (.ret (match f with | .ret v => v | _ => .none)))) (fun e => (leaving env e).wrap (fun _ => .raise e) .raise id id) id id) fs s) :
    Sg (model P w) A Φ (.func body env) ((model P w).den (.func body env)) fs s := by
  show Sg _ A Φ _ (.point [] fun _ => ((execs body env).onRaise (leaving env)) >>= _) fs s
  refine sg_point ?_
  rw [Sem.onRaise_eq_wrap, Sem.bind_eq_wrap', Sem.wrap_wrap]
  exact sg_of h (Sem.wrap_congr (execs body env) _ _ (fun f => by cases f <;> rfl) (fun e => by rw [Sem.bind_eq_wrap, Sem.wrap_wrap]; rfl))
theorem sg_If {test : Expr} {a b : List Stmt} {pos : Pos} (h : wpAny (model P w) (A.over c fs) (isTrue test env (eval test env)) (fun t s2 => Sg (model P w) A Φ c ((execs (if t = true then a else b) env).wrap K J gd lv) fs s2) (fun x s2 => Sg (model P w) A Φ c (J x) fs s2) s) :
    Sg (model P w) A Φ c ((exec (.If test a b pos) env).wrap K J gd lv) fs s := by
  show Sg _ A Φ c (.at pos fun _ => (isTrue test env (eval test env) >>= fun t => if t = true then execs a env else execs b env).wrap K J gd lv) fs s
  refine sg_at (sg_bindw (wpAny_mono h (fun t s2 h2 => ?_) fun _ _ x => x))
  cases t with
  | true => exact h2
  | false => exact h2
end
end TwZ
/-! what a sleeping generator promises; who wakes it -/
namespace TwZ
open PySem L2 PySem.Spec PyProof.Rows GenW

/-- what a generator tells, turn by turn: when it may be woken (the heap when it fell asleep, the heap now), what it hands out, how it ends -/
structure Gt where
  pre : Nat → Hp → Hp → Prop
  yld : Nat → Hp → V → Hp → Prop
  fin : Nat → Hp → Hp → Prop
/-- Un, as far as lo -/
structure UnB (lo : Addr) (fs : List Addr) (H H' : Hp) (h h' : Heap) : Prop where
  keep : ∀ b o, b < lo → h.get? b = some o → H b = none → b ∉ fs → h'.get? b = some o
  slot : ∀ b o, b < lo → h.get? b = some o → H b = none → ∃ sl, h'.get? b = some { o with slots := sl }
  free : ∀ b o, b < lo → h.get? b = some o → H b = none → H' b = none
  there : ∀ b o, b < lo → h.get? b = some o → ∃ o', h'.get? b = some o'
  tups : ∀ b xs, H b = some (.tup xs) → H' b = some (.tup xs)
  frzs : ∀ b o u, H b = some (.frz o u) → H' b = some (.frz o u)
  tbls : ∀ b ps, H b = some (.tbl ps) → ∃ more, H' b = some (.tbl (ps ++ more))
/-- what a stretch leaves -/
structure Kpt (P : Program) (w : World) (lo : Addr) (fs : List Addr) (pn : List (Addr × Obj)) (H H' : Hp) (s s1 : Shared) : Prop where
  os : s1.os = s.os
  bare : AllBare s1.gens
  un : UnB lo fs H H' s.heap s1.heap
  hok : HOk P w H' s1.heap
  pins : ∀ p ∈ pn, s1.heap.get? p.1 = some p.2 ∧ H' p.1 = none
  gsz : s.gens.size ≤ s1.gens.size
/-- who wakes it owes -/
structure Wkd (P : Program) (w : World) (base : Heap) (outer : List Env) (g : Nat) (ob : List (Addr × Obj)) (og : List (Nat × GenState)) (pn : List (Addr × Obj)) (H : Hp) (s : Shared) : Prop where
  hok : HOk P w H s.heap
  bare : AllBare s.gens
  bs : ∀ b o, base.get? b = some o → s.heap.get? b = some o ∧ H b = none
  funs : s.heap.FunFrames base outer
  frf : ∀ b ∈ frs outer, H b = none
  obs : ∀ p ∈ ob, s.heap.get? p.1 = some p.2 ∧ H p.1 = none
  ogs : ∀ q ∈ og, s.gens[q.1]? = some q.2
  pin : ∀ p ∈ pn, s.heap.get? p.1 = some p.2 ∧ H p.1 = none ∧ p.1 ∉ frs outer ∧ (∀ v, p.2.data ≠ .cell v) ∧ ∀ q ∈ ob, p.1 ≠ q.1
  gsz : g < s.gens.size
/-- its own objects and generators, at rest -/
structure Own (lo : Addr) (a : Addr) (g : Nat) (H : Hp) (s : Shared) (ob : List (Addr × Obj)) (og : List (Nat × GenState)) : Prop where
  isgen : ∃ o nm qn, (a, o) ∈ ob ∧ o.cls = .type "generator" ∧ o.data = .fields #[.int g 0, nm, qn] ∧ o.slots = #[]
  obs : ∀ p ∈ ob, s.heap.get? p.1 = some p.2 ∧ H p.1 = none ∧ lo ≤ p.1 ∧ ∀ v, p.2.data ≠ .cell v
  ogs : ∀ q ∈ og, s.gens[q.1]? = some q.2 ∧ slp q.2 = true ∧ g < q.1 ∧ nog q.2 = true
/-- the fixed things of a generator's life -/
structure Gp where
  P : Program
  w : World
  base : Heap
  A : Around
  outer : List Env
  lo : Addr
  a : Addr
  g : Nat
  J : Gt
/-- a waking: the abstract heap, the state, who is to be left alone -/
structure Wk where
  H : Hp
  s : Shared
  pn : List (Addr × Obj)
  og : List Nat
/-- the promise of its sleep: it may be woken n times -/
def Asl (G : Gp) : Nat → Nat → Hp → List (Addr × Obj) → List (Nat × GenState) → GenState → Prop
  | 0 => fun _ _ _ _ _ => True
  | n + 1 => fun i Hs ob og gs => ∀ (H : Hp) (pn : List (Addr × Obj)) (s : Shared), Wkd G.P G.w G.base G.outer G.g ob og pn H s → G.J.pre i Hs H →
      Goes (model G.P G.w) G.A (fun e s1 => match e with
        | .ret r => (r = .ok (.ret .none) ∨ r = .ok .next) ∧ ∃ H', G.J.fin i H H' ∧ Kpt G.P G.w G.lo (frs G.outer) pn H H' s s1
        | .susp v gd l k c p fs => ∃ x H' ob' og', G.J.yld i H x H' ∧ RelV x v ∧ Kpt G.P G.w G.lo (frs G.outer) pn H H' s s1 ∧ Own G.lo G.a G.g H' s1 ob' og' ∧ (∀ p ∈ pn, ∀ q ∈ ob', p.1 ≠ q.1) ∧ (∀ q ∈ og', q.1 ∈ og.map (·.1) ∨ s.gens.size ≤ q.1) ∧ nog (End.susp v gd l k c p fs).genState = true ∧
            Asl G n (i + 1) H' ob' og' (End.susp v gd l k c p fs).genState) gs s
/-- how a stretch that began at the waking W, turn i, ends; n wakings are left -/
def Out (G : Gp) (n i : Nat) (W : Wk) (e : End) (s1 : Shared) : Prop := match e with
  | .ret r => (r = .ok (.ret .none) ∨ r = .ok .next) ∧ ∃ H', G.J.fin i W.H H' ∧ Kpt G.P G.w G.lo (frs G.outer) W.pn W.H H' W.s s1
  | .susp v gd l k c p fs => ∃ x H' ob' og', G.J.yld i W.H x H' ∧ RelV x v ∧ Kpt G.P G.w G.lo (frs G.outer) W.pn W.H H' W.s s1 ∧ Own G.lo G.a G.g H' s1 ob' og' ∧ (∀ p ∈ W.pn, ∀ q ∈ ob', p.1 ≠ q.1) ∧ (∀ q ∈ og', q.1 ∈ W.og ∨ W.s.gens.size ≤ q.1) ∧ nog (End.susp v gd l k c p fs).genState = true ∧
      Asl G n (i + 1) H' ob' og' (End.susp v gd l k c p fs).genState
theorem asl_succ {G : Gp} {n i : Nat} {Hs : Hp} {ob : List (Addr × Obj)} {og : List (Nat × GenState)} {gs : GenState} :
    Asl G (n + 1) i Hs ob og gs ↔ ∀ (H : Hp) (pn : List (Addr × Obj)) (s : Shared), Wkd G.P G.w G.base G.outer G.g ob og pn H s → G.J.pre i Hs H → Goes (model G.P G.w) G.A (Out G n i ⟨H, s, pn, og.map (·.1)⟩) gs s := Iff.rfl

/-! ### the waker's side -/
/-- what sleeps in s, seen by the code that runs in X -/
structure At (X : Cx) (pins : List (Addr × Obj)) (lo a : Addr) (g : Nat) (ob : List (Addr × Obj)) (og : List (Nat × GenState)) (gs : GenState) (H : Hp) (s : Shared) : Prop where
  own : Own lo a g H s ob og
  fp : ∀ p ∈ ob, FpOk X pins H p.1
  gen : s.gens[g]? = some gs
  nog : nog gs = true
/-- X's own things lie below lo -/
structure Low (X : Cx) (lo : Addr) : Prop where
  sz : X.s_0.heap.objs.size ≤ lo
  loc : X.env.locals < lo
  cel : ∀ x c, X.env.cells.lookup x = some c → c < lo
theorem setGen_get (s : Shared) {g i : Nat} (x : GenState) (h : i ≠ g) : (s.setGen g x).gens[i]? = s.gens[i]? := by
  show (s.gens.setIfInBounds g x)[i]? = _
  rw [Array.getElem?_setIfInBounds_ne (Ne.symm h)]
theorem gsz_of {s : Shared} {g : Nat} {gs : GenState} (h : s.gens[g]? = some gs) : g < s.gens.size := (Array.getElem?_eq_some_iff.mp h).1
section
variable {X : Cx} {pins : List (Addr × Obj)} {σ : L2.St} {H H' : Hp} {s s1 : Shared} {lo a : Addr} {g : Nat} {ob : List (Addr × Obj)} {og : List (Nat × GenState)} {gs : GenState}
/-- behind a stretch of a generator -/
theorem inv_kpt (I : Inv X pins σ H s) (L : Low X lo) (k : Kpt X.prog X.w lo (frs X.stack) (X.pn ++ pins) H H' s s1) : Inv X pins σ H' s1 := by
  obtain ⟨h', g', d', t', os'⟩ := s1
  obtain ⟨kos, kb, ku, kok, kp, _⟩ := k
  have e : os' = s.os := kos
  subst e
  have low : ∀ b o, s.heap.get? b = some o → b ∉ (List.range s.heap.objs.size).filter (fun b => decide (lo ≤ b ∧ ∀ p ∈ X.pn ++ pins, p.1 ≠ b)) → b < lo ∨ ∃ p ∈ X.pn ++ pins, p.1 = b := fun b o e n => by
    by_cases z : b < lo
    · exact .inl z
    · refine .inr (Classical.byContradiction fun q => n ?_)
      exact List.mem_filter.mpr ⟨List.mem_range.mpr (Heap.lt_size e), decide_eq_true ⟨Nat.le_of_not_lt z, fun p hp y => q ⟨p, hp, y⟩⟩⟩
  have pinned : ∀ b o, s.heap.get? b = some o → (∃ p ∈ X.pn ++ pins, p.1 = b) → h'.get? b = some o ∧ H' b = none := fun b o e ⟨p, hp, y⟩ => by
    subst y
    obtain ⟨z1, _⟩ := I.pin p hp
    rw [e] at z1; cases z1
    exact kp p hp
  obtain ⟨m, ⟨oL, esL, epL, hoL, rL⟩, _⟩ := id I.loc
  obtain ⟨sl, hL⟩ := ku.slot X.env.locals oL L.loc hoL I.free
  refine I.step (g' := g') (t' := t') (d' := d') (ch := (List.range s.heap.objs.size).filter (fun b => decide (lo ≤ b ∧ ∀ p ∈ X.pn ++ pins, p.1 ≠ b))) (fun b hb => ?_) (fun b o hl hf hc e n => ?_) (fun b o hl hf hc e n => ?_) (fun b o hc e n => ?_) (fun b o hc e => ?_) ku.tups ku.frzs ku.tbls (fun m' hm => ?_) kok kb
  · have q := of_decide_eq_true (List.mem_filter.mp hb).2
    refine ⟨.inr (Nat.le_trans L.sz q.1), ?_, fun x c e z => ?_, q.2⟩
    · exact Nat.ne_of_gt (Nat.lt_of_lt_of_le L.loc q.1)
    · exact absurd (L.cel x c e) (Nat.not_lt.mpr (by rw [z]; exact q.1))
  · rcases low b o e hc with z | z
    · exact ku.keep b o z e n fun y => (List.mem_cons.mp (I.stkSub b y)).elim hl hf
    · exact (pinned b o e z).1
  · rcases low b o e hc with z | z
    · exact ku.slot b o z e n
    · exact ⟨o.slots, (pinned b o e z).1⟩
  · rcases low b o e hc with z | z
    · exact ku.free b o z e n
    · exact (pinned b o e z).2
  · rcases low b o e hc with z | z
    · exact ku.there b o z e
    · exact ⟨o, (pinned b o e z).1⟩
  · obtain ⟨o', es', ep', ho', r'⟩ := hm
    rw [hoL] at ho'; cases ho'
    exact ⟨_, es', ep', hL, r'⟩
/-- it may be woken -/
theorem At.wkd (I : Inv X pins σ H s) (h : At X pins lo a g ob og gs H s) : Wkd X.prog X.w X.base X.stack g ob og (X.pn ++ pins) H (s.setGen g .running) where
  hok := I.hok
  bare := allBare_setGen I.bare rfl
  bs := I.bs
  funs := I.stack
  frf := I.stkFree
  obs := fun p hp => let ⟨a, b, _⟩ := h.own.obs p hp; ⟨a, b⟩
  ogs := fun q hq => by
    obtain ⟨a, _, c, _⟩ := h.own.ogs q hq
    rw [setGen_get _ _ (Nat.ne_of_gt c)]
    exact a
  pin := fun p hp => by
    obtain ⟨z1, z2, z3, z4, z5⟩ := I.pin p hp
    exact ⟨z1, z2, fun y => (List.mem_cons.mp (I.stkSub p.1 y)).elim z3 z4, z5, fun q hq => (h.fp q hq).2.2.2.2.2 p hp⟩
  gsz := by
    show g < (s.setGen g .running).gens.size
    rw [setGen_size]
    exact gsz_of h.gen
/-- NEXT: the waker's rule -/
theorem next_zA {J : Gt} {Hs : Hp} {E : Value → Shared → Prop} {n i : Nat} {A : Around} (I : Inv X pins σ H s) (hh : A.handled = none) (hd : A.depth < recursionLimit) (L : Low X lo) (h : At X pins lo a g ob og gs H s)
    (hS : Asl ⟨X.prog, X.w, X.base, A.in1, X.stack, lo, a, g, J⟩ (n + 1) i Hs ob og gs) (hgs : slp gs = true ∨ ∃ c, gs = .fresh c) (hp : J.pre i Hs H) :
    wpAny (model X.prog X.w) A (pyNext (.ref a)) (fun r s1 => (∃ u x H' ob' og' gs', r = some u ∧ RelV x u ∧ J.yld i H x H' ∧ Inv X pins σ H' s1 ∧ At X pins lo a g ob' og' gs' H' s1 ∧ slp gs' = true ∧ (∀ q ∈ og', q.1 ∈ og.map (·.1) ∨ s.gens.size ≤ q.1) ∧ Asl ⟨X.prog, X.w, X.base, A.in1, X.stack, lo, a, g, J⟩ n (i + 1) H' ob' og' gs') ∨
      (r = none ∧ ∃ H', J.fin i H H' ∧ Inv X pins σ H' s1)) E s := by
  obtain ⟨o, nm, qn, hm, oc, od, osl⟩ := h.own.isgen
  have hgen : s.heap.IsGen a g := ⟨o, nm, qn, (h.own.obs _ hm).1, oc, od, osl⟩
  refine next_g (Φ := Out ⟨X.prog, X.w, X.base, A.in1, X.stack, lo, a, g, J⟩ n i ⟨H, s.setGen g .running, X.pn ++ pins, og.map (·.1)⟩) hh I.nolimit hd hgen h.gen (asl_succ.mp hS H _ _ (h.wkd I) hp) (fun v gd l k c p fs s1 z hb => ?_) (fun r s1 z => ?_)
  · obtain ⟨x, H', ob', og', y, rv, kp, ow, nw, nq, ng, sl⟩ := z
    have kp' : Kpt X.prog X.w lo (frs X.stack) (X.pn ++ pins) H H' s (s1.setGen g (End.susp v gd l k c p fs).genState) := ⟨kp.os, allBare_setGen kp.bare hb, kp.un, kp.hok, kp.pins, by
      have q := kp.gsz
      have q' : s.gens.size ≤ s1.gens.size := by rw [show (Wk.s ⟨H, s.setGen g .running, X.pn ++ pins, og.map (·.1)⟩).gens.size = s.gens.size from setGen_size s g .running] at q; exact q
      rw [setGen_size]; exact q'⟩
    have J1 := inv_kpt I L kp'
    have gl : g < s1.gens.size := by
      have q := kp.gsz
      rw [show (Wk.s ⟨H, s.setGen g .running, X.pn ++ pins, og.map (·.1)⟩).gens.size = s.gens.size from setGen_size s g .running] at q
      exact Nat.lt_of_lt_of_le (gsz_of h.gen) q
    refine .inl ⟨v, x, H', ob', og', _, rfl, rv, y, J1, ⟨⟨ow.isgen, ow.obs, fun q hq => ?_⟩, fun p hp => ?_, setGen_at gl, ng⟩, rfl, fun q hq => ?_, sl⟩
    · obtain ⟨a1, a2, a3, a4⟩ := ow.ogs q hq
      have a3' : g < q.1 := a3
      exact ⟨by rw [setGen_get _ _ (Nat.ne_of_gt a3')]; exact a1, a2, a3, a4⟩
    · obtain ⟨b1, b2, b3, b4⟩ := ow.obs p hp
      have b3' : lo ≤ p.1 := b3
      refine ⟨b2, Nat.ne_of_gt (Nat.lt_of_lt_of_le L.loc b3'), fun z => ?_, .inr (Nat.le_trans L.sz b3'), fun y c e z => ?_, fun q hq => nw q hq p hp⟩
      · obtain ⟨_, o2, ho2, _⟩ := I.ok.funs.mem z
        exact absurd (Heap.lt_size ho2) (Nat.not_lt.mpr (Nat.le_trans L.sz b3'))
      · exact absurd (L.cel y c e) (Nat.not_lt.mpr (by rw [z]; exact b3'))
    · have z := nq q hq
      rw [show (Wk.s ⟨H, s.setGen g .running, X.pn ++ pins, og.map (·.1)⟩).gens.size = s.gens.size from setGen_size s g .running] at z
      exact z
  · obtain ⟨hr, H', hf, kp⟩ := z
    refine ⟨hr, fun h' hk => .inr ⟨rfl, H', hf, ?_⟩⟩
    have kp' : Kpt X.prog X.w lo (frs X.stack) (X.pn ++ pins) H H' s (s1.setGen g .finished) := ⟨kp.os, allBare_setGen kp.bare rfl, kp.un, kp.hok, kp.pins, by
      have q := kp.gsz
      rw [show (Wk.s ⟨H, s.setGen g .running, X.pn ++ pins, og.map (·.1)⟩).gens.size = s.gens.size from setGen_size s g .running] at q
      rw [setGen_size]; exact q⟩
    exact (inv_kpt I L kp').kept (t' := s1.toks) hk
theorem next_z {J : Gt} {Hs : Hp} {E : Value → Shared → Prop} {n i : Nat} {A : Around} (I : Inv X pins σ H s) (hA : A = X.A) (hc : X.calm = true) (hd : A.depth < recursionLimit) (L : Low X lo) (h : At X pins lo a g ob og gs H s)
    (hS : Asl ⟨X.prog, X.w, X.base, A.in1, X.stack, lo, a, g, J⟩ (n + 1) i Hs ob og gs) (hgs : slp gs = true ∨ ∃ c, gs = .fresh c) (hp : J.pre i Hs H) :
    wpAny (model X.prog X.w) A (pyNext (.ref a)) (fun r s1 => (∃ u x H' ob' og' gs', r = some u ∧ RelV x u ∧ J.yld i H x H' ∧ Inv X pins σ H' s1 ∧ At X pins lo a g ob' og' gs' H' s1 ∧ slp gs' = true ∧ (∀ q ∈ og', q.1 ∈ og.map (·.1) ∨ s.gens.size ≤ q.1) ∧ Asl ⟨X.prog, X.w, X.base, A.in1, X.stack, lo, a, g, J⟩ n (i + 1) H' ob' og' gs') ∨
      (r = none ∧ ∃ H', J.fin i H H' ∧ Inv X pins σ H' s1)) E s := next_zA I (by rw [hA]; exact I.ok.hd hc) hd L h hS hgs hp
end

/-! ### code beside which generators sleep -/
/-- code that runs beside sleepers: they sleep on -/
theorem beside {α : Type} {M : Model} {A : Around} {s : Shared} {t : Sem α} {Q Q' : α → Shared → Prop} {E E' : Value → Shared → Prop} (h : wpAny M A t Q E { s with gens := dulls s.gens })
    (hQ : ∀ a s' G, Q a s' → Slps s.gens G → (AllBare s'.gens → AllBare G) → s.gens.size ≤ G.size → (∀ i : Nat, s.gens.size ≤ i → G[i]? = s'.gens[i]?) → Q' a { s' with gens := G })
    (hE : ∀ e s' G, E e s' → Slps s.gens G → (AllBare s'.gens → AllBare G) → s.gens.size ≤ G.size → (∀ i : Nat, s.gens.size ≤ i → G[i]? = s'.gens[i]?) → E' e { s' with gens := G }) : wpAny M A t Q' E' s := by
  refine wpAny_gsz (Nat.le_refl s.gens.size) (wpAny_slps ?_)
  refine wpAny_mono h (fun a s' q G hs hb hn hz => ?_) fun e s' q G hs hb hn hz => ?_
  · exact hQ a s' G q hs (fun ab y hy => by obtain ⟨z, hz, e⟩ := hb y hy; rw [← e]; exact ab z hz) hz hn
  · exact hE e s' G q hs (fun ab y hy => by obtain ⟨z, hz, e⟩ := hb y hy; rw [← e]; exact ab z hz) hz hn
/-- code that may wake those at B -/
theorem besideB {α : Type} {M : Model} {A : Around} {s : Shared} {t : Sem α} {Q Q' : α → Shared → Prop} {E E' : Value → Shared → Prop} {B : List Nat} (hB : ∀ i ∈ B, ∀ y, s.gens[i]? = some y → nog y = true) (h : wpAny M A t Q E { s with gens := dullB B s.gens })
    (hQ : ∀ a s' G, Q a s' → (∀ i y, i ∉ B → s.gens[i]? = some y → slp y = true → G[i]? = some y) → (AllBare s'.gens → AllBare G) → s.gens.size ≤ G.size → (∀ i : Nat, (i ∈ B ∨ s.gens.size ≤ i) → G[i]? = s'.gens[i]?) → Q' a { s' with gens := G })
    (hE : ∀ e s' G, E e s' → (∀ i y, i ∉ B → s.gens[i]? = some y → slp y = true → G[i]? = some y) → (AllBare s'.gens → AllBare G) → s.gens.size ≤ G.size → (∀ i : Nat, (i ∈ B ∨ s.gens.size ≤ i) → G[i]? = s'.gens[i]?) → E' e { s' with gens := G }) : wpAny M A t Q' E' s := by
  refine wpAny_gsz (Nat.le_refl s.gens.size) (wpAny_slpsB hB ?_)
  refine wpAny_mono h (fun a s' q G hs hb hn hz => ?_) fun e s' q G hs hb hn hz => ?_
  · exact hQ a s' G q hs (fun ab y hy => by obtain ⟨z, hz, e⟩ := hb y hy; rw [← e]; exact ab z hz) hz hn
  · exact hE e s' G q hs (fun ab y hy => by obtain ⟨z, hz, e⟩ := hb y hy; rw [← e]; exact ab z hz) hz hn
theorem dullB_bare {B : List Nat} {T : Array GenState} (h : AllBare T) : AllBare (dullB B T) := fun y hy => by
  obtain ⟨i, hi, rfl⟩ := Array.mem_iff_getElem.mp hy
  have e := dullB_get B T i
  rw [Array.getElem?_eq_getElem hi] at e
  cases q : T[i]? with
  | none =>
    rw [q] at e
    split at e <;> cases e
  | some x =>
    rw [q] at e
    split at e
    · injection e with e
      rw [e]; exact h x (Array.mem_of_getElem? q)
    · injection e with e
      rw [e, dull_bare]; exact h x (Array.mem_of_getElem? q)
theorem dulls_bare {T : Array GenState} (h : AllBare T) : AllBare (dulls T) := fun y hy => by
  obtain ⟨i, hi, rfl⟩ := Array.mem_iff_getElem.mp hy
  have e := dulls_get T i
  rw [Array.getElem?_eq_getElem hi] at e
  cases q : T[i]? with
  | none => rw [q] at e; cases e
  | some x =>
    rw [q] at e
    injection e with e
    rw [e, dull_bare]
    exact h x (Array.mem_of_getElem? q)
theorem inv_gens {X : Cx} {pins : List (Addr × Obj)} {σ : L2.St} {H : Hp} {s : Shared} {G : Array GenState} (I : Inv X pins σ H s) (h : AllBare G) : Inv X pins σ H { s with gens := G } :=
  ⟨I.ok, I.os, h, I.base, I.loc, I.cell, I.free, I.freeC, I.pin, I.hok, I.len⟩
end TwZ
/-! a generator's body -/
namespace TwZ
open PySem L2 PySem.Spec PyProof.Rows GenW

def cut (L : Addr) (s : Shared) : Shared := { s with heap := { s.heap with objs := s.heap.objs.extract 0 L } }
theorem cut_at {L b : Nat} {s : Shared} (h : b < L) : (cut L s).heap.objs[b]? = s.heap.objs[b]? := by
  show (s.heap.objs.extract 0 L)[b]? = s.heap.objs[b]?
  rw [Array.getElem?_extract]
  by_cases q : b < s.heap.objs.size
  · rw [if_pos (by omega), Nat.zero_add]
  · rw [if_neg (by omega), Array.getElem?_eq_none (by omega)]
theorem cut_get {L : Addr} {s : Shared} {b : Addr} (h : b < L) : (cut L s).heap.get? b = s.heap.get? b := by
  unfold Heap.get?
  rw [cut_at h]
theorem cut_size {L : Addr} {s : Shared} : (cut L s).heap.objs.size ≤ L := by
  show (s.heap.objs.extract 0 L).size ≤ L
  rw [Array.size_extract]; omega
theorem cut_size' {L : Addr} {s : Shared} (h : L ≤ s.heap.objs.size) : (cut L s).heap.objs.size = L := by
  show (s.heap.objs.extract 0 L).size = L
  have h' : (L : Nat) ≤ s.heap.objs.size := h
  rw [Array.size_extract]
  exact Nat.min_eq_left h'

theorem of_cut {L : Addr} {s : Shared} {b : Addr} {o : Obj} (h : (cut L s).heap.get? b = some o) : b < L ∧ s.heap.get? b = some o := by
  have q := Nat.lt_of_lt_of_le (Heap.lt_size h) cut_size
  exact ⟨q, (cut_get q) ▸ h⟩
/-- X at the waking W -/
abbrev re (X : Cx) (W : Wk) : Cx := { X with s_0 := cut X.env.locals W.s, H_0 := W.H, pn := W.pn }
/-- what stays through all wakings -/
structure Stc (X : Cx) (lo : Addr) : Prop where
  mod : Mod X.K X.mg X.base
  kind : X.env.scope.kind = .function
  glob : X.env.globals = mainGlobals
  blt : X.env.builtins = builtinsNs
  cel : X.env.cells = []
  nok : ∀ x, ¬ (X.env.kindOf x = some .cell ∨ X.env.kindOf x = some .free)
  hd : X.A.handled = none
  frames : X.A.frames = some X.stack
  stk : X.stack = X.env :: X.outer
  fr : X.env.frame = some X.env.locals
  ex : X.ex = []
  bsz : X.base.objs.size ≤ X.env.locals
  lo : lo ≤ X.env.locals
  calm : X.calm = true
  xe : ∀ e s, ¬ X.xe e s
abbrev gp (X : Cx) (A : Around) (lo a : Addr) (g : Nat) (J : Gt) : Gp := ⟨X.prog, X.w, X.base, A, X.outer, lo, a, g, J⟩
/-- the generator runs; ip: its own objects that stand, iq: its own sleeping generators -/
structure GI (X : Cx) (a : Addr) (g : Nat) (W : Wk) (ip : List (Addr × Obj)) (iq : List (Nat × GenState)) (σ : L2.St) (H : Hp) (s : Shared) : Prop where
  inv : Inv (re X W) ip σ H s
  isgen : ∃ o nm qn, (a, o) ∈ ip ∧ o.cls = .type "generator" ∧ o.data = .fields #[.int g 0, nm, qn] ∧ o.slots = #[]
  own : ∀ p ∈ ip, X.env.locals ≤ p.1
  apt : ∀ p ∈ W.pn, ∀ q ∈ ip, p.1 ≠ q.1
  gsz : W.s.gens.size ≤ s.gens.size
  gl : g < W.s.gens.size
  ll : X.env.locals ≤ W.s.heap.objs.size
  gen : ∀ q ∈ iq, s.gens[q.1]? = some q.2 ∧ slp q.2 = true ∧ g < q.1 ∧ nog q.2 = true
  new : ∀ q ∈ iq, q.1 ∈ W.og ∨ W.s.gens.size ≤ q.1
section
variable {X : Cx} {lo a : Addr} {g : Nat} {W : Wk} {ip : List (Addr × Obj)} {iq : List (Nat × GenState)} {σ : L2.St} {H : Hp} {s : Shared}
theorem GI.kpt (S : Stc X lo) (I : GI X a g W ip iq σ H s) : Kpt X.prog X.w lo (frs X.outer) W.pn W.H H W.s s where
  os := I.inv.os
  bare := I.inv.bare
  un := by
    have u := I.inv.base
    have nx : ∀ b, b ∉ (re X W).ex := fun b z => by
      rw [show (re X W).ex = [] from S.ex] at z
      cases z
    have c : ∀ b o, b < lo → W.s.heap.get? b = some o → (cut X.env.locals W.s).heap.get? b = some o := fun b o hb e => (cut_get (Nat.lt_of_lt_of_le hb S.lo)).trans e
    exact ⟨fun b o hb e n hf => u.keep b o (c b o hb e) n hf (nx b), fun b o hb e n => u.any (c b o hb e) n (nx b), fun b o hb e n => u.free b o (c b o hb e) n (nx b), fun b o hb e => u.there b o (c b o hb e) (nx b), u.tups, u.frzs, u.tbls⟩
  hok := I.inv.hok
  pins := fun p hp => let ⟨z1, z2, _⟩ := I.inv.pin p (List.mem_append_left _ hp); ⟨z1, z2⟩
  gsz := I.gsz
/-- at rest -/
theorem GI.rest (S : Stc X lo) (I : GI X a g W ip iq σ H s) : ∃ oL, s.heap.get? X.env.locals = some oL ∧ Own lo a g H s ((X.env.locals, oL) :: ip) iq ∧ ∀ p ∈ W.pn, ∀ q ∈ (X.env.locals, oL) :: ip, p.1 ≠ q.1 := by
  obtain ⟨m, ⟨oL, es, ep, ho, hd, _⟩, _⟩ := id I.inv.loc
  have ho : s.heap.get? X.env.locals = some oL := ho
  refine ⟨oL, ho, ⟨?_, fun p hp => ?_, I.gen⟩, fun p hp q hq => ?_⟩
  · obtain ⟨o, nm, qn, h1, h2⟩ := I.isgen
    exact ⟨o, nm, qn, List.mem_cons_of_mem _ h1, h2⟩
  · rcases List.mem_cons.mp hp with e | hp
    · rw [e]
      exact ⟨ho, I.inv.free, S.lo, fun v z => by rw [hd] at z; cases z⟩
    · obtain ⟨z1, z2, _, _, z5⟩ := I.inv.pin p (List.mem_append_right _ hp)
      exact ⟨z1, z2, Nat.le_trans S.lo (I.own p hp), z5⟩
  · rcases List.mem_cons.mp hq with e | hq
    · rw [e]
      exact (I.inv.pin p (List.mem_append_left _ hp)).2.2.1
    · exact I.apt p hp q hq
/-- its frame and its own things, at rest -/
structure Rst (X : Cx) (a : Addr) (g : Nat) (ip : List (Addr × Obj)) (iq : List (Nat × GenState)) (σ : L2.St) (oL : Obj) : Prop where
  loc : ∃ (m : Str → Option Value) (es : _) (ep : _), oL.data = .dict es ep ∧ StrKeys es ∧ (∀ nm, nsFind es nm = m nm) ∧ ∀ (i : Nat) (x : Str) (v : V), X.N[i]? = some x → σ[i]? = some (some v) → Vis X.env.scope x → ∃ u, RelV v u ∧ X.env.kindOf x = some .local ∧ m x = some u
  len : σ.length = X.N.length
  pin : ∀ p ∈ ip, p.1 ≠ X.env.locals ∧ p.1 ∉ X.fs ∧ ∀ v, p.2.data ≠ .cell v
  frl : ∀ b ∈ frs X.outer, b < X.env.locals
  isgen : ∃ o nm qn, (a, o) ∈ ip ∧ o.cls = .type "generator" ∧ o.data = .fields #[.int g 0, nm, qn] ∧ o.slots = #[]
  own : ∀ p ∈ ip, X.env.locals ≤ p.1
  gen : ∀ q ∈ iq, slp q.2 = true ∧ g < q.1 ∧ nog q.2 = true
theorem GI.rst (S : Stc X lo) {oL : Obj} (I : GI X a g W ip iq σ H s) (e : s.heap.get? X.env.locals = some oL) : Rst X a g ip iq σ oL := by
  have noC : ∀ x c, X.env.cells.lookup x = some c → False := fun x c h => by rw [S.cel] at h; cases h
  refine ⟨?_, I.inv.len, fun p hp => ?_, fun b hb => ?_, I.isgen, I.own, fun q hq => (I.gen q hq).2⟩
  · obtain ⟨m, ⟨o, es, ep, ho, r1, r2, r3⟩, hl⟩ := id I.inv.loc
    have ho : s.heap.get? X.env.locals = some o := ho
    rw [e] at ho; cases ho
    refine ⟨m, es, ep, r1, r2, r3, fun i x v e1 e2 e3 => ?_⟩
    obtain ⟨u, ru, lk⟩ := hl i x v e1 e2 e3
    rcases lk with ⟨l1, l2⟩ | ⟨k, c, h, _⟩
    · exact ⟨u, ru, l1, l2⟩
    · exact (noC x c h).elim
  · obtain ⟨_, _, z3, z4, z5⟩ := I.inv.pin p (List.mem_append_right _ hp)
    exact ⟨z3, z4, z5⟩
  · obtain ⟨_, o, ho, _⟩ := I.inv.ok.funs.mem hb
    exact Nat.lt_of_lt_of_le (Heap.lt_size ho) cut_size
/-- woken again -/
theorem Rst.woken (S : Stc X lo) {W2 : Wk} {oL : Obj} (R : Rst X a g ip iq σ oL) (z : Wkd X.prog X.w X.base X.outer g ((X.env.locals, oL) :: ip) iq W2.pn W2.H W2.s) (eo : W2.og = iq.map (·.1)) : GI X a g W2 ip iq σ W2.H W2.s := by
  obtain ⟨eL, nL⟩ := z.obs (X.env.locals, oL) List.mem_cons_self
  have nx : ∀ b, b ∉ X.ex := fun b z => by rw [S.ex] at z; cases z
  have Llt : X.env.locals ≤ W2.s.heap.objs.size := Nat.le_of_lt (Heap.lt_size eL)
  have frl := R.frl
  have fun2 : ∀ (l : List Env), (∀ b ∈ frs l, b < X.env.locals) → W2.s.heap.FunFrames X.base l → (cut X.env.locals W2.s).heap.FunFrames X.base l := by
    intro l
    induction l with
    | nil => intro _ _; trivial
    | cons env r ih =>
      intro hs hl
      obtain ⟨hk, ⟨L, o, hf, hn, ho, hd⟩, hr⟩ := hl
      have hL : L < X.env.locals := hs L (by unfold frs; rw [List.filterMap_cons, hf]; exact List.mem_cons_self)
      exact ⟨hk, ⟨L, o, hf, hn, (cut_get hL).trans ho, hd⟩, ih (fun b hb => hs b (by unfold frs; rw [List.filterMap_cons, hf]; exact List.mem_cons_of_mem _ hb)) hr⟩
  have noC : ∀ x c, X.env.cells.lookup x = some c → False := fun x c h => by rw [S.cel] at h; cases h
  refine ⟨⟨⟨S.mod, S.kind, S.glob, S.blt, cut_size, fun x y c h _ => (noC x c h).elim, fun x h => (S.nok x h).elim, fun x c _ h => (noC x c h).elim, fun _ => S.hd, S.frames, .inr ⟨S.stk, S.fr⟩, fun b h => absurd h (nx b), fun b o e => ?_, ?_, fun b _ _ => nx b, fun b h => absurd h (nx b), fun2 X.outer frl z.funs, z.frf⟩,
    rfl, z.bare, ⟨fun b o e n _ _ => (of_cut e).2, fun b o e n _ _ => ⟨o.slots, (of_cut e).2⟩, fun _ _ _ n _ => n, fun b o e _ => ⟨o, (of_cut e).2⟩, fun _ _ q => q, fun _ _ _ q => q, fun b ps (q : W2.H b = some (.tbl ps)) => ⟨#[], by rw [q]; simp⟩⟩, ?_, fun x c h => (noC x c h).elim, nL, fun x c h => (noC x c h).elim, fun p hp => ?_, z.hok, R.len⟩, R.isgen, R.own, fun p hp q hq => ?_, Nat.le_refl _, z.gsz, Llt, fun q hq => ?_, fun q hq => .inl (by rw [eo]; exact List.mem_map.mpr ⟨q, hq, rfl⟩)⟩
  · have lb : b < X.env.locals := Nat.lt_of_lt_of_le (Heap.lt_size e) S.bsz
    exact ⟨(cut_get lb).trans (z.bs b o e).1, (z.bs b o e).2⟩
  · show _ ≤ (cut X.env.locals W2.s).heap.objs.size
    rw [cut_size' Llt]
    exact S.bsz
  · obtain ⟨m, es, ep, r1, r2, r3, hl⟩ := R.loc
    refine ⟨m, ⟨oL, es, ep, eL, r1, r2, r3⟩, fun i x v e1 e2 e3 => ?_⟩
    obtain ⟨u, ru, l1, l2⟩ := hl i x v e1 e2 e3
    exact ⟨u, ru, .inl ⟨l1, l2⟩⟩
  · rcases List.mem_append.mp hp with hp | hp
    · obtain ⟨z1, z2, z3, z4, z5⟩ := z.pin p hp
      exact ⟨z1, z2, z5 (X.env.locals, oL) List.mem_cons_self, z3, z4⟩
    · obtain ⟨z1, z2⟩ := z.obs p (List.mem_cons_of_mem _ hp)
      obtain ⟨z3, z4, z5⟩ := R.pin p hp
      exact ⟨z1, z2, z3, z4, z5⟩
  · exact (z.pin p hp).2.2.2.2 q (List.mem_cons_of_mem _ hq)
  · exact ⟨z.ogs q hq, R.gen q hq⟩
theorem GI.slps {s' : Shared} {G : Array GenState} {σ' : L2.St} {H' : Hp} (I : GI X a g W ip iq σ H s) (J : Inv (re X W) ip σ' H' s') (hs : Slps s.gens G) (hb : AllBare s'.gens → AllBare G) (hz : s.gens.size ≤ G.size) :
    GI X a g W ip iq σ' H' { s' with gens := G } :=
  ⟨inv_gens J (hb J.bare), I.isgen, I.own, I.apt, Nat.le_trans I.gsz hz, I.gl, I.ll, fun q hq => let ⟨z1, z2, z3⟩ := I.gen q hq; ⟨hs q.1 q.2 z1 z2, z2, z3⟩, I.new⟩
end

/-! ### judgements -/
/-- what is wanted behind a statement: i: the turn, Hw: the heap at the waking -/
structure GEz where
  nx : Nat → Hp → L2.St → Hp → Prop
  rt : Nat → Hp → V → Hp → Prop
  bk : Nat → Hp → L2.St → Hp → Prop := fun _ _ _ _ => False
  ct : Nat → Hp → L2.St → Hp → Prop := fun _ _ _ _ => False
abbrev TGz := GEz → Nat → Hp → L2.St → Hp → Prop
def GEz.at (D : GEz) (i : Nat) (Hw : Hp) : Ends := { nx := D.nx i Hw, rt := D.rt i Hw, bk := D.bk i Hw, ct := D.ct i Hw }
def GSz (X : Cx) (a : Addr) (g : Nat) (W : Wk) (ip : List (Addr × Obj)) (iq : List (Nat × GenState)) (D : GEz) (i : Nat) (f : Flow) (s : Shared) : Prop :=
  match f with
  | .next => ∃ σ H, GI X a g W ip iq σ H s ∧ D.nx i W.H σ H
  | .brk => ∃ σ H, GI X a g W ip iq σ H s ∧ D.bk i W.H σ H
  | .cont => ∃ σ H, GI X a g W ip iq σ H s ∧ D.ct i W.H σ H
  | .ret u => ∃ v σ H, GI X a g W ip iq σ H s ∧ RelV v u ∧ D.rt i W.H v H
structure GCz (X : Cx) (A : Around) (c : Code) (fs : List Frame) (gd : Bool → Bool) : Prop where
  over : A.over c fs = X.A
  split : splitAtGen fs = none
  guard : fs.any Frame.guarded = false
  gd : gd false = false
def GKz (X : Cx) (A : Around) (lo a : Addr) (g : Nat) (J : Gt) (N : Nat) (ip : List (Addr × Obj)) (iq : List (Nat × GenState)) (c : Code) (fs : List Frame) (K : Flow → Sem PySem.Fin) (D : GEz) : Prop :=
  ∀ (n i : Nat) (W : Wk) (s : Shared) (f : Flow), n + i = N → GSz X a g W ip iq D i f s → Sg (model X.prog X.w) A (Out (gp X A lo a g J) n i W) c (K f) fs s
structure GZ (X : Cx) (J : Gt) (st : Stmt) (t : TGz) : Prop where
  run : ∀ (A : Around) (lo a : Addr) (g N n i : Nat) (W : Wk) (ip : List (Addr × Obj)) (iq : List (Nat × GenState)) (c : Code) (fs : List Frame) (K : Flow → Sem PySem.Fin) (Jx : Value → Sem PySem.Fin) (gd : Bool → Bool) (lv : List Value → List Value) (s : Shared) (σ : L2.St) (H : Hp) (D : GEz),
    Stc X lo → GCz X A c fs gd → n + i = N → GKz X A lo a g J N ip iq c fs K D → GI X a g W ip iq σ H s → t D i W.H σ H →
    Sg (model X.prog X.w) A (Out (gp X A lo a g J) n i W) c ((exec st X.env).wrap K Jx gd lv) fs s
structure GZs (X : Cx) (J : Gt) (st : List Stmt) (t : TGz) : Prop where
  run : ∀ (A : Around) (lo a : Addr) (g N n i : Nat) (W : Wk) (ip : List (Addr × Obj)) (iq : List (Nat × GenState)) (c : Code) (fs : List Frame) (K : Flow → Sem PySem.Fin) (Jx : Value → Sem PySem.Fin) (gd : Bool → Bool) (lv : List Value → List Value) (s : Shared) (σ : L2.St) (H : Hp) (D : GEz),
    Stc X lo → GCz X A c fs gd → n + i = N → GKz X A lo a g J N ip iq c fs K D → GI X a g W ip iq σ H s → t D i W.H σ H →
    Sg (model X.prog X.w) A (Out (gp X A lo a g J) n i W) c ((execs st X.env).wrap K Jx gd lv) fs s

section
variable {X : Cx} {J : Gt} {st : Stmt} {rest : List Stmt}
theorem gsz_sp {a : Addr} {g : Nat} {W : Wk} {ip : List (Addr × Obj)} {iq : List (Nat × GenState)} {σ : L2.St} {H : Hp} {s s' : Shared} {G : Array GenState} {D : GEz} {i : Nat} {f : Flow} (I : GI X a g W ip iq σ H s) (h : SP (re X W) ip (D.at i W.H) f s')
    (hs : Slps s.gens G) (hb : AllBare s'.gens → AllBare G) (hz : s.gens.size ≤ G.size) : GSz X a g W ip iq D i f { s' with gens := G } := by
  cases f with
  | next => obtain ⟨σ2, H2, J2, q⟩ := h; exact ⟨σ2, H2, I.slps J2 hs hb hz, q⟩
  | brk => obtain ⟨σ2, H2, J2, q⟩ := h; exact ⟨σ2, H2, I.slps J2 hs hb hz, q⟩
  | cont => obtain ⟨σ2, H2, J2, q⟩ := h; exact ⟨σ2, H2, I.slps J2 hs hb hz, q⟩
  | ret u => obtain ⟨v, σ2, H2, J2, r, q⟩ := h; exact ⟨v, σ2, H2, I.slps J2 hs hb hz, r, q⟩
/-- code of the generator that hands out nothing -/
theorem GI.code {α : Type} {lo a : Addr} {g : Nat} {A : Around} {c : Code} {fs : List Frame} {gd : Bool → Bool} {W : Wk} {ip : List (Addr × Obj)} {iq : List (Nat × GenState)} {σ : L2.St} {H : Hp} {s : Shared} {m : Sem α} {Q Q' : α → Shared → Prop} {E' : Value → Shared → Prop}
    (S : Stc X lo) (g0 : GCz X A c fs gd) (I : GI X a g W ip iq σ H s) (h : ∀ G0, Inv (re X W) ip σ H { s with gens := G0 } → wpAny (model X.prog X.w) X.A m Q X.xe { s with gens := G0 })
    (hQ : ∀ b s' G, Q b s' → Slps s.gens G → (AllBare s'.gens → AllBare G) → s.gens.size ≤ G.size → (∀ i : Nat, s.gens.size ≤ i → G[i]? = s'.gens[i]?) → Q' b { s' with gens := G }) :
    wpAny (model X.prog X.w) (A.over c fs) m Q' E' s := by
  rw [g0.over]
  exact beside (h _ (inv_gens I.inv (dulls_bare I.inv.bare))) hQ fun e s' G q => absurd q (S.xe e s')
/-- .. that may wake those at B -/
theorem GI.codeB {α : Type} {lo a : Addr} {g : Nat} {A : Around} {c : Code} {fs : List Frame} {gd : Bool → Bool} {W : Wk} {ip : List (Addr × Obj)} {iq : List (Nat × GenState)} {σ : L2.St} {H : Hp} {s : Shared} {m : Sem α} {Q Q' : α → Shared → Prop} {E' : Value → Shared → Prop} {B : List Nat}
    (S : Stc X lo) (g0 : GCz X A c fs gd) (I : GI X a g W ip iq σ H s) (hB : ∀ i ∈ B, ∀ y, s.gens[i]? = some y → nog y = true) (hq : ∀ q ∈ iq, q.1 ∉ B)
    (h : ∀ G0, (∀ i ∈ B, G0[i]? = s.gens[i]?) → G0.size = s.gens.size → Inv (re X W) ip σ H { s with gens := G0 } → wpAny (model X.prog X.w) X.A m Q X.xe { s with gens := G0 })
    (hQ : ∀ b s' G, Q b s' → (∀ q ∈ iq, G[q.1]? = some q.2) → (AllBare s'.gens → AllBare G) → s.gens.size ≤ G.size → (∀ i : Nat, (i ∈ B ∨ s.gens.size ≤ i) → G[i]? = s'.gens[i]?) → Q' b { s' with gens := G }) :
    wpAny (model X.prog X.w) (A.over c fs) m Q' E' s := by
  rw [g0.over]
  exact besideB hB (h _ (fun i hi => by rw [dullB_get, if_pos hi]) (dullB_size _ _) (inv_gens I.inv (dullB_bare I.inv.bare))) (fun b s' G q hs hb hz hn => hQ b s' G q (fun q' hq' => hs q'.1 q'.2 (hq q' hq') (I.gen q' hq').1 (I.gen q' hq').2.1) hb hz hn) fun e s' G q => absurd q (S.xe e s')
theorem GI.slpsB {a : Addr} {g : Nat} {W : Wk} {ip : List (Addr × Obj)} {iq : List (Nat × GenState)} {σ σ' : L2.St} {H H' : Hp} {s s' : Shared} {G : Array GenState} (I : GI X a g W ip iq σ H s) (J : Inv (re X W) ip σ' H' s') (hs : ∀ q ∈ iq, G[q.1]? = some q.2) (hb : AllBare s'.gens → AllBare G) (hz : s.gens.size ≤ G.size) :
    GI X a g W ip iq σ' H' { s' with gens := G } :=
  ⟨inv_gens J (hb J.bare), I.isgen, I.own, I.apt, Nat.le_trans I.gsz hz, I.gl, I.ll, fun q hq => ⟨hs q hq, (I.gen q hq).2⟩, I.new⟩
def tPl (t : TS) : TGz := fun D i Hw σ H => t (D.at i Hw) σ H
theorem gz_ps {t : TS} (h : ∀ W, PS (re X W) st t) : GZ X J st (tPl t) := by
  refine ⟨fun A lo a g N n i W ip iq c fs K Jx gd lv s σ H D S g0 hn k I ht => ?_⟩
  exact sg_wrap (I.code S g0 (fun G0 I0 => (h W).run ip _ σ H (D.at i W.H) I0 ht) fun f s' G q hs hb hz _ => k n i W _ f hn (gsz_sp I q hs hb hz))
theorem gzs_pss {t : TS} (h : ∀ W, PSs (re X W) rest t) : GZs X J rest (tPl t) := by
  refine ⟨fun A lo a g N n i W ip iq c fs K Jx gd lv s σ H D S g0 hn k I ht => ?_⟩
  exact sg_wrap (I.code S g0 (fun G0 I0 => (h W).run ip _ σ H (D.at i W.H) I0 ht) fun f s' G q hs hb hz _ => k n i W _ f hn (gsz_sp I q hs hb hz))
def tGz0 : TGz := fun D i Hw σ H => D.nx i Hw σ H
theorem gzs_nil : GZs X J [] tGz0 := by
  refine ⟨fun A lo a g N n i W ip iq c fs K Jx gd lv s σ H D S g0 hn k I ht => ?_⟩
  exact sg_nil (k n i W s .next hn ⟨σ, H, I, ht⟩)
def tGzSeq (t u : TGz) : TGz := fun D i Hw σ H => t { D with nx := fun i2 Hw2 σ2 H2 => u D i2 Hw2 σ2 H2 } i Hw σ H
theorem gzs_cons {t u : TGz} (p : GZ X J st t) (q : GZs X J rest u) : GZs X J (st :: rest) (tGzSeq t u) := by
  refine ⟨fun A lo a g N n i W ip iq c fs K Jx gd lv s σ H D S g0 hn k I ht => ?_⟩
  refine sg_cons (p.run A lo a g N n i W ip iq c fs _ Jx gd lv s σ H _ S g0 hn (fun n2 i2 W2 s2 f hn2 hs => ?_) I ht)
  cases f with
  | next =>
    obtain ⟨σ2, H2, I2, z⟩ := hs
    exact q.run A lo a g N n2 i2 W2 ip iq c fs K Jx gd lv s2 σ2 H2 D S g0 hn2 k I2 z
  | brk => exact k n2 i2 W2 s2 .brk hn2 hs
  | cont => exact k n2 i2 W2 s2 .cont hn2 hs
  | ret u => exact k n2 i2 W2 s2 (.ret u) hn2 hs
def tGzIf (c : TT) (t u : TGz) : TGz := fun D i Hw σ H => c σ H fun b H1 => if b = true then t D i Hw σ H1 else u D i Hw σ H1
theorem gz_if {test : Expr} {x y : List Stmt} {pos : Pos} {tc : TT} {t u : TGz} (hc : ∀ W, PT (re X W) test tc) (p : GZs X J x t) (q : GZs X J y u) : GZ X J (.If test x y pos) (tGzIf tc t u) := by
  refine ⟨fun A lo a g N n i W ip iq c fs K Jx gd lv s σ H D S g0 hn k I ht => ?_⟩
  refine sg_If (I.code S g0 (fun G0 I0 => (hc W).run ip _ σ H _ I0 ht) fun b s' G z hs hb hz _ => ?_)
  obtain ⟨H1, I1, z⟩ := z
  have I2 := I.slps I1 hs hb hz
  cases b with
  | true =>
    rw [if_pos rfl] at z
    exact p.run A lo a g N n i W ip iq c fs K Jx gd lv _ σ H1 D S g0 hn k I2 z
  | false =>
    rw [if_neg Bool.false_ne_true] at z
    exact q.run A lo a g N n i W ip iq c fs K Jx gd lv _ σ H1 D S g0 hn k I2 z
/-- yield -/
def tGzYield (J : Gt) (te : TE) : TGz := fun D i Hw σ H => te σ H fun x H1 => J.yld i Hw x H1 ∧ ∀ H2, J.pre (i + 1) H1 H2 → D.nx (i + 1) H2 σ H2
theorem gz_yield {e : Expr} {yp pos : Pos} {te : TE} (he : ∀ W, PE (re X W) e te) (hco : X.env.scope.isCoroutine = false := by rfl) (hi : interactive X.env = false := by rfl) : GZ X J (.Expr (.Yield (some e) yp) pos) (tGzYield J te) := by
  refine ⟨fun A lo a g N n i W ip iq c fs K Jx gd lv s σ H D S g0 hn k I ht => ?_⟩
  refine sg_yieldE g0.split g0.gd g0.guard (I.code S g0 (fun G0 I0 => (he W).run ip _ σ H _ I0 ht) fun v s' G z hs hb hz _ => ?_) hco hi
  obtain ⟨x, H1, I1, rv, hy, hk⟩ := z
  have I2 := I.slps I1 hs hb hz
  intro gd' l k' p _ hgo
  obtain ⟨oL, eL, ow, dj⟩ := I2.rest S
  refine ⟨x, H1, _, iq, hy, rv, I2.kpt S, ow, dj, I2.new, Option.isNone_iff_eq_none.mpr g0.split, ?_⟩
  cases n with
  | zero => trivial
  | succ n =>
    refine asl_succ.mpr fun H2 pn2 s2 wk hp => ?_
    refine hgo _ s2 (k n (i + 1) ⟨H2, s2, pn2, iq.map (·.1)⟩ s2 .next (by omega) ⟨σ, H2, (I2.rst S eL).woken (W2 := ⟨H2, s2, pn2, iq.map (·.1)⟩) S wk rfl, hk H2 hp⟩)
/-! ### loops -/
theorem gcz_loop {A : Around} {c c2 : Code} {fs : List Frame} {gd : Bool → Bool} {k : Result → Sem PySem.Fin} {l kp : List Value} {p : Pos} (g0 : GCz X A c fs gd) (hw : c2.weight = 0) (hu : c2.cUnits = 0) : GCz X A c2 (.ret k none (gd false) l c p kp :: fs) id where
  over := (over_loop hw hu).trans g0.over
  split := by
    show (splitAtGen fs).map _ = none
    rw [g0.split]; rfl
  guard := by
    show (gd false || fs.any Frame.guarded) = false
    rw [g0.gd, g0.guard]; rfl
  gd := rfl
def tGzWhile (c : TT) (tb : TGz) : TGz := fun D i Hw σ H => ∃ V : Nat → Nat → Hp → L2.St → Hp → Prop, (∃ m, V m i Hw σ H) ∧ ∀ m i Hw σ H, V m i Hw σ H →
  c σ H fun b H1 => if b = true then ∃ Nx : Nat → Hp → L2.St → Hp → Prop, (∀ i' Hw' σ' H', Nx i' Hw' σ' H' → ∃ m', (i < i' ∨ i' = i ∧ m' < m) ∧ V m' i' Hw' σ' H') ∧ tb { D with nx := Nx, ct := Nx, bk := D.nx } i Hw σ H1 else D.nx i Hw σ H1
theorem gz_while {test : Expr} {body : List Stmt} {pos : Pos} {tc : TT} {tb : TGz} (hc : ∀ W, PT (re X W) test tc) (hb : GZs X J body tb) : GZ X J (.While test body [] pos) (tGzWhile tc tb) := by
  refine ⟨fun A lo a g N n i W ip iq c fs K Jx gd lv s σ H D S g0 hn k I ht => ?_⟩
  obtain ⟨V, ⟨m0, v0⟩, turn⟩ := ht
  refine sg_While fun p => ?_
  have gl := fun (kk : Result → Sem PySem.Fin) => gcz_loop (k := kk) (c2 := .whileLoop test body [] X.env) (l := lv []) (kp := []) (p := p) g0 rfl rfl
  have loop : ∀ (q m n i : Nat) (W : Wk) (s : Shared) (σ : L2.St) (H : Hp), n = q → n + i = N → V m i W.H σ H → GI X a g W ip iq σ H s →
      Sg (model X.prog X.w) A (Out (gp X A lo a g J) n i W) (.whileLoop test body [] X.env) ((model X.prog X.w).den (.whileLoop test body [] X.env))
        (.ret (fun r => ((match r with | .ok f => (.pure f : Sem Flow) | .error e => .raise e).onRaise (cameBack X.env)).wrap K Jx gd lv) none (gd false) (lv []) c p [] :: fs) s := by
    intro q
    induction q using Nat.strongRecOn with
    | ind q ihq =>
      intro m
      induction m using Nat.strongRecOn with
      | ind m ihm =>
        intro n i W s σ H eq hn v I
        refine sg_while (I.code S (gl _) (fun G0 I0 => (hc W).run ip _ σ H _ I0 (turn m i W.H σ H v)) fun b s' G z hs hbr hz _ => ?_)
        obtain ⟨H1, I1, z⟩ := z
        have I2 := I.slps I1 hs hbr hz
        cases b with
        | true =>
          obtain ⟨Nx, hN, z⟩ := z
          rw [if_pos rfl]
          refine hb.run A lo a g N n i W ip iq _ _ _ _ id id _ σ H1 { D with nx := Nx, ct := Nx, bk := D.nx } S (gl _) hn (fun n2 i2 W2 s2 f hn2 hs2 => ?_) I2 z
          have again : ∀ {σ3 : L2.St} {H3 : Hp}, GI X a g W2 ip iq σ3 H3 s2 → Nx i2 W2.H σ3 H3 → Sg (model X.prog X.w) A (Out (gp X A lo a g J) n2 i2 W2) (.whileLoop test body [] X.env) ((model X.prog X.w).den (.whileLoop test body [] X.env))
              (.ret (fun r => ((match r with | .ok f => (.pure f : Sem Flow) | .error e => .raise e).onRaise (cameBack X.env)).wrap K Jx gd lv) none (gd false) (lv []) c p [] :: fs) s2 := fun {σ3 H3} I3 n3 => by
            obtain ⟨m', hm, v3⟩ := hN i2 W2.H σ3 H3 n3
            rcases hm with hm | ⟨hm, hm'⟩
            · exact ihq n2 (by omega) m' n2 i2 W2 s2 σ3 H3 rfl hn2 v3 I3
            · subst hm
              exact ihm m' hm' n2 i2 W2 s2 σ3 H3 (by omega) hn2 v3 I3
          cases f with
          | next => obtain ⟨σ3, H3, I3, n3⟩ := hs2; exact sg_again rfl (again I3 n3)
          | cont => obtain ⟨σ3, H3, I3, n3⟩ := hs2; exact sg_again rfl (again I3 n3)
          | brk => exact sg_leaf (.ok .next) (k n2 i2 W2 s2 .next hn2 hs2)
          | ret v => exact sg_leaf (.ok (.ret v)) (k n2 i2 W2 s2 (.ret v) hn2 hs2)
        | false =>
          rw [if_neg Bool.false_ne_true]
          exact sg_leaf (.ok .next) (k n i W _ .next hn ⟨σ, H1, I2, z⟩)
  exact loop n m0 n i W s σ H rfl hn v0 I
end
end TwZ
/-! loops over generators; a generator's loops -/
namespace TwZ
open PySem L2 PySem.Spec PyProof.Rows GenW

/-- an expression that makes a generator -/
abbrev TIG := L2.St → Hp → (Gt → Hp → Prop) → Prop
def PGE (X : Cx) (pins : List (Addr × Obj)) (σ : L2.St) (R : Gt → Hp → Prop) (n0 : Nat) (u : Value) (s1 : Shared) : Prop :=
  ∃ (J : Gt) (H1 : Hp) (lo a : Addr) (g : Nat) (ob : List (Addr × Obj)) (c : Code), u = .ref a ∧ Inv X pins σ H1 s1 ∧ Low X lo ∧ At X pins lo a g ob [] (.fresh c) H1 s1 ∧ n0 ≤ g ∧ (∀ b, lo ≤ b → H1 b = none) ∧
    (∀ n, Asl ⟨X.prog, X.w, X.base, X.A.in1, X.stack, lo, a, g, J⟩ n 0 H1 ob [] (.fresh c)) ∧ R J H1
structure PIG (X : Cx) (e : Expr) (wg : TIG) : Prop where
  run : ∀ (pins : List (Addr × Obj)) (s : Shared) (σ : L2.St) (H : Hp) (R : Gt → Hp → Prop), Inv X pins σ H s → wg σ H R → wpAny (model X.prog X.w) X.A (eval e X.env) (PGE X pins σ R s.gens.size) X.xe s
section
variable {X : Cx} {pins : List (Addr × Obj)} {σ σ' : L2.St} {H H' : Hp} {s s' : Shared} {lo a : Addr} {g : Nat} {ob : List (Addr × Obj)} {og : List (Nat × GenState)} {gs : GenState} {G : Array GenState}
theorem At.isgen (h : At X pins lo a g ob og gs H s) : s.heap.IsGen a g := by
  obtain ⟨o, nm, qn, hm, oc, od, osl⟩ := h.own.isgen
  exact ⟨o, nm, qn, (h.own.obs _ hm).1, oc, od, osl⟩
theorem At.mem (h : At X pins lo a g ob og gs H s) : ∃ o, s.heap.get? a = some o ∧ o.cls = .type "generator" ∧ ∃ vs, o.data = .fields vs := by
  obtain ⟨o, nm, qn, ho, oc, od, _⟩ := h.isgen
  exact ⟨o, ho, oc, _, od⟩
/-- its objects are pinned -/
theorem At.pin (I : Inv X pins σ H s) (h : At X pins lo a g ob og gs H s) : Inv X (pins ++ ob) σ H s := I.pins_of fun p hp => by
  rcases List.mem_append.mp hp with hp | hp
  · exact I.pin p (List.mem_append_right _ hp)
  · obtain ⟨z1, z2, _, z4⟩ := h.own.obs p hp
    obtain ⟨f0, f1, f2, _⟩ := h.fp p hp
    exact ⟨z1, z2, f1, f2, z4⟩
/-- it sleeps on beside other code -/
theorem At.on (h : At X pins lo a g ob og gs H s) (sl : slp gs = true) (J : Inv X (pins ++ ob) σ' H' s') (hs : Slps s.gens G) : At X pins lo a g ob og gs H' { s' with gens := G } := by
  have q : ∀ p ∈ ob, s'.heap.get? p.1 = some p.2 ∧ H' p.1 = none := fun p hp => let ⟨a, b, _⟩ := J.pin p (List.mem_append_right _ (List.mem_append_right _ hp)); ⟨a, b⟩
  refine ⟨⟨h.own.isgen, fun p hp => ?_, fun q hq => ?_⟩, fun p hp => ⟨(q p hp).2, (h.fp p hp).2⟩, hs g gs h.gen sl, h.nog⟩
  · obtain ⟨_, _, z3, z4⟩ := h.own.obs p hp
    exact ⟨(q p hp).1, (q p hp).2, z3, z4⟩
  · obtain ⟨z1, z2, z3⟩ := h.own.ogs q hq
    exact ⟨hs q.1 q.2 z1 z2, z2, z3⟩
theorem go_g {P : Program} {w : World} {A : Around} {E : Value → Shared → Prop} {tg : Expr} {u : Value} {Q : Unit → Shared → Prop} (h : At X pins lo a g ob og gs H s) (hQ : Q () s) : wpAny (model P w) A (letOwnedTupleGo tg (.ref a) u) Q E s := by
  obtain ⟨o, ho, hc, vs, hd⟩ := h.mem
  exact go_of ho hc hd (by decide) hQ
end

/-! ### the waker's loop -/
def tForG (wg : TIG) (gt : TG) (tb : TS) : TS := fun D σ H => wg σ H fun J H1 => ∃ (N : Nat) (V : Nat → Hp → L2.St → Hp → Prop), V 0 H1 σ H1 ∧ ∀ j Hs σ H, V j Hs σ H → j < N ∧ J.pre j Hs H ∧ (∀ H', J.fin j H H' → D.nx σ H') ∧
  ∀ x H', J.yld j H x H' → gt x σ H' fun σ2 H2 => tb { D with nx := V (j + 1) H', ct := V (j + 1) H', bk := D.nx } σ2 H2
/-- exceptions don't mind the generators' table -/
def Mild (X : Cx) : Prop := ∀ e s G, X.xe e s → (AllBare s.gens → AllBare G) → X.xe e { s with gens := G }
theorem mild_nox {X : Cx} (h : ∀ e s, ¬ X.xe e s) : Mild X := fun e s G x _ => (h e s x).elim
theorem ps_forG {X : Cx} {k : Nat} {tg iter : Expr} {body : List Stmt} {wg : TIG} {gt : TG} {tb : TS} {pos : Pos} (hp : PassesOwn (model X.prog X.w) X.A X.env X.xe) (hm : Mild X) (hc : X.calm = true) (hr : Room k X.A) (hi : PIG X iter wg) (hg : PG X tg gt) (hb : PSs X body tb)
    (hs : ∀ x, foldedSetIterable iter X.env x = pure x := by intro _; rfl) : PS X (.For tg iter body [] pos) (tForG wg gt tb) := by
  refine ⟨fun pins s σ H D I h => ?_⟩
  refine wpAny_For (thn (hi.run pins s σ H _ I h) fun u s2 h2 => ?_) hs
  obtain ⟨J, H2, lo, a, g, ob, c, rfl, I2, L, At2, _, _, As2, N, V, v0, turn⟩ := h2
  refine wpAny_pyIter_gen At2.isgen ?_
  refine codeAny_forLoop_any (fun n s' => ∃ j Hs σ' H' ob og gs, n = N - j ∧ Inv X pins σ' H' s' ∧ At X pins lo a g ob og gs H' s' ∧ (slp gs = true ∨ ∃ c, gs = .fresh c) ∧ Asl ⟨X.prog, X.w, X.base, X.A.in1, X.stack, lo, a, g, J⟩ (N - j) j Hs ob og gs ∧ V j Hs σ' H')
    ?_ N ⟨0, H2, σ, H2, ob, [], _, rfl, I2, At2, .inr ⟨c, rfl⟩, As2 _, v0⟩
  rintro n s3 ⟨j, Hs3, σ3, H3, ob3, og3, gs3, rfl, I3, At3, sl3, As3, v3⟩
  obtain ⟨hj, hpre, hfin, step⟩ := turn j Hs3 σ3 H3 v3
  obtain ⟨m, em⟩ : ∃ m, N - j = m + 1 := ⟨N - j - 1, by omega⟩
  rw [em] at As3
  refine wpAny_passesOwn hp (thn (next_z I3 rfl hc hr.depth L At3 As3 sl3 hpre) fun r s4 h4 => ?_)
  rcases h4 with ⟨u, x, H4, ob4, og4, gs4, rfl, rv, y, I4, At4, sl4, _, As4⟩ | ⟨rfl, H4, f4, I4⟩
  · refine go_g At4 ?_
    refine wpAny_passesOwn hp ?_
    have I5 := At4.pin I4
    refine beside (hg.run _ _ σ3 H4 x u _ (inv_gens I5 (dulls_bare I5.bare)) rv (step x H4 y)) (fun _ s6 G6 ⟨σ6, H6, I6, q6⟩ hs6 hb6 _ _ => ?_) fun e s' G q _ hb' _ _ => hm e s' G q hb'
    have A6 := At4.on sl4 I6 hs6
    have I6' := inv_gens I6 (hb6 I6.bare)
    refine wpAny_passesOwn hp ?_
    refine beside (hb.run _ _ σ6 H6 _ (inv_gens I6' (dulls_bare I6'.bare)) q6) (fun f s7 G7 q7 hs7 hb7 _ _ => ?_) fun e s' G q _ hb' _ _ => hm e s' G q hb'
    have again : ∀ {σ7 : L2.St} {H7 : Hp}, Inv X (pins ++ ob4) σ7 H7 s7 → V (j + 1) H4 σ7 H7 → ∃ m, m < N - j ∧ ∃ j Hs σ' H' ob og gs, m = N - j ∧ Inv X pins σ' H' { s7 with gens := G7 } ∧ At X pins lo a g ob og gs H' { s7 with gens := G7 } ∧ (slp gs = true ∨ ∃ c, gs = .fresh c) ∧
        Asl ⟨X.prog, X.w, X.base, X.A.in1, X.stack, lo, a, g, J⟩ (N - j) j Hs ob og gs ∧ V j Hs σ' H' := fun {σ7 H7} I7 v7 => by
      refine ⟨N - (j + 1), by omega, j + 1, H4, σ7, H7, ob4, og4, gs4, rfl, (inv_gens I7 (hb7 I7.bare)).unpinned, A6.on sl4 I7 hs7, .inl sl4, ?_, v7⟩
      rw [show N - (j + 1) = m by omega]
      exact As4
    cases f with
    | next => obtain ⟨σ7, H7, I7, v7⟩ := q7; exact again I7 v7
    | cont => obtain ⟨σ7, H7, I7, v7⟩ := q7; exact again I7 v7
    | brk => obtain ⟨σ7, H7, I7, q7⟩ := q7; exact ⟨σ7, H7, (inv_gens I7 (hb7 I7.bare)).unpinned, q7⟩
    | ret v => obtain ⟨x7, σ7, H7, I7, r7, q7⟩ := q7; exact ⟨x7, σ7, H7, (inv_gens I7 (hb7 I7.bare)).unpinned, r7, q7⟩
  · exact wpAny_execs_nil ⟨σ3, H4, I4, hfin H4 f4⟩

/-! ### a generator's loops -/
section
variable {X : Cx} {J : Gt} {lo a : Addr} {g : Nat} {W : Wk} {ip : List (Addr × Obj)} {iq : List (Nat × GenState)} {σ : L2.St} {H : Hp} {s : Shared}
/-- more of its own -/
theorem GI.more {pl : List (Addr × Obj)} {ql : List (Nat × GenState)} (I : GI X a g W ip iq σ H s) (J2 : Inv (re X W) (ip ++ pl) σ H s) (h1 : ∀ p ∈ pl, X.env.locals ≤ p.1) (h2 : ∀ p ∈ W.pn, ∀ q ∈ pl, p.1 ≠ q.1)
    (h3 : ∀ q ∈ ql, s.gens[q.1]? = some q.2 ∧ slp q.2 = true ∧ g < q.1 ∧ nog q.2 = true) (h4 : ∀ q ∈ ql, q.1 ∈ W.og ∨ W.s.gens.size ≤ q.1) : GI X a g W (ip ++ pl) (iq ++ ql) σ H s := by
  obtain ⟨o, nm, qn, z1, z2⟩ := I.isgen
  exact ⟨J2, ⟨o, nm, qn, List.mem_append_left _ z1, z2⟩, fun p hp => (List.mem_append.mp hp).elim (I.own p) (h1 p), fun p hp q hq => (List.mem_append.mp hq).elim (I.apt p hp q) (h2 p hp q), I.gsz, I.gl, I.ll, fun q hq => (List.mem_append.mp hq).elim (I.gen q) (h3 q), fun q hq => (List.mem_append.mp hq).elim (I.new q) (h4 q)⟩
theorem GI.less {pl : List (Addr × Obj)} {ql : List (Nat × GenState)} (hg : ∃ o nm qn, (a, o) ∈ ip ∧ o.cls = .type "generator" ∧ o.data = .fields #[.int g 0, nm, qn] ∧ o.slots = #[]) (I : GI X a g W (ip ++ pl) (iq ++ ql) σ H s) : GI X a g W ip iq σ H s :=
  ⟨I.inv.unpinned, hg, fun p hp => I.own p (List.mem_append_left _ hp), fun p hp q hq => I.apt p hp q (List.mem_append_left _ hq), I.gsz, I.gl, I.ll, fun q hq => I.gen q (List.mem_append_left _ hq), fun q hq => I.new q (List.mem_append_left _ hq)⟩
/-- a thing of its own may turn -/
theorem GI.turns (S : Stc X lo) {pl : List (Addr × Obj)} {ql : List (Nat × GenState)} (I : GI X a g W (ip ++ pl) (iq ++ ql) σ H s) {p : Addr × Obj} (hp : p ∈ pl) (hd : ∀ q ∈ ip, q.1 ≠ p.1) : FpOk (re X W) ip H p.1 := by
  have hm : p ∈ ip ++ pl := List.mem_append_right _ hp
  obtain ⟨z1, z2, z3, z4, z5⟩ := I.inv.pin p (List.mem_append_right _ hm)
  refine ⟨z2, z3, z4, .inr (Nat.le_trans cut_size (I.own p hm)), fun x c e => ?_, fun q hq => ?_⟩
  · have e : X.env.cells.lookup x = some c := e
    rw [S.cel] at e; cases e
  · rcases List.mem_append.mp hq with hq | hq
    · exact I.apt q hq p hm
    · exact hd q hq
def tGzFor (wi : TI) (gt : TG) (tb : TGz) : TGz := fun D i Hw σ H => wi σ H fun J2 H1 => ∃ Y : Nat → Nat → Nat → Hp → L2.St → Hp → Prop, (∃ m, Y 0 m i Hw σ H1) ∧ ∀ j m i Hw σ H, Y j m i Hw σ H →
  (J2.stop j H ∧ D.nx i Hw σ H) ∨ (J2.go j H ∧ ∃ Nx : Nat → Hp → L2.St → Hp → Prop, (∀ i' Hw' σ' H', Nx i' Hw' σ' H' → ∃ m', m' < m ∧ Y (j + 1) m' i' Hw' σ' H') ∧ ∀ x H', J2.yld j H x H' → gt x σ H' fun σ2 H2 => tb { D with nx := Nx, ct := Nx, bk := D.nx } i Hw σ2 H2)
theorem gz_for {tg iter : Expr} {body : List Stmt} {wi : TI} {gt : TG} {tb : TGz} {pos : Pos} (hi : ∀ W, PI (re X W) tg iter wi) (hg : ∀ W, PG (re X W) tg gt) (hb : GZs X J body tb)
    (hs : ∀ x, foldedSetIterable iter X.env x = pure x := by intro _; rfl) : GZ X J (.For tg iter body [] pos) (tGzFor wi gt tb) := by
  refine ⟨fun A lo a g N n i W ip iq c fs K Jx gd lv s σ H D S g0 hn k I ht => ?_⟩
  have hI : ∀ G0, Inv (re X W) ip σ H { s with gens := G0 } → wpAny (model X.prog X.w) X.A (itOf iter X.env) (PIE (re X W) ip σ tg _) X.xe { s with gens := G0 } := fun G0 I0 =>
    wpAny_bind (thn ((hi W).run ip _ σ H _ I0 ht) fun v s1 h1 => wpAny_bind (wpAny_standAt (wpAny_holding h1)))
  refine sg_For (I.code S g0 hI fun itv s2 G2 h2 hs2 hb2 hz2 _ p => ?_) hs
  obtain ⟨it, fp, tn, J2, H2, rfl, I2, T, st2, f2, Y, ⟨m0, v0⟩, turn⟩ := h2
  have gl := fun (kk : Result → Sem PySem.Fin) => gcz_loop (k := kk) (c2 := .forLoop tg (.ref it) body [] X.env) (l := lv []) (kp := []) (p := p) g0 rfl rfl
  have isg := I.isgen
  have dj : ∀ b ∈ fp, ∀ q ∈ ip, q.1 ≠ b := fun b hb q hq => (f2 b hb).2.2.2.2.2 q (List.mem_append_right _ hq)
  have loop : ∀ (m j n i : Nat) (W : Wk) (s : Shared) (σ : L2.St) (H : Hp), n + i = N → Y j m i W.H σ H → GI X a g W ip iq σ H s → tn j s.heap → (∀ b ∈ fp, FpOk (re X W) ip H b) →
      Sg (model X.prog X.w) A (Out (gp X A lo a g J) n i W) (.forLoop tg (.ref it) body [] X.env) ((model X.prog X.w).den (.forLoop tg (.ref it) body [] X.env))
        (.ret (fun r => ((match r with | .ok f => (.pure f : Sem Flow) | .error e => .raise e).onRaise (cameBack X.env)).wrap K Jx gd lv) none (gd false) (lv []) c p [] :: fs) s := by
    intro m
    induction m using Nat.strongRecOn with
    | ind m ihm =>
      intro j n i W s σ H hn v I st fr
      rcases turn j m i W.H σ H v with ⟨stop, qn⟩ | ⟨go, Nx, hN, step⟩
      · refine sg_for (I.code (Q := fun b s1 => b = false ∧ Inv (re X W) ip σ H s1) S (gl _) (fun G0 I0 => ?_) fun b s1 G1 h1 hs1 hb1 hz1 _ => ?_)
        · refine wpAny_bind (wpAny_onRaise (wpAny_mono (T.done (re X W) rfl rfl rfl S.calm j ip _ σ H X.xe I0 fr st stop) (fun r s1 h1 => ?_) fun e s1 q => absurd q (S.xe e s1)))
          obtain ⟨rfl, I1⟩ := h1
          exact wpAny_pure ⟨rfl, I1⟩
        · obtain ⟨rfl, I1⟩ := h1
          rw [if_neg Bool.false_ne_true]
          exact sg_through (k n i W _ .next hn ⟨σ, H, I.slps I1 hs1 hb1 hz1, qn⟩)
      · refine sg_for (I.code (Q := fun b s1 => b = true ∧ ∃ (h5 : Heap) (x : V) (H5 : Hp) (σ6 : L2.St) (H6 : Hp), J2.yld j H x H5 ∧ tn (j + 1) h5 ∧ (∀ b ∈ fp, H5 b = none) ∧ Inv (re X W) (ip ++ pinsAt fp h5) σ6 H6 s1 ∧
            tb { D with nx := Nx, ct := Nx, bk := D.nx } i W.H σ6 H6) S (gl _) (fun G0 I0 => ?_) fun b s1 G1 h1 hs1 hb1 hz1 _ => ?_)
        · refine wpAny_bind (wpAny_onRaise (wpAny_mono (T.item (re X W) rfl rfl rfl S.calm j ip _ σ H X.xe I0 fr st go) (fun r s1 h1 => ?_) fun e s1 q => absurd q (S.xe e s1)))
          obtain ⟨u, rfl, h4⟩ := h1
          refine wpAny_bind (thn h4 fun _ s5 h5 => ?_)
          obtain ⟨x, H5, I5, r5, y5, st5, fr5⟩ := h5
          have I5' := I5.pinned (fun b hb => ⟨fr5 b hb, (fr b hb).2⟩) (T.obj _ _ st5)
          refine wpAny_bind (thn ((hg W).run _ s5 σ H5 x u _ I5' r5 (step x H5 y5)) fun _ s6 h6 => wpAny_pure ?_)
          obtain ⟨σ6, H6, I6, q6⟩ := h6
          exact ⟨rfl, s5.heap, x, H5, σ6, H6, y5, st5, fr5, I6, q6⟩
        · obtain ⟨rfl, h5, x, H5, σ6, H6, y5, st5, fr5, I6, q6⟩ := h1
          rw [if_pos rfl]
          have IB : GI X a g W (ip ++ pinsAt fp h5) (iq ++ []) σ6 H6 { s1 with gens := G1 } := by
            refine GI.more (I.slps (I6.pins_of fun p hp => I6.pin p (List.mem_append_right _ (List.mem_append_left _ hp))) hs1 hb1 hz1) (inv_gens I6 (hb1 I6.bare)) (fun p hp => ?_) (fun p hp q hq => ?_) (fun q hq => nomatch hq) fun q hq => nomatch hq
            · rcases (fr p.1 (of_pinsAt hp).1).2.2.2.1 with z | z
              · have z : p.1 ∈ X.ex := z
                rw [S.ex] at z; cases z
              · rw [show (re X W).s_0.heap.objs.size = X.env.locals from cut_size' I.ll] at z
                exact z
            · exact (fr q.1 (of_pinsAt hq).1).2.2.2.2.2 p (List.mem_append_left _ hp)
          rw [List.append_nil] at IB
          refine hb.run A lo a g N n i W _ iq _ _ _ _ id id _ σ6 H6 { D with nx := Nx, ct := Nx, bk := D.nx } S (gl _) hn (fun n2 i2 W2 s2 f hn2 hs2 => ?_) IB q6
          have down : ∀ {σ3 : L2.St} {H3 : Hp}, GI X a g W2 (ip ++ pinsAt fp h5) iq σ3 H3 s2 → GI X a g W2 ip iq σ3 H3 s2 := fun {σ3 H3} I3 => GI.less (pl := pinsAt fp h5) (ql := []) isg (by rw [List.append_nil iq]; exact I3)
          have again : ∀ {σ3 : L2.St} {H3 : Hp}, GI X a g W2 (ip ++ pinsAt fp h5) iq σ3 H3 s2 → Nx i2 W2.H σ3 H3 → Sg (model X.prog X.w) A (Out (gp X A lo a g J) n2 i2 W2) (.forLoop tg (.ref it) body [] X.env) ((model X.prog X.w).den (.forLoop tg (.ref it) body [] X.env))
              (.ret (fun r => ((match r with | .ok f => (.pure f : Sem Flow) | .error e => .raise e).onRaise (cameBack X.env)).wrap K Jx gd lv) none (gd false) (lv []) c p [] :: fs) s2 := fun {σ3 H3} I3 n3 => by
            obtain ⟨m', hm, v3⟩ := hN i2 W2.H σ3 H3 n3
            refine ihm m' hm (j + 1) n2 i2 W2 s2 σ3 H3 hn2 v3 (down I3) (T.keep _ _ _ st5 fun b hb o e => ?_) fun b hb => ?_
            · exact (I3.inv.pin (b, o) (List.mem_append_right _ (List.mem_append_right _ (mem_pinsAt hb e)))).1
            · obtain ⟨o, e, d⟩ := T.obj _ _ st5 b hb
              exact GI.turns (pl := pinsAt fp h5) (ql := []) (p := (b, o)) S (by rw [List.append_nil iq]; exact I3) (mem_pinsAt hb e) (dj b hb)
          cases f with
          | next => obtain ⟨σ3, H3, I3, n3⟩ := hs2; exact sg_again rfl (again I3 n3)
          | cont => obtain ⟨σ3, H3, I3, n3⟩ := hs2; exact sg_again rfl (again I3 n3)
          | brk => obtain ⟨σ3, H3, I3, n3⟩ := hs2; exact sg_leaf (.ok .next) (k n2 i2 W2 s2 .next hn2 ⟨σ3, H3, down I3, n3⟩)
          | ret v => obtain ⟨x3, σ3, H3, I3, r3, n3⟩ := hs2; exact sg_leaf (.ok (.ret v)) (k n2 i2 W2 s2 (.ret v) hn2 ⟨x3, σ3, H3, down I3, r3, n3⟩)
  exact loop m0 0 n i W _ σ H2 hn v0 (I.slps I2 hs2 hb2 hz2) st2 f2
end
end TwZ
/-! a generator that walks a generator; generator defs -/
namespace TwZ
open PySem L2 PySem.Spec PyProof.Rows GenW

section
variable {X : Cx} {J : Gt}
def tGzForG (wg : TIG) (gt : TG) (tb : TGz) : TGz := fun D i Hw σ H => wg σ H fun J2 H1 => ∃ (N : Nat) (Y : Nat → Hp → Nat → Hp → L2.St → Hp → Prop), Y 0 H1 i Hw σ H1 ∧ ∀ j Hs i Hw σ H, Y j Hs i Hw σ H → j < N ∧ J2.pre j Hs H ∧ (∀ H', J2.fin j H H' → D.nx i Hw σ H') ∧
  ∀ x H', J2.yld j H x H' → gt x σ H' fun σ2 H2 => tb { D with nx := Y (j + 1) H', ct := Y (j + 1) H', bk := D.nx } i Hw σ2 H2
theorem gz_forG {k : Nat} {tg iter : Expr} {body : List Stmt} {wg : TIG} {gt : TG} {tb : TGz} {pos : Pos} (hr : Room k X.A) (hi : ∀ W, PIG (re X W) iter wg) (hg : ∀ W, PG (re X W) tg gt) (hb : GZs X J body tb)
    (hs : ∀ x, foldedSetIterable iter X.env x = pure x := by intro _; rfl) : GZ X J (.For tg iter body [] pos) (tGzForG wg gt tb) := by
  refine ⟨fun A lo a g N n i W ip iq c fs K Jx gd lv s σ H D S g0 hn k0 I ht => ?_⟩
  have hI : ∀ G0, (∀ i ∈ ([] : List Nat), G0[i]? = s.gens[i]?) → G0.size = s.gens.size → Inv (re X W) ip σ H { s with gens := G0 } → wpAny (model X.prog X.w) X.A (itOf iter X.env) (PGE (re X W) ip σ _ s.gens.size) X.xe { s with gens := G0 } := fun G0 _ hz I0 =>
    wpAny_bind (thn ((hi W).run ip _ σ H _ I0 ht) fun v s1 ⟨J2, H1, lo2, a2, g2, ob2, c2, e, q1, q2, q3, q4, q5⟩ => wpAny_bind (wpAny_standAt (wpAny_holding (by
      rw [e]
      exact wpAny_pyIter_gen q3.isgen ⟨J2, H1, lo2, a2, g2, ob2, c2, rfl, q1, q2, q3, hz ▸ q4, q5⟩))))
  refine sg_For (I.codeB (B := []) S g0 (fun _ z => nomatch z) (fun _ _ z => nomatch z) hI fun itv s2 G2 h2 hs2 hb2 hz2 hn2 p => ?_) hs
  obtain ⟨J2, H2, lo2, a2, g2, ob2, c2, rfl, I2, Lw, At2, hg2, _, As2, N2, Y, y0, turn⟩ := h2
  have gl := fun (kk : Result → Sem PySem.Fin) => gcz_loop (k := kk) (c2 := .forLoop tg (.ref a2) body [] X.env) (l := lv []) (kp := []) (p := p) g0 rfl rfl
  have isg := I.isgen
  have gg : g < g2 := Nat.lt_of_lt_of_le (Nat.lt_of_lt_of_le I.gl I.gsz) hg2
  have iqg : ∀ q ∈ iq, q.1 < g2 := fun q hq => Nat.lt_of_lt_of_le (gsz_of (I.gen q hq).1) hg2
  have low : ∀ W, Low (re X W) lo2 := fun W => ⟨Nat.le_trans cut_size (Nat.le_of_lt Lw.loc), Lw.loc, fun x c e => by
    have e : X.env.cells.lookup x = some c := e
    rw [S.cel] at e; cases e⟩
  have loop : ∀ (m j n i : Nat) (Hs : Hp) (W : Wk) (s : Shared) (σ : L2.St) (H : Hp) (ob : List (Addr × Obj)) (og : List (Nat × GenState)) (gs : GenState), N2 - j = m → n + i = N → Y j Hs i W.H σ H → GI X a g W ip iq σ H s → At (re X W) ip lo2 a2 g2 ob og gs H s → (slp gs = true ∨ ∃ c, gs = .fresh c) →
      Asl ⟨X.prog, X.w, X.base, X.A.in1, X.stack, lo2, a2, g2, J2⟩ (N2 - j) j Hs ob og gs → (g2 ∈ W.og ∨ W.s.gens.size ≤ g2) → (∀ q ∈ og, q.1 ∈ W.og ∨ W.s.gens.size ≤ q.1) →
      Sg (model X.prog X.w) A (Out (gp X A lo a g J) n i W) (.forLoop tg (.ref a2) body [] X.env) ((model X.prog X.w).den (.forLoop tg (.ref a2) body [] X.env))
        (.ret (fun r => ((match r with | .ok f => (.pure f : Sem Flow) | .error e => .raise e).onRaise (cameBack X.env)).wrap K Jx gd lv) none (gd false) (lv []) c p [] :: fs) s := by
    intro m
    induction m using Nat.strongRecOn with
    | ind m ihm =>
      intro j n i Hs W s σ H ob og gs em hn y I At1 sl1 As1 ng nog'
      obtain ⟨hj, hpre, hfin, step⟩ := turn j Hs i W.H σ H y
      obtain ⟨r, er⟩ : ∃ r, N2 - j = r + 1 := ⟨N2 - j - 1, by omega⟩
      rw [er] at As1
      have hB : ∀ b ∈ g2 :: og.map (·.1), ∀ y, s.gens[b]? = some y → nog y = true := fun b hb y hy => by
        rcases List.mem_cons.mp hb with e | hb
        · subst e
          rw [At1.gen] at hy; cases hy
          exact At1.nog
        · obtain ⟨q, hq, e⟩ := List.mem_map.mp hb
          subst e
          obtain ⟨z1, _, _, z4⟩ := At1.own.ogs q hq
          rw [z1] at hy; cases hy
          exact z4
      have hqB : ∀ q ∈ iq, q.1 ∉ g2 :: og.map (·.1) := fun q hq hb => by
        have l := iqg q hq
        rcases List.mem_cons.mp hb with e | hb
        · exact absurd l (by rw [e]; exact Nat.lt_irrefl _)
        · obtain ⟨q2, hq2, e⟩ := List.mem_map.mp hb
          have l2 : g2 < q2.1 := (At1.own.ogs q2 hq2).2.2.1
          rw [show q2.1 = q.1 from e] at l2
          exact absurd (Nat.lt_trans l l2) (Nat.lt_irrefl _)
      refine sg_for (I.codeB (B := g2 :: og.map (·.1)) S (gl _) hB hqB (Q := fun b s1 => (b = true ∧ ∃ (x : V) (H5 : Hp) (σ6 : L2.St) (H6 : Hp) (ob5 : List (Addr × Obj)) (og5 : List (Nat × GenState)) (gs5 : GenState), J2.yld j H x H5 ∧ Inv (re X W) (ip ++ ob5) σ6 H6 s1 ∧
          At (re X W) ip lo2 a2 g2 ob5 og5 gs5 H6 s1 ∧ slp gs5 = true ∧ (∀ q ∈ og5, q.1 ∈ og.map (·.1) ∨ s.gens.size ≤ q.1) ∧ Asl ⟨X.prog, X.w, X.base, X.A.in1, X.stack, lo2, a2, g2, J2⟩ r (j + 1) H5 ob5 og5 gs5 ∧ tb { D with nx := Y (j + 1) H5, ct := Y (j + 1) H5, bk := D.nx } i W.H σ6 H6) ∨
          (b = false ∧ ∃ H5, J2.fin j H H5 ∧ Inv (re X W) ip σ H5 s1)) (fun G0 hG0 hz0 I0 => ?_) fun b s1 G1 h1 hs1 hb1 hz1 hn1 => ?_)
      · have At0 : At (re X W) ip lo2 a2 g2 ob og gs H { s with gens := G0 } := ⟨⟨At1.own.isgen, At1.own.obs, fun q hq => by
          obtain ⟨z1, z2⟩ := At1.own.ogs q hq
          exact ⟨(hG0 q.1 (List.mem_cons_of_mem _ (List.mem_map.mpr ⟨q, hq, rfl⟩))).trans z1, z2⟩⟩, At1.fp, (hG0 g2 List.mem_cons_self).trans At1.gen, At1.nog⟩
        refine wpAny_bind (wpAny_onRaise (wpAny_mono (next_z (X := re X W) (E := X.xe) I0 rfl S.calm hr.depth (low W) At0 As1 sl1 hpre) (fun r1 s4 h4 => ?_) fun e s1 q => absurd q (S.xe e s1)))
        rcases h4 with ⟨u, x, H4, ob4, og4, gs4, rfl, rv, y4, I4, At4, sl4, ns4, As4⟩ | ⟨rfl, H4, f4, I4⟩
        · refine wpAny_bind (go_g At4 (wpAny_bind ?_))
          have I5 := At4.pin I4
          refine beside (s := _) ((hg W).run _ _ σ H4 x u _ (inv_gens I5 (dulls_bare I5.bare)) rv (step x H4 y4)) (fun _ s6 G6 ⟨σ6, H6, I6, q6⟩ hs6 hb6 _ _ => wpAny_pure (.inl ⟨rfl, x, H4, σ6, H6, ob4, og4, gs4, y4, inv_gens I6 (hb6 I6.bare), At4.on sl4 I6 hs6, sl4, fun q hq => ?_, As4, q6⟩)) fun e s1 _ q => absurd q (S.xe e s1)
          rcases ns4 q hq with z | z
          · exact .inl z
          · exact .inr (by rw [← hz0]; exact z)
        · exact wpAny_pure (.inr ⟨rfl, H4, f4, I4⟩)
      · rcases h1 with ⟨rfl, x, H5, σ6, H6, ob5, og5, gs5, y5, I6, At6, sl6, ns6, As6, q6⟩ | ⟨rfl, H5, f5, I6⟩
        · rw [if_pos rfl]
          have m1 : ∀ q ∈ (g2, gs5) :: og5, q.1 ∈ g2 :: og.map (·.1) ∨ s.gens.size ≤ q.1 := fun q hq => by
            rcases List.mem_cons.mp hq with e | hq
            · rw [e]; exact .inl List.mem_cons_self
            · rcases ns6 q hq with z | z
              · exact .inl (List.mem_cons_of_mem _ z)
              · exact .inr z
          have m2 : ∀ q ∈ (g2, gs5) :: og5, s1.gens[q.1]? = some q.2 ∧ slp q.2 = true ∧ g < q.1 ∧ nog q.2 = true := fun q hq => by
            rcases List.mem_cons.mp hq with e | hq
            · rw [e]; exact ⟨At6.gen, sl6, gg, At6.nog⟩
            · obtain ⟨z1, z2, z3, z4⟩ := At6.own.ogs q hq
              exact ⟨z1, z2, Nat.lt_trans gg z3, z4⟩
          have m3 : ∀ q ∈ (g2, gs5) :: og5, q.1 ∈ W.og ∨ W.s.gens.size ≤ q.1 := fun q hq => by
            rcases List.mem_cons.mp hq with e | hq
            · rw [e]; exact ng
            · rcases ns6 q hq with z | z
              · obtain ⟨q2, hq2, e⟩ := List.mem_map.mp z
                rw [← e]
                exact nog' q2 hq2
              · exact .inr (Nat.le_trans I.gsz z)
          have ipI : Inv (re X W) ip σ6 H6 s1 := I6.pins_of fun p hp => I6.pin p (List.mem_append_right _ (List.mem_append_left _ hp))
          have IB : GI X a g W (ip ++ ob5) (iq ++ ((g2, gs5) :: og5)) σ6 H6 { s1 with gens := G1 } := GI.more (I.slpsB ipI hs1 hb1 hz1) (inv_gens I6 (hb1 I6.bare))
            (fun p hp => Nat.le_trans (Nat.le_of_lt Lw.loc) (At6.own.obs p hp).2.2.1) (fun p hp q hq => (At6.fp q hq).2.2.2.2.2 p (List.mem_append_left _ hp)) (fun q hq => ⟨(hn1 q.1 (m1 q hq)).trans (m2 q hq).1, (m2 q hq).2⟩) m3
          have dj : ∀ p ∈ ob5, ∀ q ∈ ip, q.1 ≠ p.1 := fun p hp q hq => (At6.fp p hp).2.2.2.2.2 q (List.mem_append_right _ hq)
          refine hb.run A lo a g N n i W _ _ _ _ _ _ id id _ σ6 H6 { D with nx := Y (j + 1) H5, ct := Y (j + 1) H5, bk := D.nx } S (gl _) hn (fun n2 i2 W2 s2 f hn2 hs2 => ?_) IB q6
          have again : ∀ {σ3 : L2.St} {H3 : Hp}, GI X a g W2 (ip ++ ob5) (iq ++ ((g2, gs5) :: og5)) σ3 H3 s2 → Y (j + 1) H5 i2 W2.H σ3 H3 → Sg (model X.prog X.w) A (Out (gp X A lo a g J) n2 i2 W2) (.forLoop tg (.ref a2) body [] X.env) ((model X.prog X.w).den (.forLoop tg (.ref a2) body [] X.env))
              (.ret (fun r => ((match r with | .ok f => (.pure f : Sem Flow) | .error e => .raise e).onRaise (cameBack X.env)).wrap K Jx gd lv) none (gd false) (lv []) c p [] :: fs) s2 := fun {σ3 H3} I3 n3 => by
            have g3 := I3.gen (g2, gs5) (List.mem_append_right _ List.mem_cons_self)
            refine ihm (N2 - (j + 1)) (by omega) (j + 1) n2 i2 H5 W2 s2 σ3 H3 ob5 og5 gs5 rfl hn2 n3 (I3.less isg) ⟨⟨At6.own.isgen, fun p hp => ?_, fun q hq => ?_⟩, fun p hp => I3.turns S hp (dj p hp), g3.1, At6.nog⟩ (.inl sl6) (by rw [show N2 - (j + 1) = r by omega]; exact As6)
              (I3.new (g2, gs5) (List.mem_append_right _ List.mem_cons_self)) fun q hq => I3.new q (List.mem_append_right _ (List.mem_cons_of_mem _ hq))
            · obtain ⟨z1, z2, _⟩ := I3.inv.pin p (List.mem_append_right _ (List.mem_append_right _ hp))
              exact ⟨z1, z2, (At6.own.obs p hp).2.2⟩
            · obtain ⟨z1, z2, _, z4⟩ := I3.gen q (List.mem_append_right _ (List.mem_cons_of_mem _ hq))
              exact ⟨z1, z2, (At6.own.ogs q hq).2.2.1, z4⟩
          cases f with
          | next => obtain ⟨σ3, H3, I3, n3⟩ := hs2; exact sg_again rfl (again I3 n3)
          | cont => obtain ⟨σ3, H3, I3, n3⟩ := hs2; exact sg_again rfl (again I3 n3)
          | brk => obtain ⟨σ3, H3, I3, n3⟩ := hs2; exact sg_leaf (.ok .next) (k0 n2 i2 W2 s2 .next hn2 ⟨σ3, H3, I3.less isg, n3⟩)
          | ret v => obtain ⟨x3, σ3, H3, I3, r3, n3⟩ := hs2; exact sg_leaf (.ok (.ret v)) (k0 n2 i2 W2 s2 (.ret v) hn2 ⟨x3, σ3, H3, I3.less isg, r3, n3⟩)
        · rw [if_neg Bool.false_ne_true]
          exact sg_through (k0 n i W _ .next hn ⟨σ, H5, I.slpsB I6 hs1 hb1 hz1, hfin H5 f5⟩)
  have At2' : At (re X W) ip lo2 a2 g2 ob2 [] (.fresh c2) H2 { s2 with gens := G2 } := ⟨⟨At2.own.isgen, At2.own.obs, fun q hq => nomatch hq⟩, At2.fp, (hn2 g2 (.inr hg2)).trans At2.gen, rfl⟩
  exact loop _ 0 n i H2 W _ σ H2 ob2 [] _ rfl hn y0 (I.slpsB I2 hs2 hb2 hz2) At2' (.inr ⟨c2, rfl⟩) (As2 _) (.inr (Nat.le_trans I.gsz hg2)) fun q hq => nomatch hq
end
end TwZ
/-! generator defs; calls of them -/
namespace TwZ
open PySem L2 PySem.Spec PyProof.Rows GenW

/-- a generator def's promise: the arguments, the heap, what is wanted of what it tells -/
abbrev SpZ := List V → Hp → (Gt → Hp → Prop) → Prop
/-- what a call gives: a generator that has not begun -/
def GMz (P : Program) (w : World) (base : Heap) (k : Nat) (outer : List Env) (H : Hp) (s : Shared) (R : Gt → Hp → Prop) (u : Value) (s' : Shared) : Prop :=
  ∃ (J : Gt) (a : Addr) (g : Nat) (ob : List (Addr × Obj)) (c : Code), u = .ref a ∧ s'.os = s.os ∧ AllBare s'.gens ∧ (∀ b o, s.heap.get? b = some o → s'.heap.get? b = some o) ∧ s.gens.size ≤ g ∧ s'.gens[g]? = some (.fresh c) ∧ Own s.heap.objs.size a g H s' ob [] ∧
    (∀ n Aw, Room k Aw → Aw.frames = some outer → Asl ⟨P, w, base, Aw, outer, s.heap.objs.size, a, g, J⟩ n 0 H ob [] (.fresh c)) ∧ R J H
structure GFz (P : Program) (w : World) (K : PySem.W.Frag) (mg : Str → Option Value) (base : Heap) (k : Nat) (f : Addr) (fd : FuncData) (ps : List Str) (sp : SpZ) : Prop where
  len : ∀ vs H R, sp vs H R → vs.length = ps.length
  run : ∀ (A : Around) (outer : List Env) (s : Shared) (H : Hp) (args : Args) (us : List Value) (vs : List V) (R : Gt → Hp → Prop), Room k A → Env0 P w K mg base A outer s H → BindsTo s fd args (ps.zip us) → Vals vs us → sp vs H R →
    codeAny (model P w) A (.call (.ref f) args) (fun r s' => match r with | .ok (.ret u) => GMz P w base k outer H s R u s' | _ => False) s
/-- the context of a generator def's body -/
abbrev gcz (P : Program) (w : World) (K : PySem.W.Frag) (mg : Str → Option Value) (base : Heap) (N : List Str) (qual : Str) (scope : Scope) (f : Addr) (cd : Value) (A : Around) (outer : List Env) (s : Shared) (H : Hp) : Cx :=
  (cxOf (fun _ _ _ _ _ _ => False) P w K mg base N qual scope f cd A outer s H fun _ _ _ => False).nox
theorem gfz_of {P : Program} {w : World} {K : PySem.W.Frag} {mg : Str → Option Value} {base : Heap} {k : Nat} {f : Addr} {name qual : Str} {params : Arguments} {body : List Stmt} {scope : Scope} {dV kV doc pm cdv ct oc : Value} {an od : Option Addr}
    {osl : Array (Option Value)} {N ps : List Str} {sp : SpZ} (lk : K.lookup f = some ⟨oc, od, .func (PySem.W.fnOf name qual params body scope dV kV doc pm an cdv ct), osl⟩) (hcd : PySem.W.codeIn K cdv qual = true) (S : GScope N ps scope)
    (hcell : ∀ n, cellsFrom n scope.names [] = []) (hnc : ∀ y ∈ scope.names, y.2 ≠ .cell) (len : ∀ vs H R, sp vs H R → vs.length = ps.length)
    (hbody : ∀ (outer : List Env) (s : Shared) (H : Hp) (vs : List V) (R : Gt → Hp → Prop), sp vs H R → ∃ J : Gt, R J H ∧ ∀ A : Around, Room k (A.deeper (envOfC qual scope s.heap.objs.size f cdv)) →
      ∃ t, GZs (gcz P w K mg base N qual scope f cdv A outer s H) J body t ∧ ∀ H2, J.pre 0 H H2 → t { nx := fun i Hw _ H' => J.fin i Hw H', rt := fun i Hw v H' => v = .non ∧ J.fin i Hw H' } 0 H2 (start N vs) H2) :
    GFz P w K mg base (k + 1) f (PySem.W.fnOf name qual params body scope dV kV doc pm an cdv ct) ps sp := by
  refine ⟨len, fun A outer s H args us vs R hr e0 hb r hsp => ?_⟩
  have hl := len _ _ _ hsp
  have KX : K.In s.heap := e0.mod.kin.keeps fun b o e => (e0.bs b o e).1
  have lim : s.heap.NoLimit := e0.mod.nolimit.keeps fun b o e => (e0.bs b o e).1
  have hkind : ∀ y ∈ ps.zip us, scope.names.lookup y.1 = some .local ∨ (scope.names.lookup y.1 = some .cell ∧ ((cellsFrom (s.heap.objs.size + 1) scope.names []).lookup y.1).isSome = true) := fun ⟨n, v⟩ hy => by
    rcases S.par n (List.of_mem_zip hy).1 with q | q
    · exact .inl q
    · exact .inr ⟨q, PySem.W.cellsFrom_some _ _ _ (.inl q)⟩
  refine codeAny_call_generator hr.depth (KX _ _ lk) rfl S.co S.gen rfl (PySem.W.codeRec_of KX hcd) (hb _ _ _ _ ?_)
  refine wpAny_newFunctionEnv_cells S.kind hkind fun env he s1 x => ?_
  subst he
  have lim1 : s1.heap.NoLimit := lim.keeps x.toInCall.keep
  refine ⟨lim1, ?_⟩
  obtain ⟨h1, tk, es1, hk1⟩ := x.done
  have os1 : s1.os = s.os := by rw [es1]
  have gen1 : s1.gens = s.gens := by rw [es1]
  have lt1 : s.heap.objs.size < s1.heap.objs.size := x.toInCall.ns.lt
  have kp1 : ∀ b o, s.heap.get? b = some o → s1.heap.get? b = some o := x.toInCall.keep
  have I1 : Inv (gcxOf P w K mg base N qual scope f cdv A outer s H (fun _ _ _ => False) []) [] (start N vs) H s1 := inv_startG S hr.hd e0 hl r x
  have main : ∀ (go : Obj) (nm qn : Value) (tk2 : Nat), go.cls = .type "generator" → go.data = .fields #[.int s1.gens.size 0, nm, qn] → go.slots = #[] → (∀ h : Heap, (h.push go).get? h.objs.size = some go) →
      GMz P w base (k + 1) outer H s R (.ref s1.heap.objs.size) { s1 with gens := s1.gens.push (.fresh (.func body (envOfC qual scope s.heap.objs.size f cdv))), toks := tk2, heap := s1.heap.push go } := by
    intro go nm qn tk2 hgc hgd hgs hgp
    obtain ⟨J, hR, hJ⟩ := hbody outer s H vs R hsp
    obtain ⟨m, ⟨oL, es, ep, hoL, d1, d2, d3⟩, hlk⟩ := id I1.loc
    have hoL : s1.heap.get? s.heap.objs.size = some oL := hoL
    have kpp : ∀ b o, s1.heap.get? b = some o → (s1.heap.push go).get? b = some o := fun b o e => Heap.get?_push_of_some _ e
    have nocell : ∀ x : Str, ∀ c, (cellsFrom (s.heap.objs.size + 1) scope.names []).lookup x = some c → False := fun x c h => by rw [hcell] at h; cases h
    have gcell : ∀ v, go.data ≠ .cell v := fun v q => by rw [hgd] at q; cases q
    have lcell : ∀ v, oL.data ≠ .cell v := fun v q => by rw [d1] at q; cases q
    have young : H s1.heap.objs.size = none := I1.hok.fresh (Nat.le_refl _)
    refine ⟨J, s1.heap.objs.size, s1.gens.size, [(s.heap.objs.size, oL), (s1.heap.objs.size, go)], _, rfl, os1, AllBare.push (by rw [gen1]; exact e0.bare) rfl, fun b o e => kpp b o (kp1 b o e), by rw [gen1]; exact Nat.le_refl _, Array.getElem?_push_size .., ⟨⟨go, nm, qn, by simp, hgc, hgd, hgs⟩, fun p hp => ?_, fun q hq => nomatch hq⟩, fun n Aw hrw hfr => ?_, hR⟩
    · rcases List.mem_cons.mp hp with e | hp
      · rw [e]; exact ⟨kpp _ _ hoL, I1.free, Nat.le_refl _, lcell⟩
      · rw [List.mem_singleton.mp hp]
        exact ⟨hgp _, young, Nat.le_of_lt lt1, gcell⟩
    · obtain ⟨t, ht, hq⟩ := hJ Aw (hrw.deeper _)
      cases n with
      | zero => trivial
      | succ n =>
        refine asl_succ.mpr fun H2 pn s2 wk hp => ?_
        have St : Stc (gcz P w K mg base N qual scope f cdv Aw outer s H) s.heap.objs.size := ⟨e0.mod, S.kind, rfl, rfl, hcell _, fun x h => by
          have h : scope.names.lookup x = some .cell ∨ scope.names.lookup x = some .free := h
          rcases h with h | h
          · exact hnc _ (PySem.mem_of_lookup h) rfl
          · exact S.nofree _ (PySem.mem_of_lookup h) rfl, hrw.hd, Around.frames_deeper hfr, rfl, rfl, rfl, e0.bsz, Nat.le_refl _, rfl, fun _ _ z => z⟩
        have Rs : Rst (gcz P w K mg base N qual scope f cdv Aw outer s H) s1.heap.objs.size s1.gens.size [(s1.heap.objs.size, go)] [] (start N vs) oL := by
          refine ⟨⟨m, es, ep, d1, d2, d3, fun i y v e1 e2 e3 => ?_⟩, I1.len, fun p hp => ?_, fun b hb => ?_, ⟨go, nm, qn, List.mem_singleton.mpr rfl, hgc, hgd, hgs⟩, fun p hp => ?_, fun q hq => nomatch hq⟩
          · obtain ⟨u, ru, lk⟩ := hlk i y v e1 e2 e3
            rcases lk with ⟨l1, l2⟩ | ⟨_, c, h, _⟩
            · exact ⟨u, ru, l1, l2⟩
            · exact (nocell y c h).elim
          · rw [List.mem_singleton.mp hp]
            refine ⟨Nat.ne_of_gt lt1, ?_, gcell⟩
            exact I1.nofs (Nat.le_refl _)
          · obtain ⟨_, o, ho, _⟩ := I1.ok.funs.mem hb
            exact Heap.lt_size ho
          · rw [List.mem_singleton.mp hp]
            exact Nat.le_of_lt lt1
        have I2 := Rs.woken (W2 := ⟨H2, s2, pn, []⟩) St wk rfl
        refine sg_func ?_
        refine ht.run Aw s.heap.objs.size s1.heap.objs.size s1.gens.size (n + 0) n 0 ⟨H2, s2, pn, []⟩ _ [] _ [] _ _ id id s2 (start N vs) H2 _ St ⟨over_func, rfl, rfl, rfl⟩ rfl (fun n2 i2 W2 s3 fl hn2 hs => ?_) I2 (hq H2 hp)
        cases fl with
        | next =>
          obtain ⟨σ3, H3, I3, hf⟩ := hs
          exact sg_end (.ok (.ret .none)) ⟨.inl rfl, H3, hf, GI.kpt (X := gcz P w K mg base N qual scope f cdv Aw outer s H) St I3⟩
        | brk => obtain ⟨_, _, _, z⟩ := hs; exact z.elim
        | cont => obtain ⟨_, _, _, z⟩ := hs; exact z.elim
        | ret u =>
          obtain ⟨v, σ3, H3, I3, rv, ev, hf⟩ := hs
          subst ev
          have eu : u = Value.none := rv
          subst eu
          exact sg_end (.ok (.ret .none)) ⟨.inl rfl, H3, hf, GI.kpt (X := gcz P w K mg base N qual scope f cdv Aw outer s H) St I3⟩
  exact main _ _ _ _ rfl rfl rfl fun h => Heap.get?_push_size _ rfl

/-! ### calls -/
section
variable {X : Cx} {k : Nat} {f : Addr} {fd : FuncData} {ps : List Str} {sp : SpZ} {dvs : List V} {ds : List Value} {x : Str} {p pos : Pos} {e : Expr} {es : List Expr} {ta : TA}
theorem pge_of {pins : List (Addr × Obj)} {σ : L2.St} {H : Hp} {s s' : Shared} {R : Gt → Hp → Prop} {u : Value} {n0 : Nat} (I : Inv X pins σ H s) (hr : Room (k + 1) X.A) (hn : n0 ≤ s.gens.size) (h : GMz X.prog X.w X.base k X.stack H s R u s') : PGE X pins σ R n0 u s' := by
  obtain ⟨J, a, g, ob, c, rfl, os, bare, kp, hg, hgs, ow, sl, hR⟩ := h
  have I2 : Inv X pins σ H s' := I.call' (ch := []) os (Un.kept kp) (I.hok.kept kp) bare fun b z => absurd z (by simp)
  refine ⟨J, H, s.heap.objs.size, a, g, ob, c, rfl, I2, ⟨I.sz, I.lt, fun x c e => ?_⟩, ⟨ow, fun p hp => ?_, hgs, rfl⟩, Nat.le_trans hn hg, fun b hb => I.hok.fresh hb, fun n => sl n X.A.in1 hr.in1 I.ok.frames, hR⟩
  · obtain ⟨v, z⟩ := I.cell x c e
    exact z.lt
  · obtain ⟨_, z2, z3, _⟩ := ow.obs p hp
    exact I.fpOk z3 z2
def tCallZ (sp : SpZ) (dvs : List V) (t : TA) : TIG := fun σ H R => t σ H fun vs H1 => sp (vs ++ dvs) H1 R
theorem pig_call (F : GFz X.prog X.w X.K X.mg X.base k f fd ps sp) (hr : Room (k + 1) X.A) (hg : Gl X x) (hm : X.mg x = some (.ref f)) (hk : PySem.W.keepIn X.K (.ref f) = true) (hb : Binds X.K fd ps ds) (hd : Vals dvs ds)
    (ha : PA X (e :: es) ta) (hdb : (x == ("__debug__" : Str)) = false := by decide) (he : starEach (e :: es) X.env = (false, eval e X.env) :: starEach es X.env := by rfl) (hpl : (backTo pos (starEach es X.env)).any (·.1) = false := by rfl) :
    PIG X (.Call (.Name x p) (e :: es) [] pos) (tCallZ sp dvs ta) := by
  refine ⟨fun pins s σ H R I h => ?_⟩
  refine wpAny_Call_Name_kw (ld_glob I hg hm ?_ hdb)
  refine PySem.W.callWith_K (h₀ := X.base) I.ok.mod.kin hk (wpAny_gsz (Nat.le_refl s.gens.size) (wpAny_mono (ha.run pos pins s σ H _ I h) (fun us s1 ⟨vs, H1, I1, r, q⟩ hz => ⟨I1.kIn, ?_⟩) fun _ _ x _ => x)) he hpl
  have r2 : Vals (vs ++ dvs) (us ++ ds) := r.append hd
  have hl2 : (us ++ ds).length = ps.length := by rw [← r2.length]; exact F.len _ _ _ q
  refine wpAny_call (codeAny_mono (F.run X.A X.stack s1 H1 ⟨us, []⟩ (us ++ ds) (vs ++ dvs) _ (hr.mono (Nat.le_succ k)) I1.env0 (hb s1 us I1.kIn hl2) r2 q) fun r s' hq => ?_)
  cases r with
  | error e => exact hq.elim
  | ok fl =>
    cases fl with
    | ret u => exact pge_of I1 hr hz hq
    | next => exact hq.elim
    | brk => exact hq.elim
    | cont => exact hq.elim
end
end TwZ
/-! generator defs as the joins print them -/
namespace TwZ
open PySem L2 PySem.Spec PyProof.Rows GenW

theorem gzs_one {X : Cx} {J : Gt} {st : Stmt} {t : TGz} (h : GZ X J st t) : GZs X J [st] t := gzs_cons h gzs_nil
/-- a generator def that is called by its arguments -/
def GFr (P : Program) (w : World) (K : PySem.W.Frag) (mg : Str → Option Value) (base : Heap) (k : Nat) (f : Addr) (sp : SpZ) : Prop :=
  ∀ (A : Around) (outer : List Env) (s : Shared) (H : Hp) (us : List Value) (vs : List V) (R : Gt → Hp → Prop), Room k A → Env0 P w K mg base A outer s H → Vals vs us → sp vs H R →
    codeAny (model P w) A (.call (.ref f) ⟨us, []⟩) (fun r s' => match r with | .ok (.ret u) => GMz P w base k outer H s R u s' | _ => False) s
theorem gfr_of {P : Program} {w : World} {K : PySem.W.Frag} {mg : Str → Option Value} {base : Heap} {k : Nat} {f : Addr} {x qual : Str} {params : Arguments} {body : List Stmt} {scope : Scope} {dvs : List V} {kws : List (Str × V)} {fd : FuncData}
    {N ps : List Str} {sp : SpZ} (F : FunD K x qual params body scope dvs kws f fd) (S : GScope N ps scope) (hcell : ∀ n, cellsFrom n scope.names [] = []) (hnc : ∀ y ∈ scope.names, y.2 ≠ .cell) (hb : Binds K fd ps []) (len : ∀ vs H R, sp vs H R → vs.length = ps.length)
    (hbody : ∀ (cdv : Value) (outer : List Env) (s : Shared) (H : Hp) (vs : List V) (R : Gt → Hp → Prop), sp vs H R → ∃ J : Gt, R J H ∧ ∀ A : Around, Room k (A.deeper (envOfC qual scope s.heap.objs.size f cdv)) →
      ∃ t, GZs (gcz P w K mg base N qual scope f cdv A outer s H) J body t ∧ ∀ H2, J.pre 0 H H2 → t { nx := fun i Hw _ H' => J.fin i Hw H', rt := fun i Hw v H' => v = .non ∧ J.fin i Hw H' } 0 H2 (start N vs) H2) :
    GFr P w K mg base (k + 1) f sp := by
  obtain ⟨oc, od, dV, kV, doc, pm, an, cdv, ct, osl, rfl, lk, hcd, _, _⟩ := F.ex
  intro A outer s H us vs R hr e0 rv h
  have KX : K.In s.heap := e0.mod.kin.keeps fun b o e => (e0.bs b o e).1
  have hl : us.length = ps.length := rv.length.symm.trans (len _ _ _ h)
  have hbt := hb s us KX (by rw [List.append_nil]; exact hl)
  rw [List.append_nil] at hbt
  exact (gfz_of lk hcd S hcell hnc len fun outer s H vs R h => hbody cdv outer s H vs R h).run A outer s H ⟨us, []⟩ us vs R hr e0 hbt rv h
theorem GFr.mono {P : Program} {w : World} {K : PySem.W.Frag} {mg : Str → Option Value} {base : Heap} {j k : Nat} {f : Addr} {sp : SpZ} (F : GFr P w K mg base j f sp) (h : j ≤ k) : GFr P w K mg base k f sp := fun A outer s H us vs R hr e0 rv hs =>
  codeAny_mono (F A outer s H us vs R (hr.mono h) e0 rv hs) fun r s' z => by
    cases r with
    | error e => exact z
    | ok fl =>
      cases fl with
      | ret u =>
        obtain ⟨J, a, g, ob, c, q1, q2, q3, q4, q5, q6, q7, q8, q9⟩ := z
        exact ⟨J, a, g, ob, c, q1, q2, q3, q4, q5, q6, q7, fun n Aw hw => q8 n Aw (hw.mono h), q9⟩
      | next => exact z
      | brk => exact z
      | cont => exact z
section
variable {X : Cx} {k : Nat} {f : Addr} {sp : SpZ} {x : Str} {p pos : Pos} {e : Expr} {es : List Expr} {ta : TA}
def tGenF (sp : SpZ) (t : TA) : TIG := fun σ H R => t σ H fun vs H1 => sp vs H1 R
theorem pig_callR (F : GFr X.prog X.w X.K X.mg X.base k f sp) (hr : Room (k + 1) X.A) (hg : Gl X x) (hm : X.mg x = some (.ref f)) (hk : PySem.W.keepIn X.K (.ref f) = true)
    (ha : PA X (e :: es) ta) (hdb : (x == ("__debug__" : Str)) = false := by decide) (he : starEach (e :: es) X.env = (false, eval e X.env) :: starEach es X.env := by rfl) (hpl : (backTo pos (starEach es X.env)).any (·.1) = false := by rfl) :
    PIG X (.Call (.Name x p) (e :: es) [] pos) (tGenF sp ta) := by
  refine ⟨fun pins s σ H R I h => ?_⟩
  refine wpAny_Call_Name_kw (ld_glob I hg hm ?_ hdb)
  refine PySem.W.callWith_K (h₀ := X.base) I.ok.mod.kin hk (wpAny_gsz (Nat.le_refl s.gens.size) (wpAny_mono (ha.run pos pins s σ H _ I h) (fun us s1 ⟨vs, H1, I1, r, q⟩ hz => ⟨I1.kIn, ?_⟩) fun _ _ x _ => x)) he hpl
  refine wpAny_call (codeAny_mono (F X.A X.stack s1 H1 us vs _ (hr.mono (Nat.le_succ k)) I1.env0 r q) fun r s' hq => ?_)
  cases r with
  | error e => exact hq.elim
  | ok fl =>
    cases fl with
    | ret u => exact pge_of I1 hr hz hq
    | next => exact hq.elim
    | brk => exact hq.elim
    | cont => exact hq.elim
theorem pig_callR0 (F : GFr X.prog X.w X.K X.mg X.base k f sp) (hr : Room (k + 1) X.A) (hg : Gl X x) (hm : X.mg x = some (.ref f)) (hk : PySem.W.keepIn X.K (.ref f) = true) (hdb : (x == ("__debug__" : Str)) = false := by decide) :
    PIG X (.Call (.Name x p) [] [] pos) (tGenF sp tNil) := by
  refine ⟨fun pins s σ H R I h => ?_⟩
  refine wpAny_Call_Name_kw (ld_glob I hg hm ?_ hdb)
  refine PySem.W.callWith_K0 I.kIn hk ?_
  refine wpAny_call (codeAny_mono (F X.A X.stack s H [] [] _ (hr.mono (Nat.le_succ k)) I.env0 .nil h) fun r s' hq => ?_)
  cases r with
  | error e => exact hq.elim
  | ok fl =>
    cases fl with
    | ret u => exact pge_of I hr (Nat.le_refl _) hq
    | next => exact hq.elim
    | brk => exact hq.elim
    | cont => exact hq.elim
end
end TwZ
namespace TwZ
open PySem L2
/-- things that are never written while a generator sleeps -/
def frm : HO → Bool
  | .tup _ => true
  | .ins _ _ _ => true
  | .own _ => true
  | .met _ _ => true
  | .rng _ _ => true
  | .frz _ _ => true
  | _ => false
def Frm (H H' : Hp) : Prop := ∀ b u, H b = some u → frm u = true → H' b = some u
theorem Frm.refl (H : Hp) : Frm H H := fun _ _ h _ => h
theorem Frm.trans {H H1 H2 : Hp} (a : Frm H H1) (b : Frm H1 H2) : Frm H H2 := fun c u h z => b c u (a c u h z) z
/-- a thing that may be written, written -/
theorem Frm.upd {H H1 : Hp} {p : Addr} {o u : HO} (a : Frm H H1) (hp : H1 p = some o) (h : frm o = false) : Frm H (upd H1 p u) := fun b v e z => by
  rw [upd_ne (fun y => by subst y; rw [a _ _ e z] at hp; cases hp; rw [h] at z; cases z)]
  exact a b v e z
theorem Frm.new {H H1 : Hp} {p : Addr} {u : HO} (a : Frm H H1) (hp : H1 p = none) : Frm H (L2.upd H1 p u) := fun b v e z => by
  rw [upd_ne (fun y => by subst y; rw [a _ _ e z] at hp; cases hp)]
  exact a b v e z
/-- a loop over a range in a generator -/
theorem gzfor_range {lo : Int} {n : Nat} {gt : TG} {tb : TGz} {D : GEz} {i : Nat} {Hw : Hp} {σ : L2.St} {H : Hp} (Pv : Nat → Nat → Hp → L2.St → Hp → Prop) (h0 : Pv 0 i Hw σ H)
    (hs : ∀ j i Hw σ H, j < n → Pv j i Hw σ H → gt (.int (lo + (j : Nat))) σ H fun σ2 H2 => tb { D with nx := Pv (j + 1), ct := Pv (j + 1), bk := D.nx } i Hw σ2 H2) (hd : ∀ i Hw σ H, Pv n i Hw σ H → D.nx i Hw σ H) :
    ∃ Y : Nat → Nat → Nat → Hp → L2.St → Hp → Prop, (∃ m, Y 0 m i Hw σ H) ∧ ∀ j m i Hw σ H, Y j m i Hw σ H →
      ((Itr lo n).stop j H ∧ D.nx i Hw σ H) ∨ ((Itr lo n).go j H ∧ ∃ Nx : Nat → Hp → L2.St → Hp → Prop, (∀ i' Hw' σ' H', Nx i' Hw' σ' H' → ∃ m', m' < m ∧ Y (j + 1) m' i' Hw' σ' H') ∧ ∀ x H', (Itr lo n).yld j H x H' → gt x σ H' fun σ2 H2 => tb { D with nx := Nx, ct := Nx, bk := D.nx } i Hw σ2 H2) := by
  refine ⟨fun j m i Hw σ H => m = n - j ∧ j ≤ n ∧ Pv j i Hw σ H, ⟨n, by simp, Nat.zero_le _, h0⟩, ?_⟩
  rintro j m i Hw σ H ⟨rfl, hj, hp⟩
  by_cases h : j < n
  · refine .inr ⟨h, Pv (j + 1), fun i' Hw' σ' H' z => ⟨n - (j + 1), by omega, rfl, h, z⟩, ?_⟩
    rintro x H' ⟨rfl, rfl⟩
    exact hs j i Hw σ H' h hp
  · have e : j = n := by omega
    subst e
    exact .inl ⟨Nat.le_refl _, hd i Hw σ H hp⟩
def GzR (n : Nat) (gt : TG) (tb : TGz) (D : GEz) (i : Nat) (Hw : Hp) (σ : L2.St) (H : Hp) : Prop := ∃ Y : Nat → Nat → Nat → Hp → L2.St → Hp → Prop, (∃ m, Y 0 m i Hw σ H) ∧ ∀ j m i Hw σ H, Y j m i Hw σ H →
      ((Itr 0 n).stop j H ∧ D.nx i Hw σ H) ∨ ((Itr 0 n).go j H ∧ ∃ Nx : Nat → Hp → L2.St → Hp → Prop, (∀ i' Hw' σ' H', Nx i' Hw' σ' H' → ∃ m', m' < m ∧ Y (j + 1) m' i' Hw' σ' H') ∧ ∀ x H', (Itr 0 n).yld j H x H' → gt x σ H' fun σ2 H2 => tb { D with nx := Nx, ct := Nx, bk := D.nx } i Hw σ2 H2)
theorem gzr_eq {ta : TA} {gt : TG} {tb : TGz} {D : GEz} {i : Nat} {Hw : Hp} {σ : L2.St} {H : Hp} : tGzFor (iRng1 ta) gt tb D i Hw σ H = ta σ H (fun vs H1 => ∃ j : Int, vs = [.int j] ∧ -(2 ^ 62) ≤ j ∧ j < 2 ^ 62 ∧ GzR j.toNat gt tb D i Hw σ H1) := rfl
theorem gzR {n : Nat} {gt : TG} {tb : TGz} {D : GEz} {i : Nat} {Hw : Hp} {σ : L2.St} {H : Hp} (Pv : Nat → Nat → Hp → L2.St → Hp → Prop) (h0 : Pv 0 i Hw σ H)
    (hs : ∀ j i Hw σ H, j < n → Pv j i Hw σ H → gt (.int (0 + (j : Nat))) σ H fun σ2 H2 => tb { D with nx := Pv (j + 1), ct := Pv (j + 1), bk := D.nx } i Hw σ2 H2) (hd : ∀ i Hw σ H, Pv n i Hw σ H → D.nx i Hw σ H) : GzR n gt tb D i Hw σ H := gzfor_range Pv h0 hs hd
theorem seq_pl {a : TS} {u : TGz} {D : GEz} {i : Nat} {Hw : Hp} {σ : L2.St} {H : Hp} : tGzSeq (tPl a) u D i Hw σ H = a { nx := fun σ2 H2 => u D i Hw σ2 H2, rt := D.rt i Hw, bk := D.bk i Hw, ct := D.ct i Hw } σ H := rfl
theorem seq_yld {J : Gt} {te : TE} {u : TGz} {D : GEz} {i : Nat} {Hw : Hp} {σ : L2.St} {H : Hp} : tGzSeq (tGzYield J te) u D i Hw σ H = te σ H fun x H1 => J.yld i Hw x H1 ∧ ∀ H2, J.pre (i + 1) H1 H2 → u D (i + 1) H2 σ H2 := rfl
theorem pl_eq {a : TS} {D : GEz} {i : Nat} {Hw : Hp} {σ : L2.St} {H : Hp} : tPl a D i Hw σ H = a { nx := D.nx i Hw, rt := D.rt i Hw, bk := D.bk i Hw, ct := D.ct i Hw } σ H := rfl
end TwZ
/-! Tw: what stays while a generator sleeps -/
namespace Tw
open PySem PySem.Spec PyProof.Rows L2 TwM
open PySem.W (Frag)
section
variable {K : Frag} {H H' : Hp} {a : Addr}
theorem Same.frm (e : Same H H') : TwZ.Frm H H' := fun b u h _ => e b u h
theorem LvAt.frm {l : Lv} (h : LvAt K H a l) (e : TwZ.Frm H H') : LvAt K H' a l := ⟨h.ok, h.at_.elim fun dx q => ⟨dx, e _ _ q rfl⟩⟩
theorem WhAt.frm {W : List Lv} (h : WhAt K H a W) (e : TwZ.Frm H H') : WhAt K H' a W := by
  obtain ⟨ok, dx, t, as, h1, h2, h3, h4⟩ := h
  exact ⟨ok, dx, t, as, e _ _ h1 rfl, e _ _ h2 rfl, h3, fun i c q => (h4 i c q).frm e⟩
theorem BkAt.frm {B : Bk} (h : BkAt K H a B) (e : TwZ.Frm H H') : BkAt K H' a B := by
  obtain ⟨ok, dx, t, h1, h2⟩ := h
  exact ⟨ok, dx, t, e _ _ h1 rfl, e _ _ h2 rfl⟩
end
def OPr (H : Hp) (v : V) (o : Option (Int × Int)) : Prop := match o with
  | none => v = .non
  | some (a, b) => ∃ p, v = .ref p ∧ H p = some (.tup [.int a, .int b])
theorem OPr.same {H H' : Hp} {v : V} {o : Option (Int × Int)} (h : OPr H v o) (s : Same H H') : OPr H' v o := by
  cases o with
  | none => exact h
  | some p =>
    obtain ⟨q, e, h⟩ := h
    exact ⟨q, e, s _ _ h⟩
/-- passed by an assertion -/
theorem seqM {a b : TS} {D : Ends} {σ : L2.St} {H : Hp} (I : L2.St → Hp → Prop) (h1 : ∀ R : L2.St → Hp → Prop, (∀ σ' H', I σ' H' → R σ' H') → a { D with nx := R } σ H) (h2 : ∀ σ' H', I σ' H' → b D σ' H') : tSeq a b D σ H := h1 _ h2
/-- loops over a range -/
def ForRg (n : Nat) (g : TG) (tb : TS) (D : Ends) (σ : L2.St) (H : Hp) : Prop := tFor (fun σ H R => R (Itr 0 n) H) g tb D σ H
theorem forRg_eq {ta : TA} {g : TG} {tb : TS} {D : Ends} {σ : L2.St} {H : Hp} : tFor (iRng1 ta) g tb D σ H = ta σ H (fun vs H1 => ∃ j : Int, vs = [.int j] ∧ -(2 ^ 62) ≤ j ∧ j < 2 ^ 62 ∧ ForRg j.toNat g tb D σ H1) := rfl
theorem forRg {n : Nat} {g : TG} {tb : TS} {D : Ends} {σ : L2.St} {H : Hp} (Pv : Nat → L2.St → Hp → Prop) (h0 : Pv 0 σ H)
    (hs : ∀ (i : Nat) σ H, i < n → Pv i σ H → g (.int (0 + (i : Nat))) σ H fun σ2 H2 => tb { D with nx := Pv (i + 1), ct := Pv (i + 1), bk := D.nx } σ2 H2) (hd : ∀ σ H, Pv n σ H → D.nx σ H) : ForRg n g tb D σ H := for_range Pv h0 hs hd
/-- out of the walk's sight -/
def Hid (p : Prop) : Prop := p
end Tw
/-! Tw: defs of the law itself that call repr: nothing is under way around them -/
namespace Tw
open PySem PySem.Spec PyProof.Rows L2
/-- room, and no repr under way -/
structure RmG (k : Nat) (A : Around) : Prop where
  rm : Room k A
  gd : A.guards = some []
theorem RmG.mono {j k : Nat} {A : Around} (r : RmG k A) (h : j ≤ k) : RmG j A := ⟨r.rm.mono h, r.gd⟩
theorem RmG.deeper {k : Nat} {A : Around} (r : RmG (k + 1) A) (env : Env) : RmG k (A.deeper env) := ⟨r.rm.deeper env, r.gd⟩
/-- a promise that is kept where no repr is under way -/
def FnG (P : Program) (w : World) (K : PySem.W.Frag) (mg : Str → Option Value) (base : Heap) (CX : CXT) (k : Nat) (f : Addr) (sp : Sp) : Prop :=
  ∀ A fs t Hp0 us vs Q E, RmG k A → Env0 P w K mg base A fs t Hp0 → Vals vs us → sp vs Hp0 Q E → codeAny (model P w) A (.call (.ref f) ⟨us, []⟩) (CR CX fs P w Hp0 t Q E) t
section
variable {P : Program} {w : World} {K : PySem.W.Frag} {mg : Str → Option Value} {base : Heap} {CX : CXT} {k : Nat} {f : Addr} {sp : Sp}
theorem FnG.mono {j : Nat} (F : FnG P w K mg base CX j f sp) (h : j ≤ k) : FnG P w K mg base CX k f sp := fun A fs t H us vs Q E r => F A fs t H us vs Q E (r.mono h)
/-- a def by its body, run where no repr is under way -/
theorem fnG_of {x qual : Str} {params : Arguments} {body : List Stmt} {scope : Scope} {kws : List (Str × V)} {fd : FuncData} {N ps : List Str} (F : FunD K x qual params body scope [] kws f fd) (S : FnScope N ps scope) (hb : Binds K fd ps [])
    (hl : ∀ vs H Q E, sp vs H Q E → vs.length = ps.length)
    (hbody : ∀ cdv A fs t H vs Q E, RmG k (A.deeper (envOfC qual scope t.heap.objs.size f cdv)) → sp vs H Q E → ∃ tt, PSs (cxOf CX P w K mg base N qual scope f cdv A fs t H E) body tt ∧ tt { nx := fun _ H' => Q .non H', rt := Q } (L2.start N vs) H) :
    FnG P w K mg base CX (k + 1) f sp := by
  intro A fs t H us vs Q E hr e0 rv h
  obtain ⟨oc, od, dV, kV, doc, pm, an, cdv, ct, osl, efd, lk, hcd, _, _⟩ := F.ex
  have KX : K.In t.heap := e0.mod.kin.keeps fun b o z => (e0.bs b o z).1
  have hlen : us.length = ps.length := rv.length.symm.trans (hl _ _ _ _ h)
  have hbt := hb t us KX (by rw [List.append_nil]; exact hlen)
  rw [List.append_nil] at hbt
  rw [efd] at lk hbt
  refine codeAny_call_function hr.rm.depth (KX _ _ lk) rfl S.co S.gen rfl (PySem.W.codeRec_of KX hcd) (hbt _ _ _ _ ?_)
  refine wpAny_newFunctionEnv_cells S.kind (fun y hy => ?_) fun env he t1 inc => ?_
  · exact (S.par y.1 (List.of_mem_zip hy).1).elim .inl fun z => .inr ⟨z, PySem.W.cellsFrom_some _ _ _ (.inl z)⟩
  · subst he
    obtain ⟨tt, hp, hq⟩ := hbody cdv A fs t H vs Q E (hr.deeper _) h
    have hnl : t.heap.NoLimit := e0.mod.nolimit.keeps fun b o z => (e0.bs b o z).1
    refine ⟨hnl.keeps inc.toInCall.keep, codeAny_func (wpAny_mono (hp.run [] t1 _ _ _ (inv_start S hr.rm.hd e0 (hl _ _ _ _ h) rv inc) hq) (fun fl t2 z => ?_) fun _ _ z => z)⟩
    cases fl with
    | ret u =>
      obtain ⟨v, _, H2, J, r2, q2⟩ := z
      exact ⟨v, H2, J.os, J.bare, J.base, J.hok, r2, q2⟩
    | next =>
      obtain ⟨_, H2, J, q2⟩ := z
      exact ⟨.non, H2, J.os, J.bare, J.base, J.hok, rfl, q2⟩
    | brk => exact z.elim fun _ z => z.elim fun _ z => z.2.elim
    | cont => exact z.elim fun _ z => z.elim fun _ z => z.2.elim
end
section
variable {X : Cx} {CX : CXT} {k : Nat} {f : Addr} {sp : Sp} {E : XK} {x : Str} {e : Expr} {es : List Expr} {t : TA} {p pos : Pos}
theorem call_fnG {pins : List (Addr × Obj)} {σ : L2.St} {H : Hp} {s : Shared} {Q : VK} {us : List Value} {vs : List V} (F : FnG X.prog X.w X.K X.mg X.base CX k f sp) (hr : RmG k X.A) (hx : Passes CX X E) (I : Inv X pins σ H s) (rv : Vals vs us) (h : sp vs H Q E) :
    wpAny (model X.prog X.w) X.A (call (.ref f) us) (EP X pins σ Q) X.xe s :=
  wpAny_call (codeAny_mono (F X.A X.stack s H us vs Q E hr I.env0 rv h) fun r s2 z => match r, z with
    | .error y, z => hx _ _ _ _ y s2 I z
    | .ok (.ret u), z => I.after z
    | .ok .next, z => z.elim
    | .ok .brk, z => z.elim
    | .ok .cont, z => z.elim)
theorem pe_fnG (F : FnG X.prog X.w X.K X.mg X.base CX k f sp) (hr : RmG k X.A) (hg : Gl X x) (hm : X.mg x = some (.ref f)) (hk : PySem.W.keepIn X.K (.ref f) = true) (hx : Passes CX X E) (ha : PA X (e :: es) t)
    (hdb : (x == ("__debug__" : Str)) = false := by decide) (he : starEach (e :: es) X.env = (false, eval e X.env) :: starEach es X.env := by rfl)
    (hpl : (backTo pos (starEach es X.env)).any (·.1) = false := by rfl) : PE X (.Call (.Name x p) (e :: es) [] pos) (tFn sp E t) := ⟨fun pins s σ H Q I h =>
  wpAny_Call_Name_kw (ld_glob I hg hm (PySem.W.callWith_K (h₀ := X.base) I.ok.mod.kin hk
    (thn (ha.run pos pins s σ H _ I h) fun us s1 ⟨vs, H1, I1, r, q⟩ => ⟨I1.kIn, call_fnG F hr hx I1 r q⟩) he hpl) hdb)⟩
/-! ### repr -/
/-- repr(x), x plain data without a dict -/
def rReprG (K : PySem.W.Frag) : List V → Hp → VK → Prop := fun xs H Q => ∃ x d, xs = [x] ∧ Dp K H x d ∧ d.showable = true ∧ d.hasDict = false ∧ d.depth ≤ 16 ∧ d.shown.length ≤ sizeLine ∧ Q (.str d.shown) H
theorem call_reprG (hr : RmG k X.A) : CallR X (.builtin "repr") (rReprG X.K) := by
  intro pins s σ H xs us Q I r h
  obtain ⟨x, d, rfl, hd, h1, h2, h3, h4, q⟩ := h
  obtain ⟨u, rfl, ru⟩ := vals1 r
  obtain ⟨as, hR⟩ := Dp.reads I d x u hd ru
  have hu := hr.rm.units
  cases hR with
  | none => exact PySem.P.repr_of_none ⟨.str _, H, I.tok _, ⟨_, rfl⟩, q⟩
  | bool b => exact PySem.P.repr_of_bool ⟨.str _, H, I.tok _, ⟨_, rfl⟩, q⟩
  | int i t => exact PySem.P.repr_of_int (of_decide_eq_true h1) ⟨.str _, H, I.tok _, ⟨_, rfl⟩, q⟩
  | str y t => exact PySem.P.repr_of_str ⟨.str _, H, I.tok _, ⟨_, rfl⟩, q⟩ h4
  | list a1 a2 a3 a4 => exact repr_of_reads' (.list a1 a2 a3 a4) h1 (fun z => by rw [h2] at z; cases z) hr.gd (by omega) (fun _ _ z => z) (fun h' u tk hk => ⟨.str _, H, I.kept hk, ⟨_, rfl⟩, q⟩) h4
  | tuple a1 a2 a3 a4 => exact repr_of_reads' (.tuple a1 a2 a3 a4) h1 (fun z => by rw [h2] at z; cases z) hr.gd (by omega) (fun _ _ z => z) (fun h' u tk hk => ⟨.str _, H, I.kept hk, ⟨_, rfl⟩, q⟩) h4
  | dict => simp [PyData.hasDict] at h2
end
/-! ### the law's end -/
section
variable {P : Program} {w : World} {K : PySem.W.Frag} {mg mb : Str → Option Value}
/-- what a law's call meets: an abstract heap that tracks the script at most, and the written part -/
theorem entry {s : Shared} {a : Addr} {vs : List Value} {ns : List Int} (KX : K.In s.heap) (hns : s.heap.Ns mainGlobals mg) (hb : s.heap.Ns builtinsNs mb) (hbb : ∀ x : Str, x ≠ "__name__" → mb x = bootBuiltins x) (hlim : s.heap.NoLimit) (hg : s.gens = #[])
    (ha : s.heap.get? a = some { cls := .type "list", data := .seq vs.toArray }) (hi : IntsAre vs ns) (hl : ns.length ≤ sizeLine) :
    ∃ (H : Hp) (base : Heap), K.In base ∧ base.Ns mainGlobals mg ∧ Env0 P w K mg base callerA [] s H ∧ Only H ∧ SqL K H a (ns.map V.int) := by
  have rv := vals_ints hi
  have hlv := hi.length
  have key : ∀ H : Hp, (∀ b, H b ≠ none → b = a) → (H a ≠ none → K.lookup a = none) → HOk P w H s.heap → K.In (hidT s.heap H) ∧ (hidT s.heap H).Ns mainGlobals mg ∧ Env0 P w K mg (hidT s.heap H) callerA [] s H := by
    intro H h1 h2 hok
    have keepD : ∀ {b m}, s.heap.Ns b m → (hidT s.heap H).Ns b m := by
      rintro b m ⟨o, es, ep, z, d, r⟩
      refine ⟨o, es, ep, hidT_get z ?_, d, r⟩
      apply Classical.byContradiction
      intro n
      obtain rfl := h1 b n
      rw [ha] at z
      cases z
      exact nomatch d
    have kin : K.In (hidT s.heap H) := by
      intro b o z
      refine hidT_get (KX b o z) ?_
      apply Classical.byContradiction
      intro n
      obtain rfl := h1 b n
      rw [h2 n] at z
      cases z
    obtain ⟨mc, l1, l2⟩ := hlim
    exact ⟨kin, keepD hns, rfl, ⟨kin, keepD hns, ⟨mb, keepD hb, hbb⟩, ⟨mc, keepD l1, l2⟩⟩, fun b o z => of_hidT z, Nat.le_of_eq (hidT_size _ _), trivial, fun b z => (nomatch z), hok, .of_eq hg⟩
  cases hk : K.lookup a with
  | some o =>
    have z := KX a o hk
    rw [ha] at z
    obtain rfl := (Option.some.inj z).symm
    obtain ⟨k1, k2, k3⟩ := key (fun _ => none) (fun b n => (n rfl).elim) (fun n => (n rfl).elim) fun b u n => nomatch (show (none : Option HO) = some u from n)
    exact ⟨_, _, k1, k2, k3, fun _ => .inl rfl, .inr ⟨_, vs.toArray, _, hk, rfl, rfl, rfl, by rw [List.size_toArray, hlv]; exact hl, by simpa using rv⟩⟩
  | none =>
    have n1 : ∀ b, (if b = a then some (HO.frz { cls := .type "list", data := .seq vs.toArray } (.lst (ns.map V.int))) else none) ≠ none → b = a := fun b n => Classical.byContradiction fun m => n (if_neg m)
    obtain ⟨k1, k2, k3⟩ := key (fun b => if b = a then some (.frz { cls := .type "list", data := .seq vs.toArray } (.lst (ns.map V.int))) else none) n1 (fun _ => hk) fun b u n => by
      have e : b = a := Classical.byContradiction fun m => by
        have n' := (if_neg m).symm.trans n
        cases n'
      subst e
      have m := (if_pos rfl).symm.trans n
      cases m
      exact ⟨ha, by rw [List.length_map]; exact hl, vs, _, rv, ha⟩
    refine ⟨_, _, k1, k2, k3, fun b => ?_, .inl (.inr ⟨_, if_pos rfl⟩)⟩
    by_cases m : b = a
    · exact .inr ⟨_, _, if_pos m⟩
    · exact .inl (if_neg m)
theorem lawG {s : Shared} {CX : CXT} {k : Nat} {fa a : Addr} {sp : Sp} {vs : List Value} {ns : List Int} (KX : K.In s.heap) (hns : s.heap.Ns mainGlobals mg) (hb : s.heap.Ns builtinsNs mb) (hbb : ∀ x : Str, x ≠ "__name__" → mb x = bootBuiltins x) (hlim : s.heap.NoLimit) (hg : s.gens = #[])
    (ha : s.heap.get? a = some { cls := .type "list", data := .seq vs.toArray }) (hi : IntsAre vs ns) (hl : ns.length ≤ sizeLine) (hr : RmG k callerA) (F : ∀ base : Heap, K.In base → base.Ns mainGlobals mg → FnG P w K mg base CX k fa sp)
    (hsp : ∀ H : Hp, SqL K H a (ns.map V.int) → sp [.ref a] H (fun v _ => v = .bl true) fun _ _ _ => False) (hCX : ∀ H e s', CX [] H s (fun _ _ _ => False) e s' → False) :
    codeAny (model P w) callerA (.call (.ref fa) ⟨[.ref a], []⟩) (fun r s' => r = .ok (.ret (.bool true)) ∧ OldK s.heap s'.heap ∧ s'.os = s.os ∧ AllBare s'.gens) s := by
  obtain ⟨H, base, k1, k2, e0, ho, hs⟩ := entry (P := P) (w := w) KX hns hb hbb hlim hg ha hi hl
  refine codeAny_mono (F base k1 k2 callerA [] s H [.ref a] [.ref a] _ _ hr e0 (.cons rfl .nil) (hsp H hs)) fun r s2 z => ?_
  match r, z with
  | .error y, z => exact (hCX H y s2 z).elim
  | .ok .next, z => exact z.elim
  | .ok .brk, z => exact z.elim
  | .ok .cont, z => exact z.elim
  | .ok (.ret u), ⟨v, H2, os, bare, un, hok, rv, q⟩ =>
    obtain rfl : v = .bl true := q
    obtain rfl : u = Value.bool true := rv
    refine ⟨rfl, OldK.of_keep fun b o z => ?_, os, bare⟩
    rcases ho b with n | ⟨o1, xs, n⟩
    · exact un.keep b o z n (fun m => nomatch m) (fun m => nomatch m)
    · obtain ⟨g1, _⟩ := e0.hok b _ n
      obtain ⟨g2, _⟩ := hok b _ (un.frzs b o1 _ n)
      rw [z] at g1
      cases g1
      exact g2
theorem walk_ofG {l : PySem.W.OpenLaw} {n k : Nat} {q : Program} {loose : List Str} {XP : (Str → Option Value) → Heap → Prop} {YP : World → Heap → Prop} {d : DefRec} {CX : CXT} (hn : l.most = some n) (hn2 : n ≤ sizeLine) (hdf : d.params.defaults = []) (hr : RmG k callerA)
    (F : ∀ w mg fa h, YP w h → h.Ns mainGlobals mg → mg d.name = some (.ref fa) → ∃ (K : PySem.W.Frag) (sp : Sp), K.In h ∧ (∀ (H : Hp) (a : Addr) (ns : List Int), ns.length ≤ n → SqL K H a (ns.map V.int) → sp [.ref a] H (fun v _ => v = .bl true) fun _ _ _ => False) ∧
      ∀ base : Heap, K.In base → base.Ns mainGlobals mg → FnG l.prog w K mg base CX k fa sp) (hCX : ∀ H s e s', CX [] H s (fun _ _ _ => False) e s' → False) :
    PySem.W.WalkO q loose XP YP l.row.toRowW d [] (fun f vs => PySem.call f vs) := by
  refine Att.attach_call hn hdf fun w s0 s1 mg mb fa o pm cd doc a vs ns G Y ho hd hcd hmg hobj hints hlen hg => ?_
  obtain ⟨K, sp, KX, h1, h2⟩ := F w mg fa _ Y G.T.g hmg
  exact lawG KX G.T.g G.T.b G.T.builtins G.T.nolimit hg hobj hints (Nat.le_trans hlen hn2) hr h2 (fun H z => h1 H a ns hlen z) fun H e s' => hCX H s1 e s'
end
end Tw
/-! Tw: texts of spots and of tuples of numbers -/
namespace Tw
open PySem PySem.Spec PyProof.Rows L2 He TwM StX
open PySem.W (Frag)
section
variable {K : Frag} {H : Hp}
theorem lg {x : Int} (h0 : 0 ≤ x) (h : x ≤ 2 ^ 250) : x.natAbs.log2 < 251 := PySem.Flt.log2_lt_of (k := 251) (by decide) (by
  have e : (2 : Int) ^ 250 = ((2 ^ 250 : Nat) : Int) := by norm_cast
  have : x.natAbs ≤ 2 ^ 250 := by omega
  exact Nat.lt_of_le_of_lt this (by decide +kernel))
theorem shown_ints_all : ∀ l : List Int, (∀ x ∈ l, x.natAbs.log2 < 1920) → PyData.showableAll (l.map PyData.int) = true
  | [], _ => rfl
  | x :: l, h => by
    rw [List.map_cons]
    show (PyData.showable (.int x) && PyData.showableAll (l.map PyData.int)) = true
    rw [shown_ints_all l fun y hy => h y (List.mem_cons_of_mem _ hy), Bool.and_true]
    exact decide_eq_true (h x (List.mem_cons_self ..))
theorem hasDict_ints : ∀ l : List Int, PyData.hasDictAll (l.map PyData.int) = false
  | [] => rfl
  | x :: l => by
    rw [List.map_cons]
    show (PyData.hasDict (.int x) || PyData.hasDictAll (l.map PyData.int)) = false
    rw [hasDict_ints l]
    rfl
theorem piled_ints : ∀ l : List Int, (∀ x ∈ l, x.natAbs.log2 < 1920) → piled (PyData.shownAll (l.map PyData.int)) ≤ 1923 * l.length
  | [], _ => Nat.le_refl _
  | x :: l, h => by
    have ih := piled_ints l fun y hy => h y (List.mem_cons_of_mem _ hy)
    have h1 := int_text_length_le (k := 1920) (by decide) (h x (List.mem_cons_self ..))
    rw [List.map_cons]
    show piled (Str.ofString (toString x) :: PyData.shownAll (l.map PyData.int)) ≤ _
    rw [piled_cons, PySem.ofString_length, List.length_cons]
    omega
/-- repr of a tuple of ints -/
theorem repr_ints {v : V} {l : List Int} {Q : VK} (hd : Dp K H v (.tuple (l.map PyData.int))) (hl : l.length ≤ 8000) (hb : ∀ x ∈ l, x.natAbs.log2 < 1920) (q : Q (.str (PyData.tuple (l.map PyData.int)).shown) H) : rReprG K [v] H Q := by
  refine ⟨v, _, rfl, hd, shown_ints_all l hb, hasDict_ints l, ?_, ?_, q⟩
  · have := depth_ints l
    show PyData.depthAll (l.map PyData.int) + 1 ≤ 16
    omega
  · have h1 := piled_ints l hb
    have h2 := fmt_text (PyData.shownAll (l.map PyData.int))
    have h3 : sizeLine = 16777216 := rfl
    show (tupleText (PyData.shownAll (l.map PyData.int))).length ≤ sizeLine
    omega
/-- repr of a spot, or of None -/
theorem repr_spot {v : V} {o : Option Spot} {Q : VK} (h : OSp H v o) (hb : ∀ sp, o = some sp → SpB (2 ^ 250) sp ∧ sp.lv < 100) (q : Q (.str (dSp o).shown) H) : rReprG K [v] H Q := by
  cases o with
  | none => exact ⟨v, .none, rfl, h.dp, rfl, rfl, Nat.zero_le _, by decide +kernel, q⟩
  | some sp =>
    obtain ⟨b, hl⟩ := hb sp rfl
    refine repr_ints (l := [(sp.lv : Int), sp.pt, sp.due]) h.dp (show 3 ≤ 8000 by decide) (fun x hx => ?_) q
    have b1 := lg b.p0 b.p1
    have b2 := lg b.d0 b.d1
    have b3 := lg (x := (sp.lv : Int)) (by omega) (by
      have : (100 : Int) ≤ 2 ^ 250 := by decide +kernel
      omega)
    simp only [List.mem_cons, List.not_mem_nil, or_false] at hx
    rcases hx with rfl | rfl | rfl <;> omega
end
end Tw
/-! Tw: the law's lateness -/
namespace Tw
open PySem PySem.Spec PyProof.Rows L2 He TwM StX
open PySem.W (Frag)
section
variable {K : Frag} {w : World}
/-- the lateness -/
def lagM (W : List Lv) (B : Bk) (s d : Int) : Int := (fin W B s d).1 - s - (if d = 0 ∧ B.zone = true then 1 else d)
def sp__law_lag (K : Frag) : Sp := fun vs H Q _ => ∃ (r rv : Addr) (start delay : Int), vs = [.ref r, .ref rv, .int start, .int delay] ∧ ∃ W B, RowsAt H r W ∧ RWk W ∧ VlAt H rv B ∧ 0 ≤ delay ∧ (reach W ≤ delay → B.bey ≠ 0) ∧ ∀ H', Same H H' → Q (.int (lagM W B start delay)) H'
local macro_rules | `(tactic| walk_at "rwl") => `(tactic| simp only [*, at3_0, at3_1, at3_2, at2_0, at2_1, updS, upd_two, gSub, rSetL, updN, tPar, at6_0, at6_1, at6_2, at6_3, at6_4, at6_5, and_assoc, not_true_eq_false, not_false_eq_true, tNever, List.length_map, tFld, rIxTH, rIxLH, rLenTH, rLenLH, lk1, lfs_g, lfs_s, lfs_p, HO.ins.injEq, HO.tup.injEq, HO.lst.injEq, sp_Book_rounding, sp_Book_action, sp_Book_order, sp_Book_due, sp_Book_zero, sp_Book_beyond, Int.toNat_natCast, sp_visit_after, sp_is_visited, sp_Level_grain, sp_Level_slots, sp_Level_span, sp_Wheel_reach, sp_Wheel___len__, sp_is_integer, sp_is_count, sp_is_within, sp_rounded, tSeq, tAsg, gName, tVar, tC, tOp, rI, rI0, rU, tUn, oAdd, oSub, oMul, oDiv, oMod, oNeg, oLt, oLe, oGt, oGe, oIsN, oNotN, tFn, tCons, tNil, tIfS, tIf, tTest, tB, tNot, tAnd, tOr, tAndV, tOrV, tNotV,
    tRet, tRetN, tNext, tCB, tDrop, tChain, rEq, rNe, oMax2, oMin2, oInt1, rLenF, L2.start, List.map_cons, List.map_nil, List.length_cons, List.length_nil, List.replicate_succ, List.replicate_zero, List.cons_append, List.nil_append, Nat.reduceAdd, Nat.reduceSub, Nat.zero_add,
    List.set_cons_zero, List.set_cons_succ, List.getElem?_cons_zero, List.getElem?_cons_succ, Option.some.injEq, V.int.injEq, V.ref.injEq, V.str.injEq, V.bl.injEq, exists_eq_left', exists_eq_left, exists_and_left, List.cons.injEq, and_true, true_and, decide_eq_true_eq, sc_ii, sc_ss, sc_bb, sc_ni, sc_in, sc_nn, sc_is, reduceCtorEq,
    Bool.not_eq_true', decide_eq_false_iff_not, if_true, if_false, Bool.false_eq_true, exists_eq', exists_const, false_and, and_false, or_false, false_or, exists_false, Bool.not_not, Bool.not_true, Bool.not_false, sUp_up, sFire_fire, sHigh_high, sPut_put, sZone_now, sBey_refuse, sBey_cut, tTup, tLst, sz0, sz1, sz2, sz3, sz4, sz5, sz6])
def t__law_lag (K : Frag) (w : World) : TS :=
  (tRet (tOp oSub (tOp oSub (tFn (sp__law_fire K) E0 (tCons (tVar 0) (tCons (tVar 1) (tCons (tVar 2) (tCons (tVar 3) tNil))))) (tVar 2)) (tIf (tAnd (tTest (tOp rEq (tVar 3) (tC (.int 0)))) (tTest (tOp rEq (tOp rIxLH (tVar 1) (tC (.int 4))) (tC (.str "one"))))) (tC (.int 1)) (tVar 3))))
def n__law_lag : List Str := ["_law_rows", "_law_values", "_law_start", "_law_delay"]
theorem rd__law_lag (vs : List V) (H : Hp) (Q : VK) (E : XK) (h : sp__law_lag K vs H Q E) : t__law_lag K w { nx := fun _ H' => Q .non H', rt := Q } (L2.start n__law_lag vs) H := by
  obtain ⟨r, rv, start, delay, rfl, W, B, hR, hRk, hV, hd, hb, q⟩ := h
  unfold t__law_lag n__law_lag
  walk_at "rwl"
  refine ⟨r, rv, start, delay, rfl, W, B, hR, hRk, hV, hd, hb, fun H1 s1 => ?_⟩
  have q := q H1 s1
  have hV1 := (hV.same s1).six
  unfold lagM at q
  generalize (fin W B start delay).1 = f at *
  walk_at "rwl"
  by_cases h0 : delay = 0
  · rw [if_pos h0]
    cases hz : B.zone with
    | false =>
      rw [if_neg (fun z => by rw [hz] at z; cases z.2)] at q
      rw [if_neg (show ¬ sZone false = Str.ofString "one" by decide +kernel)]
      exact q
    | true =>
      rw [if_pos ⟨h0, hz⟩] at q
      rw [if_pos (show sZone true = Str.ofString "one" by decide +kernel)]
      exact q
  · rw [if_neg h0]
    rw [if_neg (fun z => h0 z.1)] at q
    exact q
end
end Tw
/-! Tw: kinds of timers, as the program walks them -/
namespace Tw
open PySem PySem.Spec PyProof.Rows L2 He TwM StX
open PySem.W (Frag)
local macro_rules | `(tactic| walk_at "rsl") => `(tactic| simp only [*, at3_0, at3_1, at3_2, at2_0, at2_1, updS, upd_two, gSub, rSetL, updN, tPar, tPar3, gTup, gCons, gNil, and_assoc, not_true_eq_false, not_false_eq_true, tNever, List.length_map, tFld, rIxTH, rIxLH, rLenTH, rLenLH, lk1, lfs_g, lfs_s, lfs_p, HO.ins.injEq, HO.tup.injEq, HO.lst.injEq, sp_Book_rounding, sp_Book_action, sp_Book_order, sp_Book_due, sp_Book_zero, sp_Book_beyond, Int.toNat_natCast, sp_visit_after, sp_is_visited, sp_Level_grain, sp_Level_slots, sp_Level_span, sp_Wheel_reach, sp_Wheel___len__, sp_is_integer, sp_is_count, sp_is_within, sp_rounded, tAsg, gName, tVar, tC, tOp, rI, rI0, rU, tUn, oAdd, oSub, oMul, oDiv, oMod, oNeg, oLt, oLe, oGt, oGe, oIsN, oNotN, tFn, tCons, tNil, tIfS, tIf, tTest, tB, tNot, tAnd, tOr, tAndV, tOrV, tNotV,
    tRet, tRetN, tNext, tCB, tDrop, tChain, rEq, rNe, oMax2, oMin2, oInt1, rLenF, L2.start, List.map_cons, List.map_nil, List.length_cons, List.length_nil, List.replicate_succ, List.replicate_zero, List.cons_append, List.nil_append, Nat.reduceAdd, Nat.reduceSub, Nat.zero_add,
    List.set_cons_zero, List.set_cons_succ, List.getElem?_cons_zero, List.getElem?_cons_succ, Option.some.injEq, V.int.injEq, V.ref.injEq, V.str.injEq, V.bl.injEq, exists_eq_left', exists_eq_left, exists_and_left, List.cons.injEq, and_true, true_and, decide_eq_true_eq, sc_ii, sc_ss, sc_bb, sc_ni, sc_in, sc_nn, sc_is, reduceCtorEq,
    Bool.not_eq_true', decide_eq_false_iff_not, if_true, if_false, Bool.false_eq_true, exists_eq', exists_const, false_and, and_false, or_false, false_or, exists_false, Bool.not_not, Bool.not_true, Bool.not_false, sUp_up, sFire_fire, sHigh_high, sPut_put, sZone_now, sBey_refuse, sBey_cut, tTup, tLst, sz0, sz1, sz2, sz3, sz4, sz5, sz6])
local macro_rules | `(tactic| walk_at "st") => `(tactic| ((try dsimp only); rw [seq1]; walk_at "rsl"))
local macro_rules | `(tactic| walk_at "zt") => `(tactic| ((try dsimp only); rw [TwZ.seq_pl]; walk_at "rsl"))
section
variable {K : Frag} {w : World}
/-- the items of a list, one by one -/
def lsG (n : Nat) (F : Nat → V → Hp → Prop) : TwZ.Gt := ⟨fun _ H H' => TwZ.Frm H H', fun j H x H' => j < n ∧ F j x H' ∧ Same H H', fun j H H' => j = n ∧ Same H H'⟩
def sp_block_starts (K : Frag) : TwZ.SpZ := fun vs H R => ∃ (c : Addr) (u : Bool) (r low : Int), vs = [.ref c, .str (sUp u), .int r, .int low] ∧ ∃ W B i, LvAt K H c (lv W i) ∧ WOk W ∧ i < W.length ∧ u = B.up ∧ low = lowD W i ∧ 0 ≤ r ∧ r < (lv W i).g ∧
  R (lsG (blk W B i r).length fun j x _ => ∃ T, (blk W B i r)[j]? = some T ∧ x = .int T) H
def t_block_starts (K : Frag) (w : World) (J : TwZ.Gt) : TwZ.TGz :=
  (TwZ.tGzSeq (TwZ.tPl (tAsg (tFn (sp_Level_grain K) E0 (tCons (tVar 0) tNil)) (gName 4)))
  (TwZ.tGzSeq (TwZ.tPl (tAsg (tOp oAdd (tVar 3) (tOp oMod (tOp oSub (tVar 2) (tVar 3)) (tVar 4))) (gName 5)))
  (TwZ.tGzWhile (tTest (tOp oLt (tVar 5) (tOp oSub (tOp oAdd (tFn (sp_Level_span K) E0 (tCons (tVar 0) tNil)) (tVar 4)) (tC (.int 1)))))
    (TwZ.tGzSeq (TwZ.tGzYield J (tVar 5))
  (TwZ.tGzSeq (TwZ.tPl (tAsg (tOp oAdd (tOp oDiv (tOp oSub (tFn (sp_rounded K) E0 (tCons (tVar 5) (tCons (tVar 4) (tCons (tVar 1) tNil)))) (tC (.int 1))) (tFn (sp_Level_slots K) E0 (tCons (tVar 0) tNil))) (tC (.int 1))) (gName 6)))
  (TwZ.tGzSeq (TwZ.tPl (tAsg (tOp oAdd (tOp oMul (tVar 6) (tFn (sp_Level_slots K) E0 (tCons (tVar 0) tNil))) (tC (.int 1))) (gName 7)))
  (TwZ.tGzSeq (TwZ.tPl (tAsg (tOp oAdd (tOp oMul (tVar 7) (tVar 4)) (tVar 2)) (gName 5)))
  (TwZ.tPl (tIfS (tAnd (tTest (tOp rEq (tVar 1) (tC (.str "up")))) (tTest (tOp oGt (tVar 2) (tC (.int 0))))) (tAsg (tOp oSub (tVar 5) (tVar 4)) (gName 5)) tNext)))))))))
def n_block_starts : List Str := ["level", "rounding", "rest", "low", "grain", "total", "turn", "first"]
theorem rd_block_starts (vs : List V) (H : Hp) (R : TwZ.Gt → Hp → Prop) (h : sp_block_starts K vs H R) : ∃ J, R J H ∧ ∀ H2, J.pre 0 H H2 → t_block_starts K w J { nx := fun i Hw _ H' => J.fin i Hw H', rt := fun i Hw v H' => v = .non ∧ J.fin i Hw H' } 0 H2 (L2.start n_block_starts vs) H2 := by
  obtain ⟨c, u, r, low, rfl, W, B, i, hL0, ok, hi, rfl, rfl, r0, r1, q⟩ := h
  refine ⟨_, q, fun H2 (hp : TwZ.Frm H H2) => ?_⟩
  have hL := hL0.frm hp
  have hok := hL.ok
  have g1 := hok.g1
  have g2 := hok.g2
  unfold t_block_starts n_block_starts
  walk_at "zt"
  refine ⟨_, hL, ?_⟩
  have hf := frT_mod ok hi r0 r1
  walk_at "zt"
  refine ⟨by omega, ?_⟩
  have e0 : lowD W i + (r - lowD W i) % (lv W i).g = frT W i r := rfl
  rw [e0]
  have lp := lowD_pos ok hi
  have hall := ok.all i hi
  refine ⟨fun _ k Hw σ H => Same Hw H ∧ LvAt K H c (lv W i) ∧ ∃ (T : Int) (n : Nat) (v6 v7 : Option V), σ = [some (.ref c), some (.str (sUp B.up)), some (.int r), some (.int (lowD W i)), some (.int (lv W i).g), some (.int T), v6, v7] ∧ T % (lv W i).g = r ∧ lowD W i ≤ T ∧
    k ≤ (blk W B i r).length ∧ (blk W B i r).drop k = blkGo W B i r n T ∧ (lv W i).p + (lv W i).g - 1 - T ≤ n, ⟨0, fun _ _ h => h, hL, _, _, _, _, rfl, hf.1, hf.2.1, Nat.zero_le _, rfl, by omega⟩, ?_⟩
  rintro m k Hw σ H4 ⟨s4, hL4, T, n, v6, v7, rfl, hT, hlT, hk, hd, hn⟩
  walk_at "rsl"
  refine ⟨_, hL4, ?_⟩
  by_cases hlt : T < (lv W i).p + (lv W i).g - 1
  · rw [if_pos (by simpa using hlt)]
    refine ⟨_, fun i' Hw' σ' H' z => z, ?_⟩
    rw [TwZ.seq_yld]
    walk_at "rsl"
    obtain ⟨n, rfl⟩ : ∃ n', n = n' + 1 := ⟨n - 1, by omega⟩
    have hd2 := hd
    unfold blkGo at hd2
    rw [if_pos hlt] at hd2
    have hat : (blk W B i r)[k]? = some T := by
      have e := List.getElem?_drop (xs := blk W B i r) (i := k) (j := 0)
      rw [hd2, Nat.add_zero] at e
      exact e.symm
    have hkl : k < (blk W B i r).length := (List.getElem?_eq_some_iff.mp hat).1
    have hdr : (blk W B i r).drop (k + 1) = blkGo W B i r n (nxT W B i r T) := by
      rw [← List.drop_drop, hd2]; rfl
    refine ⟨⟨hkl, ⟨T, hat, rfl⟩, s4⟩, fun H5 (hp5 : TwZ.Frm H4 H5) => ?_⟩
    have hL5 := hL4.frm hp5
    obtain ⟨q, q1, q2, -⟩ := nxT_is ok hi (B := B) r0 r1 hT
    have gk : (lv W i).g * 1 ≤ (lv W i).g * q := Int.mul_le_mul_of_nonneg_left q1 (by omega)
    have hTm : nxT W B i r T % (lv W i).g = r := by rw [q2, Int.add_mul_emod_self_left]; exact hT
    have hid : Hid (∀ T1, T1 = nxT W B i r T → T1 % (lv W i).g = r ∧ lowD W i ≤ T1 ∧ (blk W B i r).drop (k + 1) = blkGo W B i r n T1 ∧ (lv W i).p + (lv W i).g - 1 - T1 ≤ n) := fun T1 e => by
      subst e
      exact ⟨hTm, by omega, hdr, by omega⟩
    clear hdr hTm q2 gk q1 hd hd2
    walk_at "zt"
    refine ⟨B.up, rfl, by omega, by omega, _, hL5, ⟨by omega, by omega⟩, ?_⟩
    walk_at "zt"
    refine ⟨_, hL5, .inr ⟨by omega, by omega⟩, ?_⟩
    walk_at "zt"
    refine ⟨.inr ⟨by omega, by omega⟩, ?_⟩
    rw [TwZ.pl_eq]
    walk_at "rsl"
    have hs : Same H5 H5 := fun _ _ h => h
    by_cases hu : B.up = true
    · rw [if_pos hu]
      by_cases h0 : 0 < r
      · rw [if_pos h0]
        obtain ⟨c1, c2, c3, c4⟩ := hid _ (show _ = nxT W B i r T by unfold nxT; rw [if_pos ⟨hu, h0⟩])
        exact ⟨0, .inl (Nat.lt_succ_self k), hs, c1, c2, hkl, n, c3, c4⟩
      · rw [if_neg h0]
        obtain ⟨c1, c2, c3, c4⟩ := hid _ (show _ = nxT W B i r T by unfold nxT; rw [if_neg (fun z => h0 z.2), Int.sub_zero])
        exact ⟨0, .inl (Nat.lt_succ_self k), hs, c1, c2, hkl, n, c3, c4⟩
    · rw [if_neg hu]
      obtain ⟨c1, c2, c3, c4⟩ := hid _ (show _ = nxT W B i r T by unfold nxT; rw [if_neg (fun z => hu z.1), Int.sub_zero])
      exact ⟨0, .inl (Nat.lt_succ_self k), hs, c1, c2, hkl, n, c3, c4⟩
  · rw [if_neg (by simpa using hlt)]
    have hz : blkGo W B i r n T = [] := by
      cases n with
      | zero => rfl
      | succ n => unfold blkGo; rw [if_neg hlt]
    rw [hz] at hd
    have := List.drop_eq_nil_iff.mp hd
    exact ⟨by omega, s4⟩
def sp_pair_of (K : Frag) : Sp := fun vs H Q _ => ∃ (a : Addr) (i : Nat) (T : Int), vs = [.ref a, .int (i : Nat), .int T] ∧ ∃ W, WhAt K H a W ∧ i < W.length ∧ ∀ p, H p = none → Q (.ref p) (upd H p (.tup [.int (T - prD W i T), .int (prD W i T)]))
def t_pair_of (K : Frag) (w : World) : TS :=
  (tSeq (tAsg (tCB oMax2 (tCons (tCB oInt1 (tCons (tFn (sp_low_delay K) E0 (tCons (tVar 0) (tCons (tVar 1) tNil))) tNil)) (tCons (tCB oInt1 (tCons (tOp oAdd (tOp oSub (tVar 2) (tFn (sp_Level_grain K) E0 (tCons (tFn (sp_Wheel___getitem__ K) E0 (tCons (tVar 0) (tCons (tVar 1) tNil))) tNil))) (tC (.int 1))) tNil)) tNil))) (gName 3))
  (tRet (tTup (tCons (tOp oSub (tVar 2) (tVar 3)) (tCons (tVar 3) tNil)))))
def n_pair_of : List Str := ["wheel", "index", "total", "delay"]
theorem rd_pair_of (vs : List V) (H : Hp) (Q : VK) (E : XK) (h : sp_pair_of K vs H Q E) : t_pair_of K w { nx := fun _ H' => Q .non H', rt := Q } (L2.start n_pair_of vs) H := by
  obtain ⟨a, i, T, rfl, W, hW, hi, q⟩ := h
  unfold t_pair_of n_pair_of
  rw [seq1]
  walk_at "rsl"
  refine ⟨a, i, rfl, W, hW, hi, .inl ⟨_, rfl, a, (i : Int), rfl, W, hW, by omega, by omega, fun c hc => ⟨c, rfl, _, hc, fun p hp => ?_⟩⟩⟩
  have q := q p hp
  rw [Int.toNat_natCast]
  have e : (if T - (lv W i).g + 1 > lowD W i then T - (lv W i).g + 1 else lowD W i) = prD W i T := by
    unfold prD
    split <;> omega
  rw [e]
  exact q
theorem lagM_pos {W : List Lv} {B : Bk} {s d : Int} (h : 1 ≤ d) : lagM W B s d = lat W B s d := by
  unfold lagM lat
  rw [if_neg (fun z => by have := z.1; omega)]
def sp_lateness (K : Frag) : Sp := fun vs H Q _ => ∃ (a b : Addr) (s d : Int), vs = [.ref a, .ref b, .int s, .int d] ∧ ∃ W B, WhAt K H a W ∧ BkAt K H b B ∧ 0 ≤ s ∧ 0 ≤ d ∧ (reach W ≤ d → B.bey ≠ 0) ∧ ∀ H', Same H H' → Q (.int (lagM W B s d)) H'
def t_lateness (K : Frag) (w : World) : TS :=
  (tSeq (tAsg (tFn (sp_fire_tick K) E0 (tCons (tVar 0) (tCons (tVar 1) (tCons (tVar 2) (tCons (tVar 3) tNil))))) (gName 4))
  (tSeq (tIfS (tAnd (tTest (tOp rEq (tVar 3) (tC (.int 0)))) (tTest (tOp rEq (tFn (sp_Book_zero K) E0 (tCons (tVar 1) tNil)) (tC (.str "one"))))) (tRet (tOp oSub (tOp oSub (tVar 4) (tVar 2)) (tC (.int 1)))) tNext)
  (tRet (tOp oSub (tOp oSub (tVar 4) (tVar 2)) (tVar 3)))))
def n_lateness : List Str := ["wheel", "book", "start", "delay", "tick"]
theorem rd_lateness (vs : List V) (H : Hp) (Q : VK) (E : XK) (h : sp_lateness K vs H Q E) : t_lateness K w { nx := fun _ H' => Q .non H', rt := Q } (L2.start n_lateness vs) H := by
  obtain ⟨a, b, s, d, rfl, W, B, hW, hB, s0, d0, hb, q⟩ := h
  unfold t_lateness n_lateness
  unfold lagM at q
  rw [seq1]
  walk_at "rsl"
  refine ⟨a, b, s, d, rfl, W, B, hW, hB, s0, d0, hb, fun H1 s1 => ?_⟩
  have q := q H1 s1
  have hB1 := hB.same s1
  try dsimp only
  rw [seq1]
  walk_at "rsl"
  by_cases hd : d = 0
  · rw [if_pos hd]
    refine ⟨B, hB1, ?_⟩
    cases hz : B.zone with
    | true =>
      rw [hz, if_pos ⟨hd, rfl⟩] at q
      rw [if_pos (show sZone true = Str.ofString "one" from rfl)]
      exact q
    | false =>
      rw [hz, if_neg (fun z => Bool.false_ne_true z.2)] at q
      rw [if_neg (show ¬ sZone false = Str.ofString "one" by decide)]
      exact q
  · rw [if_neg hd]
    rw [if_neg (fun z => hd z.1)] at q
    exact q
/-- one of samples' tuples -/
def SmP (W : List Lv) (B : Bk) (i : Nat) (j : Nat) (x : V) (H : Hp) : Prop := ∃ T p, (smp W B i)[j]? = some T ∧ x = .ref p ∧ H p = some (.tup [.int T, .int (latT W B i T)])
def sp_samples (K : Frag) : TwZ.SpZ := fun vs H R => ∃ (a b : Addr) (i : Nat), vs = [.ref a, .ref b, .int (i : Nat)] ∧ ∃ W B, WhAt K H a W ∧ BkAt K H b B ∧ i < W.length ∧ R (lsG (smp W B i).length (SmP W B i)) H
def smK (W : List Lv) (B : Bk) (i r : Nat) : Nat := ((List.range r).flatMap fun (r : Nat) => blk W B i r).length
theorem smK_at {W : List Lv} {B : Bk} {i r : Nat} (hr : r < (lv W i).g.toNat) (j : Nat) (hj : j < (blk W B i r).length) : (smp W B i)[smK W B i r + j]? = (blk W B i r)[j]? := by
  have e : List.range (lv W i).g.toNat = List.range r ++ (r :: (List.range ((lv W i).g.toNat - r - 1)).map (fun x => r + 1 + x)) := by
    rw [show (lv W i).g.toNat = r + (1 + ((lv W i).g.toNat - r - 1)) by omega, List.range_add, List.range_add]
    simp only [List.map_append, List.range_one, List.map_cons, List.map_nil, List.map_map, Nat.add_zero]
    rw [show r + (1 + ((lv W i).g.toNat - r - 1)) - r - 1 = (lv W i).g.toNat - r - 1 by omega]
    refine congrArg _ ?_
    show _ = r :: _
    refine congrArg (r :: ·) (List.map_congr_left fun x _ => ?_)
    show r + (1 + x) = r + 1 + x
    omega
  unfold smp smK
  rw [e, List.flatMap_append, List.flatMap_cons, List.getElem?_append_right (by omega), Nat.add_sub_cancel_left, List.getElem?_append_left hj]
theorem smK_succ (W : List Lv) (B : Bk) (i r : Nat) : smK W B i (r + 1) = smK W B i r + (blk W B i r).length := by
  unfold smK
  rw [List.range_succ, List.flatMap_append, List.length_append]
  simp
theorem smK_all (W : List Lv) (B : Bk) (i : Nat) : smK W B i (lv W i).g.toNat = (smp W B i).length := rfl
def t_samples (K : Frag) (w : World) (J : TwZ.Gt) : TwZ.TGz :=
  (TwZ.tGzSeq (TwZ.tPl (tAsg (tFn (sp_Wheel___getitem__ K) E0 (tCons (tVar 0) (tCons (tVar 2) tNil))) (gName 3)))
  (TwZ.tGzFor (iRng1 (tCons (tFn (sp_Level_grain K) E0 (tCons (tVar 3) tNil)) tNil)) (gName 4)
    (TwZ.tGzForG (TwZ.tGenF (sp_block_starts K) (tCons (tVar 3) (tCons (tFn (sp_Book_rounding K) E0 (tCons (tVar 1) tNil)) (tCons (tVar 4) (tCons (tFn (sp_low_delay K) E0 (tCons (tVar 0) (tCons (tVar 2) tNil))) tNil))))) (gName 5)
    (TwZ.tGzSeq (TwZ.tPl (tAsg (tFn (sp_pair_of K) E0 (tCons (tVar 0) (tCons (tVar 2) (tCons (tVar 5) tNil)))) (gTup K 2 (gCons (gName 6) (gCons (gName 7) gNil)))))
  (TwZ.tGzYield J (tTup (tCons (tVar 5) (tCons (tFn (sp_lateness K) E0 (tCons (tVar 0) (tCons (tVar 1) (tCons (tVar 6) (tCons (tVar 7) tNil))))) tNil))))))))
def n_samples : List Str := ["wheel", "book", "index", "level", "rest", "total", "start", "delay"]
theorem rd_samples (vs : List V) (H : Hp) (R : TwZ.Gt → Hp → Prop) (h : sp_samples K vs H R) : ∃ J, R J H ∧ ∀ H2, J.pre 0 H H2 → t_samples K w J { nx := fun i Hw _ H' => J.fin i Hw H', rt := fun i Hw v H' => v = .non ∧ J.fin i Hw H' } 0 H2 (L2.start n_samples vs) H2 := by
  obtain ⟨a, b, i, rfl, W, B, hW0, hB0, hi, q⟩ := h
  refine ⟨_, q, fun H2 (hp : TwZ.Frm H H2) => ?_⟩
  have hW := hW0.frm hp
  have hB := hB0.frm hp
  have ok := hW.ok
  have hall := ok.all i hi
  unfold t_samples n_samples
  walk_at "zt"
  refine ⟨a, (i : Int), rfl, W, hW, by omega, by omega, fun c hc => ?_⟩
  rw [Int.toNat_natCast] at hc
  try dsimp only
  rw [TwZ.gzr_eq]
  walk_at "rsl"
  refine ⟨_, hc, by omega, by omega, ?_⟩
  refine TwZ.gzR (fun r k Hw σ H => ∃ v4 v5 v6 v7, σ = [some (.ref a), some (.ref b), some (.int (i : Nat)), some (.ref c), v4, v5, v6, v7] ∧ Same Hw H ∧ WhAt K H a W ∧ BkAt K H b B ∧ LvAt K H c (lv W i) ∧ k = smK W B i r)
    ⟨_, _, _, _, rfl, fun _ _ h => h, hW, hB, hc, rfl⟩ ?_ fun k Hw σ H' ⟨v4, v5, v6, v7, e, s, _, _, _, hk⟩ => ⟨hk.trans (smK_all W B i), s⟩
  rintro r k Hw σ H3 hr ⟨v4, v5, v6, v7, rfl, s3, hW3, hB3, hL3, rfl⟩
  have e0 : (0 : Int) + (r : Nat) = r := by omega
  rw [gName1]
  try dsimp only [List.set_cons_succ, List.set_cons_zero]
  unfold TwZ.tGzForG TwZ.tGenF
  walk_at "rsl"
  refine ⟨B, hB3, a, i, rfl, W, hW3, hi, ?_⟩
  refine ⟨c, B.up, (r : Int), lowD W i, rfl, W, B, i, hL3, ok, hi, rfl, rfl, by omega, by omega, (blk W B i r).length + 1, fun j Hs k Hw σ H => j ≤ (blk W B i r).length ∧ TwZ.Frm Hs H ∧ ∃ v5 v6 v7, σ = [some (.ref a), some (.ref b), some (.int (i : Nat)), some (.ref c), some (.int (r : Nat)), v5, v6, v7] ∧
    Same Hw H ∧ WhAt K H a W ∧ BkAt K H b B ∧ LvAt K H c (lv W i) ∧ k = smK W B i r + j, ⟨Nat.zero_le _, .refl _, _, _, _, rfl, s3, hW3, hB3, hL3, rfl⟩, ?_⟩
  rintro j Hs k Hw σ H4 ⟨hj, f4, u5, u6, u7, rfl, s4, hW4, hB4, hL4, rfl⟩
  refine ⟨by omega, f4, fun H' z => ?_, fun x H5 z => ?_⟩
  · obtain ⟨z1, z2⟩ := z
    exact ⟨_, _, _, _, rfl, s4.trans z2, hW4.same z2, hB4.same z2, hL4.same z2, by rw [smK_succ, z1]⟩
  obtain ⟨hjl, ⟨T, hT, rfl⟩, s5⟩ := z
  have hW5 := hW4.same s5
  have hB5 := hB4.same s5
  have hL5 := hL4.same s5
  have hTot := ((blk_has ok hi (B := B) (r := (r : Int)) (by omega) (by omega)).1 T (List.mem_of_getElem? hT)).1
  obtain ⟨p1, p2, p3, p4⟩ := prD_in ok hi hTot
  have lp := lowD_pos ok hi
  have hlr := le_reach ok hi
  have hlat : lagM W B (T - prD W i T) (prD W i T) = latT W B i T := lagM_pos (by omega)
  have hsi := smK_at (B := B) hr j hjl
  rw [hT] at hsi
  have hsl : smK W B i r + j < (smp W B i).length := (List.getElem?_eq_some_iff.mp hsi).1
  have hid : Hid ((smp W B i)[smK W B i r + j]? = some T) := hsi
  have hid2 : Hid ((blk W B i r)[j]? = some T) := hT
  clear hsi hT
  try dsimp only [List.set_cons_succ, List.set_cons_zero]
  walk_at "zt"
  refine ⟨a, i, T, rfl, W, hW5, hi, fun p hp => ?_⟩
  have hpt := upd_same (H := H5) (a := p) (o := .tup [.int (T - prD W i T), .int (prD W i T)])
  have n6 := Same.new (o := .tup [.int (T - prD W i T), .int (prD W i T)]) hp
  generalize upd H5 p (.tup [.int (T - prD W i T), .int (prD W i T)]) = H6 at *
  have hW6 := hW5.same n6
  have hB6 := hB5.same n6
  dsimp only
  refine ⟨p, rfl, _, SqT.of hpt, rfl, _, _, rfl, _, _, rfl, rfl, ?_⟩
  unfold TwZ.tGzYield
  walk_at "rsl"
  refine ⟨a, b, T - prD W i T, prD W i T, rfl, W, B, hW6, hB6, p3, by omega, fun z => by omega, fun H7 s7 => ?_⟩
  rw [hlat]
  refine fun p8 hp8 => ?_
  have hp8t := upd_same (H := H7) (a := p8) (o := .tup [.int T, .int (latT W B i T)])
  have n8 := Same.new (o := .tup [.int T, .int (latT W B i T)]) hp8
  generalize upd H7 p8 (.tup [.int T, .int (latT W B i T)]) = H8 at *
  refine ⟨⟨hsl, ⟨T, p8, hid, rfl, hp8t⟩, fun x y z => n8 _ _ (s7 _ _ (n6 _ _ (s5 _ _ (s4 _ _ z))))⟩, fun H9 (f9 : TwZ.Frm H8 H9) => ?_⟩
  have s68 := (n6.trans (s7.trans n8))
  exact ⟨by omega, (Same.frm s68).trans f9, fun _ _ h => h, (hW5.same s68).frm f9, (hB5.same s68).frm f9, (hL5.same s68).frm f9, by omega⟩
/-- which kind -/
def isK (kind : Nat) (late g : Int) : Prop := if kind = 0 then late < 0 else if kind = 1 then g ≤ late else late ≠ 0
instance (kind : Nat) (late g : Int) : Decidable (isK kind late g) := by unfold isK; infer_instance
def kdS (kind : Nat) : Str := if kind = 0 then "early" else if kind = 1 then "late" else "inexact"
def sp_is_kind (K : Frag) : Sp := fun vs H Q _ => ∃ (kind : Nat) (late g : Int), vs = [.str (kdS kind), .int late, .int g] ∧ kind < 3 ∧ Q (.bl (decide (isK kind late g))) H
def t_is_kind (K : Frag) (w : World) : TS :=
  (tSeq (tIfS (tTest (tOp rEq (tVar 0) (tC (.str "early")))) (tRet (tOp oLt (tVar 1) (tC (.int 0)))) tNext)
  (tSeq (tIfS (tTest (tOp rEq (tVar 0) (tC (.str "late")))) (tRet (tOp oGe (tVar 1) (tVar 2))) tNext)
  (tRet (tOp rNe (tVar 1) (tC (.int 0))))))
def n_is_kind : List Str := ["kind", "late", "grain"]
theorem rd_is_kind (vs : List V) (H : Hp) (Q : VK) (E : XK) (h : sp_is_kind K vs H Q E) : t_is_kind K w { nx := fun _ H' => Q .non H', rt := Q } (L2.start n_is_kind vs) H := by
  obtain ⟨kind, late, g, rfl, hk, q⟩ := h
  unfold t_is_kind n_is_kind
  rw [seq1]
  match kind, hk with
  | 0, _ =>
    walk_at "rsl"
    rw [if_pos (show kdS 0 = Str.ofString "early" from rfl)]
    exact q
  | 1, _ =>
    walk_at "rsl"
    rw [if_neg (show ¬ kdS 1 = Str.ofString "early" by decide)]
    rw [seq1]
    walk_at "rsl"
    rw [if_pos (show kdS 1 = Str.ofString "late" from rfl)]
    exact q
  | 2, _ =>
    walk_at "rsl"
    rw [if_neg (show ¬ kdS 2 = Str.ofString "early" by decide)]
    rw [seq1]
    walk_at "rsl"
    rw [if_neg (show ¬ kdS 2 = Str.ofString "late" by decide)]
    have e : (!decide (late = 0)) = decide (isK 2 late g) := by
      show (!decide (late = 0)) = decide (late ≠ 0)
      by_cases h : late = 0 <;> simp [h]
    rw [e]
    exact q
end
section
variable {W : List Lv} {B : Bk} {i kind : Nat}
/-- the least sum of a kind so far -/
def nxK (W : List Lv) (B : Bk) (i kind : Nat) (o : Option Int) (T : Int) : Option Int := if isK kind (latT W B i T) (lv W i).g ∧ (o = none ∨ ∃ m, o = some m ∧ T < m) then some T else o
def lsK (W : List Lv) (B : Bk) (i kind : Nat) (l : List Int) : Option Int := l.foldl (nxK W B i kind) none
theorem lsK_snoc (l : List Int) (T : Int) : lsK W B i kind (l ++ [T]) = nxK W B i kind (lsK W B i kind l) T := by
  unfold lsK
  rw [List.foldl_append]
  rfl
def LsIs (W : List Lv) (B : Bk) (i kind : Nat) (l : List Int) (o : Option Int) : Prop := match o with
  | none => ∀ T ∈ l, ¬ isK kind (latT W B i T) (lv W i).g
  | some m => m ∈ l ∧ isK kind (latT W B i m) (lv W i).g ∧ ∀ T ∈ l, isK kind (latT W B i T) (lv W i).g → m ≤ T
theorem lsK_is : ∀ (k : Nat) (l : List Int), l.length = k → LsIs W B i kind l (lsK W B i kind l)
  | 0, l, h => by
    obtain rfl := List.length_eq_zero_iff.mp h
    exact fun T hT => absurd hT List.not_mem_nil
  | k + 1, l, h => by
    have hne : l ≠ [] := fun z => by rw [z] at h; cases h
    have e := List.dropLast_concat_getLast hne
    generalize l.dropLast = l0 at e
    generalize l.getLast hne = T at e
    subst e
    have ih := lsK_is k l0 (by simpa using h)
    rw [lsK_snoc]
    cases ho : lsK W B i kind l0 with
    | none =>
      rw [ho] at ih
      have ih : ∀ T ∈ l0, ¬ isK kind (latT W B i T) (lv W i).g := ih
      unfold nxK
      by_cases hk : isK kind (latT W B i T) (lv W i).g
      · rw [if_pos ⟨hk, .inl rfl⟩]
        refine ⟨List.mem_append_right _ (List.mem_singleton.mpr rfl), hk, fun T' h' hk' => ?_⟩
        rcases List.mem_append.mp h' with h' | h'
        · exact absurd hk' (ih T' h')
        · rw [List.mem_singleton.mp h']; exact Int.le_refl _
      · rw [if_neg (fun z => hk z.1)]
        intro T' h'
        rcases List.mem_append.mp h' with h' | h'
        · exact ih T' h'
        · rw [List.mem_singleton.mp h']; exact hk
    | some m =>
      rw [ho] at ih
      obtain ⟨i1, i2, i3⟩ : m ∈ l0 ∧ isK kind (latT W B i m) (lv W i).g ∧ ∀ T ∈ l0, isK kind (latT W B i T) (lv W i).g → m ≤ T := ih
      unfold nxK
      by_cases hk : isK kind (latT W B i T) (lv W i).g ∧ T < m
      · rw [if_pos ⟨hk.1, .inr ⟨m, rfl, hk.2⟩⟩]
        refine ⟨List.mem_append_right _ (List.mem_singleton.mpr rfl), hk.1, fun T' h' hk' => ?_⟩
        rcases List.mem_append.mp h' with h' | h'
        · have := i3 T' h' hk'; omega
        · rw [List.mem_singleton.mp h']; exact Int.le_refl _
      · rw [if_neg (fun z => hk ⟨z.1, by obtain ⟨m', e, h⟩ := z.2.resolve_left (fun y => by cases y); cases e; exact h⟩)]
        refine ⟨List.mem_append_left _ i1, i2, fun T' h' hk' => ?_⟩
        rcases List.mem_append.mp h' with h' | h'
        · exact i3 T' h' hk'
        · rw [List.mem_singleton.mp h'] at hk' ⊢
          rcases Int.lt_or_le T m with y | y
          · exact absurd ⟨hk', y⟩ hk
          · exact y
/-- the first timer of a kind, by delay, then by start -/
def KindIs (W : List Lv) (B : Bk) (kind : Nat) (o : Option (Int × Int)) : Prop := match o with
  | none => ∀ i d s, levelOf W d = some i → 1 ≤ d → 0 ≤ s → ¬ isK kind (lat W B s d) (lv W i).g
  | some (s, d) => ∃ i, levelOf W d = some i ∧ 1 ≤ d ∧ 0 ≤ s ∧ s < (lv W i).g ∧ isK kind (lat W B s d) (lv W i).g ∧
    ∀ i' d' s', levelOf W d' = some i' → 1 ≤ d' → 0 ≤ s' → isK kind (lat W B s' d') (lv W i').g → d < d' ∨ d = d' ∧ s ≤ s'
theorem kind_none (ok : WOk W) (hb3 : B.bey < 3) (hi : i < W.length) (h : LsIs W B i kind (smp W B i) none) {d s : Int} (hd : levelOf W d = some i) (h1 : 1 ≤ d) (h0 : 0 ≤ s) : ¬ isK kind (lat W B s d) (lv W i).g := fun hk => by
  have hg := (ok.all i hi).1
  rw [lat_mod ok hb3 h1 hd] at hk
  obtain ⟨y, y1, y2, y3⟩ := smp_has ok hi (B := B) (tot_of ok h1 hd (Int.emod_nonneg s (by omega)) (Int.emod_lt_of_pos s (by omega)))
  rw [y3] at hk
  exact h y y1 hk
theorem kind_some (ok : WOk W) (hb3 : B.bey < 3) (hi : i < W.length) {m : Int} (h : LsIs W B i kind (smp W B i) (some m)) (hn : ∀ i' d s, i' < i → levelOf W d = some i' → 1 ≤ d → 0 ≤ s → ¬ isK kind (lat W B s d) (lv W i').g) :
    KindIs W B kind (some (m - prD W i m, prD W i m)) := by
  obtain ⟨h1, h2, h3⟩ := h
  have hT := smp_in ok hi h1
  obtain ⟨p1, p2, p3, p4⟩ := prD_in ok hi hT
  have lp := lowD_pos ok hi
  have hl := level_in ok hi p1 p2
  refine ⟨i, hl, by omega, p3, p4, ?_, fun i' d' s' hd' h1' h0' hk' => ?_⟩
  · rw [lat_of ok (by omega) hl p3 p4, show m - prD W i m + prD W i m = m by omega]
    exact h2
  · obtain ⟨a, b, c⟩ := in_lv ok h1' hd'
    rcases Nat.lt_trichotomy i' i with z | z | z
    · exact absurd hk' (hn i' d' s' z hd' h1' h0')
    · subst z
      have hg := (ok.all i' hi).1
      have e0 := Int.emod_nonneg s' (b := (lv W i').g) (by omega)
      have e1 := Int.emod_lt_of_pos s' (b := (lv W i').g) (by omega)
      rw [lat_mod ok hb3 h1' hd'] at hk'
      obtain ⟨y, y1, y2, y3⟩ := smp_has ok hi (B := B) (tot_of ok h1' hd' e0 e1)
      rw [y3] at hk'
      have := h3 y y1 hk'
      have e2 : s' % (lv W i').g ≤ s' := by
        have := Int.emod_add_mul_ediv s' (lv W i').g
        have : 0 ≤ (lv W i').g * (s' / (lv W i').g) := Int.mul_nonneg (by omega) (Int.ediv_nonneg h0' (by omega))
        omega
      have hp : prD W i' m ≤ d' := by
        unfold prD
        omega
      rcases Int.lt_or_le (prD W i' m) d' with q | q
      · exact .inl q
      · exact .inr ⟨by omega, by omega⟩
    · have := lowD_le ok z a
      exact .inl (by omega)
end
section
variable {K : Frag} {w : World}
end
end Tw
/-! Tw: the placements of a timer, in plain Lean -/
namespace Tw
open PySem TwM
/-- a placement: its tick and the timer behind it -/
abbrev Stp := Int × Spot
/-- those of one visit -/
def jvis (t : Int) : List (Option Spot) → List Stp
  | [] => []
  | none :: _ => []
  | some s :: os => (t, s) :: jvis t os
/-- those behind a tick -/
def jstep (W : List Lv) (B : Bk) : Nat → Spot → Int → List Stp
  | 0, _, _ => []
  | n + 1, sp, tick =>
    let t := va (lv W sp.lv) sp.pt tick
    let os := visited W B sp (t - 1) t
    jvis t os ++ match os.getLast? with
      | some (some s) => jstep W B n s t
      | _ => []
def jny (W : List Lv) (B : Bk) (now d : Int) : List Stp := match placeM W B now d with
  | none => []
  | some sp => (now, sp) :: jstep W B (mu sp now) sp now
theorem jstep_mono {W : List Lv} {B : Bk} (ok : WOk W) : ∀ (n : Nat) {sp : Spot} {tick : Int}, sp.lv < W.length → mu sp tick ≤ n → ∀ m, n ≤ m → jstep W B m sp tick = jstep W B n sp tick
  | 0, sp, tick, _, h, _, _ => by unfold mu at h; split at h <;> omega
  | n + 1, sp, tick, hl, h, m, hm => by
    obtain ⟨m, rfl⟩ : ∃ k, m = k + 1 := ⟨m - 1, by omega⟩
    have hgt := va_step ok hl sp.pt tick
    unfold jstep
    dsimp only
    congr 1
    cases hq : (visited W B sp (va (lv W sp.lv) sp.pt tick - 1) (va (lv W sp.lv) sp.pt tick)).getLast? with
    | none => rfl
    | some o =>
      cases o with
      | none => rfl
      | some s =>
        obtain ⟨h1, h2, _⟩ := mu_step ok hgt.1 hq
        exact jstep_mono ok n h2 (by omega) m (by omega)
/-- as many steps as the timer needs -/
def jgo (W : List Lv) (B : Bk) (sp : Spot) (tick : Int) : List Stp := jstep W B (mu sp tick) sp tick
theorem jgo_eq {W : List Lv} {B : Bk} (ok : WOk W) {sp : Spot} {tick : Int} (hl : sp.lv < W.length) : jgo W B sp tick = jvis (va (lv W sp.lv) sp.pt tick) (visited W B sp (va (lv W sp.lv) sp.pt tick - 1) (va (lv W sp.lv) sp.pt tick)) ++
    match (visited W B sp (va (lv W sp.lv) sp.pt tick - 1) (va (lv W sp.lv) sp.pt tick)).getLast? with
      | some (some s) => jgo W B s (va (lv W sp.lv) sp.pt tick)
      | _ => [] := by
  have h1 : 1 ≤ mu sp tick := by unfold mu; split <;> omega
  have hgt := va_step ok hl sp.pt tick
  unfold jgo
  rw [show mu sp tick = (mu sp tick - 1) + 1 by omega]
  conv => lhs; unfold jstep
  dsimp only
  congr 1
  cases hq : (visited W B sp (va (lv W sp.lv) sp.pt tick - 1) (va (lv W sp.lv) sp.pt tick)).getLast? with
  | none => rfl
  | some o =>
    cases o with
    | none => rfl
    | some s =>
      obtain ⟨h2, h3, _⟩ := mu_step ok hgt.1 hq
      exact jstep_mono ok _ h3 (Nat.le_refl _) _ (by omega)
theorem jny_some {W : List Lv} {B : Bk} {now d : Int} {sp : Spot} (h : placeM W B now d = some sp) : jny W B now d = (now, sp) :: jgo W B sp now := by unfold jny; rw [h]; rfl
theorem jny_none {W : List Lv} {B : Bk} {now d : Int} (h : placeM W B now d = none) : jny W B now d = [] := by unfold jny; rw [h]
/-- what stands behind one visit: the first k are some -/
theorem jvis_at {t : Int} : ∀ {os : List (Option Spot)} {k : Nat} {s : Spot}, (∀ j, j < k → ∃ s', os[j]? = some (some s')) → os[k]? = some (some s) → (jvis t os)[k]? = some (t, s)
  | [], _, _, _, h => by simp at h
  | none :: os, 0, s, _, h => by simp at h
  | none :: os, k + 1, s, hk, _ => by obtain ⟨s', h⟩ := hk 0 (by omega); simp at h
  | some s0 :: os, 0, s, _, h => by
    simp at h
    subst h
    rfl
  | some s0 :: os, k + 1, s, hk, h => by
    show (jvis t os)[k]? = some (t, s)
    exact jvis_at (fun j hj => by have := hk (j + 1) (by omega); simpa using this) (by simpa using h)
theorem jvis_all {t : Int} : ∀ {os : List (Option Spot)}, (∀ o ∈ os, o ≠ none) → (jvis t os).length = os.length
  | [], _ => rfl
  | none :: os, h => absurd rfl (h none List.mem_cons_self)
  | some s :: os, h => by
    show (jvis t os).length + 1 = os.length + 1
    rw [jvis_all fun o ho => h o (List.mem_cons_of_mem _ ho)]
theorem jvis_cut {t : Int} : ∀ {os : List (Option Spot)} {k : Nat}, (∀ j, j < k → ∃ s', os[j]? = some (some s')) → os[k]? = some none → (jvis t os).length = k
  | [], _, _, h => by simp at h
  | none :: os, 0, _, _ => rfl
  | none :: os, k + 1, hk, _ => by obtain ⟨s', h⟩ := hk 0 (by omega); simp at h
  | some s0 :: os, 0, _, h => by simp at h
  | some s0 :: os, k + 1, hk, h => by
    show (jvis t os).length + 1 = k + 1
    rw [jvis_cut (k := k) (fun j hj => by have := hk (j + 1) (by omega); simpa using this) (by simpa using h)]
/-- None ends a visit -/
theorem visGo_end {W : List Lv} {B : Bk} {b n : Int} : ∀ (is : List Nat) {sp : Spot} {j k : Nat}, (visGo W B b n is sp)[k]? = some none → j < (visGo W B b n is sp).length → j ≤ k
  | [], sp, j, k, h, _ => by simp [visGo] at h
  | i :: is, sp, j, k, h, hj => by
    unfold visGo at h hj
    by_cases c : sp.lv = i ∧ isVis (lv W i) sp.pt b n = true
    · rw [if_pos c] at h hj
      cases ht : taken W B sp n with
      | none =>
        rw [ht] at hj
        simp at hj
        omega
      | some s' =>
        rw [ht] at h hj
        cases k with
        | zero => simp at h
        | succ k =>
          cases j with
          | zero => omega
          | succ j =>
            have := visGo_end is (j := j) (k := k) (by simpa using h) (by simpa using hj)
            omega
    · rw [if_neg c] at h hj
      exact visGo_end is h hj
end Tw
/-! a generator that walks a list of its own: the list is locked from its making on, so it stays while the generator sleeps -/
namespace TwZ
open PySem L2 PySem.Spec PyProof.Rows GenW
/-- the value of e; what it names is read only from here on -/
def tFrz (te : TE) : TE := fun σ H Q => te σ H fun v H1 => ∃ d u, v = .ref d ∧ H1 d = some u ∧ Mut (some u) ∧ ∀ od, Q v (upd H1 d (.frz od u))
theorem pe_frz {X : Cx} {e : Expr} {te : TE} (h : PE X e te) : PE X e (tFrz te) := by
  refine ⟨fun pins s σ H Q I hw => ?_⟩
  refine thn (h.run pins s σ _ _ I hw) fun v s1 ⟨x, H1, I1, r, d, u, ex, hd, mu, q⟩ => ?_
  obtain ⟨od, I2⟩ := I1.lock hd mu
  exact ⟨x, _, I2, r, q od⟩
/-- a loop over the list at a, in a generator -/
def GzL (K : PySem.W.Frag) (a : Addr) (gt : TG) (tb : TGz) (D : GEz) (i : Nat) (Hw : Hp) (σ : L2.St) (H : Hp) : Prop := ∃ Y : Nat → Nat → Nat → Hp → L2.St → Hp → Prop, (∃ m, Y 0 m i Hw σ H) ∧ ∀ j m i Hw σ H, Y j m i Hw σ H →
      ((Itl K a).stop j H ∧ D.nx i Hw σ H) ∨ ((Itl K a).go j H ∧ ∃ Nx : Nat → Hp → L2.St → Hp → Prop, (∀ i' Hw' σ' H', Nx i' Hw' σ' H' → ∃ m', m' < m ∧ Y (j + 1) m' i' Hw' σ' H') ∧ ∀ x H', (Itl K a).yld j H x H' → gt x σ H' fun σ2 H2 => tb { D with nx := Nx, ct := Nx, bk := D.nx } i Hw σ2 H2)
theorem gzl_eq {K : PySem.W.Frag} {te : TE} {gt : TG} {tb : TGz} {D : GEz} {i : Nat} {Hw : Hp} {σ : L2.St} {H : Hp} : tGzFor (iList K (tFrz te)) gt tb D i Hw σ H =
    te σ H (fun v H1 => ∃ d u, v = .ref d ∧ H1 d = some u ∧ Mut (some u) ∧ ∀ od, ∃ a, v = .ref a ∧ (∃ xs, SqL K (upd H1 d (.frz od u)) a xs) ∧ GzL K a gt tb D i Hw σ (upd H1 d (.frz od u))) := rfl
theorem gzL {K : PySem.W.Frag} {a : Addr} {xs : List V} {gt : TG} {tb : TGz} {D : GEz} {i : Nat} {Hw : Hp} {σ : L2.St} {H : Hp} (Pv : Nat → Nat → Hp → L2.St → Hp → Prop) (h0 : Pv 0 i Hw σ H) (hl : ∀ j i Hw σ H, j ≤ xs.length → Pv j i Hw σ H → SqL K H a xs)
    (hs : ∀ j x i Hw σ H, xs[j]? = some x → Pv j i Hw σ H → gt x σ H fun σ2 H2 => tb { D with nx := Pv (j + 1), ct := Pv (j + 1), bk := D.nx } i Hw σ2 H2) (hd : ∀ i Hw σ H, Pv xs.length i Hw σ H → D.nx i Hw σ H) : GzL K a gt tb D i Hw σ H := by
  refine ⟨fun j m i Hw σ H => m = xs.length - j ∧ j ≤ xs.length ∧ Pv j i Hw σ H, ⟨xs.length, by simp, Nat.zero_le _, h0⟩, ?_⟩
  rintro j m i Hw σ H ⟨rfl, hj, p⟩
  have q := hl j i Hw σ H hj p
  by_cases hlt : j < xs.length
  · refine .inr ⟨⟨xs, xs[j], q, by simp [hlt]⟩, Pv (j + 1), fun i' Hw' σ' H' p' => ⟨xs.length - (j + 1), by omega, rfl, hlt, p'⟩, fun x H' y => ?_⟩
    obtain ⟨e, y⟩ := y
    subst e
    exact hs j x i Hw σ _ (y xs q) p
  · have e : j = xs.length := by omega
    subst e
    exact .inl ⟨⟨xs, q, Nat.le_refl _⟩, hd i Hw σ H p⟩
end TwZ
/-! list comprehensions over generators -/
namespace TwZ
open PySem L2 PySem.Spec PyProof.Rows GenW

/-- what a block knows of a generator that was made ahead of it -/
structure LowB (X : Cx) (lo : Addr) (PN : List (Addr × Obj)) (D : Addr) : Prop where
  cel : ∀ x c, X.env.cells.lookup x = some c → c < lo
  ex : ∀ b, lo ≤ b → b < X.s_0.heap.objs.size → b ≠ D → (∀ p ∈ PN, p.1 ≠ b) → b ∈ X.ex
  pn0 : X.pn = []
  fs : ∀ b ∈ frs X.stack, b < lo
  st : X.outer = X.stack
  loc : lo ≤ X.env.locals
  dl : D ≠ X.env.locals
  sz : lo ≤ X.s_0.heap.objs.size
  pin : ∀ p ∈ PN, p.1 ∉ frs X.stack ∧ (∀ v, p.2.data ≠ .cell v) ∧ p.1 ≠ X.env.locals ∧ X.s_0.heap.get? p.1 = some p.2 ∧ X.H_0 p.1 = none ∧ p.1 ∉ X.ex
section
variable {X : Cx} {σ : L2.St} {H H' : Hp} {s s1 : Shared} {lo a D : Addr} {g : Nat} {PN : List (Addr × Obj)} {ob : List (Addr × Obj)} {og : List (Nat × GenState)} {gs : GenState} {G : Array GenState}
theorem LowB.at_ (L : LowB X lo PN D) (I : Inv X [] σ H s) : ∀ p ∈ PN, s.heap.get? p.1 = some p.2 ∧ H p.1 = none := fun p hp => by
  obtain ⟨h1, h2, h3, h4, h5, h6⟩ := L.pin p hp
  have hfs : p.1 ∉ X.fs := fun z => h1 (by rw [← L.st]; exact z)
  exact ⟨I.base.keep _ _ h4 h5 hfs h6, I.base.free _ _ h4 h5 h6⟩
theorem inv_kptB (I : Inv X [] σ H s) (L : LowB X lo PN D) {oC : Obj} (hC : s.heap.get? X.env.locals = some oC) (hD : ∃ xs, H D = some (.lst xs)) (hD' : ∃ xs, H' D = some (.lst xs)) (k : Kpt X.prog X.w lo (frs X.stack) (PN ++ [(X.env.locals, oC)]) H H' s s1) : Inv X [] σ H' s1 := by
  obtain ⟨h', g', d', t', os'⟩ := s1
  obtain ⟨kos, kb, ku, kok, kp, _⟩ := k
  have e : os' = s.os := kos
  subst e
  have low : ∀ b o, s.heap.get? b = some o → b ∉ (List.range s.heap.objs.size).filter (fun b => decide (lo ≤ b ∧ b ≠ D ∧ b ≠ X.env.locals ∧ ∀ p ∈ PN, p.1 ≠ b)) → b < lo ∨ b = D ∨ b = X.env.locals ∨ ∃ p ∈ PN, p.1 = b := fun b o e n => by
    refine Classical.byContradiction fun q => n ?_
    refine List.mem_filter.mpr ⟨List.mem_range.mpr (Heap.lt_size e), decide_eq_true ⟨?_, ?_, ?_, fun p hp y => q (.inr (.inr (.inr ⟨p, hp, y⟩)))⟩⟩
    · exact Nat.le_of_not_lt fun z => q (.inl z)
    · exact fun z => q (.inr (.inl z))
    · exact fun z => q (.inr (.inr (.inl z)))
  have pinned : ∀ b o, s.heap.get? b = some o → (∃ p ∈ PN, p.1 = b) → h'.get? b = some o ∧ H' b = none := fun b o e ⟨p, hp, y⟩ => by
    subst y
    obtain ⟨z1, _⟩ := L.at_ I p hp
    rw [e] at z1; cases z1
    exact kp p (List.mem_append_left _ hp)
  have locd : ∀ o, s.heap.get? X.env.locals = some o → h'.get? X.env.locals = some o ∧ H' X.env.locals = none := fun o e => by
    rw [hC] at e; cases e
    exact kp _ (List.mem_append_right _ (List.mem_singleton.mpr rfl))
  obtain ⟨oD, hD⟩ := hD
  obtain ⟨oD', hD'⟩ := hD'
  have noD : ∀ {b}, b = D → H b = none → False := fun {b} z n => by rw [z, hD] at n; cases n
  refine I.step (g' := g') (t' := t') (d' := d') (ch := (List.range s.heap.objs.size).filter (fun b => decide (lo ≤ b ∧ b ≠ D ∧ b ≠ X.env.locals ∧ ∀ p ∈ PN, p.1 ≠ b))) (fun b hb => ?_) (fun b o hl hf hc e n => ?_) (fun b o hl hf hc e n => ?_) (fun b o hc e n => ?_) (fun b o hc e => ?_) ku.tups ku.frzs ku.tbls (fun m' hm => ?_) kok kb
  · obtain ⟨q1, q2, q3, q4⟩ := of_decide_eq_true (List.mem_filter.mp hb).2
    refine ⟨?_, q3, fun x c e z => ?_, fun p hp => ?_⟩
    · by_cases z : b < X.s_0.heap.objs.size
      · exact .inl (L.ex b q1 z q2 q4)
      · exact .inr (Nat.le_of_not_lt z)
    · exact absurd (L.cel x c e) (Nat.not_lt.mpr (by rw [z]; exact q1))
    · rw [L.pn0] at hp
      exact absurd hp List.not_mem_nil
  · rcases low b o e hc with z | z | z | z
    · exact ku.keep b o z e n fun y => hf (show b ∈ frs X.outer by rw [L.st]; exact y)
    · exact (noD z n).elim
    · exact absurd z hl
    · exact (pinned b o e z).1
  · rcases low b o e hc with z | z | z | z
    · exact ku.slot b o z e n
    · exact (noD z n).elim
    · exact absurd z hl
    · exact ⟨o.slots, (pinned b o e z).1⟩
  · rcases low b o e hc with z | z | z | z
    · exact ku.free b o z e n
    · exact (noD z n).elim
    · subst z; exact (locd o e).2
    · exact (pinned b o e z).2
  · rcases low b o e hc with z | z | z | z
    · exact ku.there b o z e
    · subst z
      obtain ⟨_, _, _, _, e⟩ := kok _ _ hD'
      exact ⟨_, e⟩
    · subst z; exact ⟨o, (locd o e).1⟩
    · exact ⟨o, (pinned b o e z).1⟩
  · obtain ⟨o', es', ep', ho', r'⟩ := hm
    exact ⟨_, es', ep', (locd _ ho').1, r'⟩
/-- a generator asleep beside a block -/
structure AtB (X : Cx) (PN : List (Addr × Obj)) (lo a : Addr) (g : Nat) (ob : List (Addr × Obj)) (og : List (Nat × GenState)) (gs : GenState) (H : Hp) (s : Shared) : Prop where
  own : Own lo a g H s ob og
  ne : ∀ p ∈ ob, p.1 ≠ X.env.locals ∧ ∀ q ∈ PN, q.1 ≠ p.1
  gen : s.gens[g]? = some gs
  nog : nog gs = true
theorem AtB.isgen (h : AtB X PN lo a g ob og gs H s) : s.heap.IsGen a g := by
  obtain ⟨o, nm, qn, hm, oc, od, osl⟩ := h.own.isgen
  exact ⟨o, nm, qn, (h.own.obs _ hm).1, oc, od, osl⟩
theorem AtB.mem (h : AtB X PN lo a g ob og gs H s) : ∃ o, s.heap.get? a = some o ∧ o.cls = .type "generator" ∧ ∃ vs, o.data = .fields vs := by
  obtain ⟨o, nm, qn, ho, oc, od, _⟩ := h.isgen
  exact ⟨o, ho, oc, _, od⟩
theorem AtB.pin (L : LowB X lo PN D) (I : Inv X [] σ H s) (h : AtB X PN lo a g ob og gs H s) : Inv X ob σ H s := I.pins_of fun p hp => by
  obtain ⟨z1, z2, z3, z4⟩ := h.own.obs p hp
  refine ⟨z1, z2, (h.ne p hp).1, fun y => ?_, z4⟩
  have y : p.1 ∈ frs X.outer := y
  rw [L.st] at y
  exact absurd (L.fs _ y) (Nat.not_lt.mpr z3)
theorem AtB.on {σ' : L2.St} {s' : Shared} (h : AtB X PN lo a g ob og gs H s) (sl : slp gs = true) (J : Inv X ob σ' H' s') (hs : Slps s.gens G) : AtB X PN lo a g ob og gs H' { s' with gens := G } := by
  have q : ∀ p ∈ ob, s'.heap.get? p.1 = some p.2 ∧ H' p.1 = none := fun p hp => let ⟨a, b, _⟩ := J.pin p (List.mem_append_right _ hp); ⟨a, b⟩
  refine ⟨⟨h.own.isgen, fun p hp => ?_, fun q hq => ?_⟩, h.ne, hs g gs h.gen sl, h.nog⟩
  · obtain ⟨_, _, z3, z4⟩ := h.own.obs p hp
    exact ⟨(q p hp).1, (q p hp).2, z3, z4⟩
  · obtain ⟨z1, z2, z3⟩ := h.own.ogs q hq
    exact ⟨hs q.1 q.2 z1 z2, z2, z3⟩
theorem go_gB {P : Program} {w : World} {A : Around} {E : Value → Shared → Prop} {tg : Expr} {u : Value} {Q : Unit → Shared → Prop} (h : AtB X PN lo a g ob og gs H s) (hQ : Q () s) : wpAny (model P w) A (letOwnedTupleGo tg (.ref a) u) Q E s := by
  obtain ⟨o, ho, hc, vs, hd⟩ := h.mem
  exact go_of ho hc hd (by decide) hQ
theorem AtB.wkd (L : LowB X lo PN D) (I : Inv X [] σ H s) {oC : Obj} (hC : s.heap.get? X.env.locals = some oC) (hd : ∀ v, oC.data ≠ .cell v) (h : AtB X PN lo a g ob og gs H s) : Wkd X.prog X.w X.base X.stack g ob og (PN ++ [(X.env.locals, oC)]) H (s.setGen g .running) where
  hok := I.hok
  bare := allBare_setGen I.bare rfl
  bs := I.bs
  funs := I.stack
  frf := I.stkFree
  obs := fun p hp => let ⟨a, b, _⟩ := h.own.obs p hp; ⟨a, b⟩
  ogs := fun q hq => by
    obtain ⟨a, _, c, _⟩ := h.own.ogs q hq
    rw [setGen_get _ _ (Nat.ne_of_gt c)]
    exact a
  pin := fun p hp => by
    rcases List.mem_append.mp hp with hp | hp
    · obtain ⟨z1, z2⟩ := L.at_ I p hp
      obtain ⟨h1, h2, _⟩ := L.pin p hp
      exact ⟨z1, z2, h1, h2, fun q hq => (h.ne q hq).2 p hp⟩
    · rw [List.mem_singleton.mp hp]
      exact ⟨hC, I.free, fun y => absurd (L.fs _ y) (Nat.not_lt.mpr L.loc), hd, fun q hq => Ne.symm (h.ne q hq).1⟩
  gsz := by
    show g < (s.setGen g .running).gens.size
    rw [setGen_size]
    exact gsz_of h.gen
/-- NEXT from within a block -/
theorem next_zB {J : Gt} {Hs : Hp} {E : Value → Shared → Prop} {n i : Nat} {A : Around} (I : Inv X [] σ H s) (hA : A = X.A) (hc : X.calm = true) (hd : A.depth < recursionLimit) (L : LowB X lo PN D) (h : AtB X PN lo a g ob og gs H s)
    (hS : Asl ⟨X.prog, X.w, X.base, A.in1, X.stack, lo, a, g, J⟩ (n + 1) i Hs ob og gs) (hgs : slp gs = true ∨ ∃ c, gs = .fresh c) (hp : J.pre i Hs H) (hD : ∃ xs, H D = some (.lst xs)) (hy : ∀ x H', J.yld i H x H' → ∃ xs, H' D = some (.lst xs)) (hf : ∀ H', J.fin i H H' → ∃ xs, H' D = some (.lst xs)) :
    wpAny (model X.prog X.w) A (pyNext (.ref a)) (fun r s1 => (∃ u x H' ob' og' gs', r = some u ∧ RelV x u ∧ J.yld i H x H' ∧ Inv X [] σ H' s1 ∧ AtB X PN lo a g ob' og' gs' H' s1 ∧ slp gs' = true ∧ Asl ⟨X.prog, X.w, X.base, A.in1, X.stack, lo, a, g, J⟩ n (i + 1) H' ob' og' gs') ∨
      (r = none ∧ ∃ H', J.fin i H H' ∧ Inv X [] σ H' s1)) E s := by
  have hgen := h.isgen
  obtain ⟨m, ⟨oC, es, ep, hoC, dC, _⟩, _⟩ := id I.loc
  have hcell : ∀ v, oC.data ≠ .cell v := fun v z => by rw [dC] at z; cases z
  refine next_g (Φ := Out ⟨X.prog, X.w, X.base, A.in1, X.stack, lo, a, g, J⟩ n i ⟨H, s.setGen g .running, PN ++ [(X.env.locals, oC)], og.map (·.1)⟩) (by rw [hA]; exact I.ok.hd hc) I.nolimit hd hgen h.gen (asl_succ.mp hS H _ _ (h.wkd L I hoC hcell) hp) (fun v gd l k c p fs s1 z hb => ?_) (fun r s1 z => ?_)
  · obtain ⟨x, H', ob', og', y, rv, kp, ow, nw, nq, ng, sl⟩ := z
    have kp' : Kpt X.prog X.w lo (frs X.stack) (PN ++ [(X.env.locals, oC)]) H H' s (s1.setGen g (End.susp v gd l k c p fs).genState) := ⟨kp.os, allBare_setGen kp.bare hb, kp.un, kp.hok, kp.pins, by
      have q := kp.gsz
      have q' : s.gens.size ≤ s1.gens.size := by rw [show (Wk.s ⟨H, s.setGen g .running, PN ++ [(X.env.locals, oC)], og.map (·.1)⟩).gens.size = s.gens.size from setGen_size s g .running] at q; exact q
      rw [setGen_size]; exact q'⟩
    have J1 := inv_kptB I L hoC hD (hy x H' y) kp'
    have gl : g < s1.gens.size := by
      have q := kp.gsz
      rw [show (Wk.s ⟨H, s.setGen g .running, PN ++ [(X.env.locals, oC)], og.map (·.1)⟩).gens.size = s.gens.size from setGen_size s g .running] at q
      exact Nat.lt_of_lt_of_le (gsz_of h.gen) q
    refine .inl ⟨v, x, H', ob', og', _, rfl, rv, y, J1, ⟨⟨ow.isgen, ow.obs, fun q hq => ?_⟩, fun p hp => ⟨fun z => ?_, fun q hq => nw q (List.mem_append_left _ hq) p hp⟩, setGen_at gl, ng⟩, rfl, sl⟩
    · obtain ⟨a1, a2, a3, a4⟩ := ow.ogs q hq
      have a3' : g < q.1 := a3
      exact ⟨by rw [setGen_get _ _ (Nat.ne_of_gt a3')]; exact a1, a2, a3, a4⟩
    · exact nw _ (List.mem_append_right _ (List.mem_singleton.mpr rfl)) p hp z.symm
  · obtain ⟨hr, H', hfi, kp⟩ := z
    refine ⟨hr, fun h' hk => .inr ⟨rfl, H', hfi, ?_⟩⟩
    have kp' : Kpt X.prog X.w lo (frs X.stack) (PN ++ [(X.env.locals, oC)]) H H' s (s1.setGen g .finished) := ⟨kp.os, allBare_setGen kp.bare rfl, kp.un, kp.hok, kp.pins, by
      have q := kp.gsz
      rw [show (Wk.s ⟨H, s.setGen g .running, PN ++ [(X.env.locals, oC)], og.map (·.1)⟩).gens.size = s.gens.size from setGen_size s g .running] at q
      rw [setGen_size]; exact q⟩
    exact (inv_kptB I L hoC hD (hf H' hfi) kp').kept (t' := s1.toks) hk
/-- a step of a block's code beside the sleeper -/
theorem stepB {α : Type} {t : Sem α} {A : Around} {Q : α → L2.St → Hp → Prop} {M : Model} {E : Value → Shared → Prop} (L : LowB X lo PN D) (I : Inv X [] σ H s) (h : AtB X PN lo a g ob og gs H s) (sl : slp gs = true)
    (ht : ∀ s0, Inv X ob σ H s0 → wpAny M A t (fun v s' => ∃ σ' H', Inv X ob σ' H' s' ∧ Q v σ' H') (fun _ _ => False) s0) : wpAny M A t (fun v s' => ∃ σ' H', Inv X [] σ' H' s' ∧ AtB X PN lo a g ob og gs H' s' ∧ Q v σ' H') E s := by
  have I5 := h.pin L I
  refine beside (ht _ (inv_gens I5 (dulls_bare I5.bare))) (fun v s6 G6 ⟨σ6, H6, I6, q6⟩ hs6 hb6 _ _ => ?_) fun e s' G q _ _ _ _ => q.elim
  exact ⟨σ6, H6, (inv_gens I6 (hb6 I6.bare)).unpinned, h.on sl I6 hs6, q6⟩
end
/-- what a turn does within the block: store, tests, the element put behind the new list -/
def turnG (g : TG) (tt : TT) (te : TE) (vs : List Nat) (D : Addr) (σw : L2.St) (Vn : Hp → Prop) (x : V) (H : Hp) : Prop :=
  g x σw H fun σ2 H2 => wipe σ2 vs = σw ∧ tt σ2 H2 fun b H3 => if b = true then te σ2 H3 fun y H4 => ∃ acc, H4 D = some (.lst acc) ∧ acc.length < sizeLine ∧ Vn (upd H4 D (.lst (acc ++ [y]))) else Vn H3
/-- [elt for target in g(..) if ..]: D the new list; V by the turn, the heap when the generator fell asleep, the heap now -/
def tLcG (wg : TIG) (g : TG) (tt : TT) (te : TE) (vs : List Nat) : TE := fun σ H Q => wg σ H fun J H1 => ∀ D, H1 D = none → ∃ (N : Nat) (V : Nat → Hp → Hp → Prop), V 0 H1 (upd H1 D (.lst [])) ∧
  ∀ j Hs H, V j Hs H → j < N ∧ (∃ xs, H D = some (.lst xs)) ∧ J.pre j Hs H ∧ (∀ H', J.fin j H H' → (∃ xs, H' D = some (.lst xs)) ∧ Q (.ref D) H') ∧
    ∀ x H', J.yld j H x H' → (∃ xs, H' D = some (.lst xs)) ∧ turnG g tt te vs D (wipe σ vs) (V (j + 1) H') x H'
/-- the parts of a block, wherever it is entered -/
structure Parts (X : Cx) (scope : Scope) (tg : Expr) (ifs : List Expr) (elt : Expr) (g : TG) (tt : TT) (te : TE) : Prop where
  tgt : ∀ s H C cl fp, PG (X.blk s H scope (compEnvC scope cl C X.env) fp) tg g
  tst : ∀ s H C cl fp, PTs (X.blk s H scope (compEnvC scope cl C X.env) fp) ifs tt
  val : ∀ s H C cl fp, PE (X.blk s H scope (compEnvC scope cl C X.env) fp) elt te
section
variable {B : Cx} {lo a D : Addr} {gi : Nat} {PN : List (Addr × Obj)} {ob : List (Addr × Obj)} {og : List (Nat × GenState)} {gs : GenState} {σw : L2.St} {H : Hp} {s : Shared}
/-- one turn -/
theorem turn_runs {tg elt : Expr} {ifs : List Expr} {g : TG} {tt : TT} {te : TE} {vs : List Nat} {Vn : Hp → Prop} {x : V} {u : Value} {R : Shared → Prop} {E E2 E3 E4 : Value → Shared → Prop} (L : LowB B lo PN D) (I : Inv B [] σw H s) (h : AtB B PN lo a gi ob og gs H s) (sl : slp gs = true) (noE : ∀ e s, ¬ B.xe e s)
    (pg : PG B tg g) (pt : PTs B ifs tt) (pe : PE B elt te) (rv : RelV x u) (t : turnG g tt te vs D σw Vn x H)
    (done : ∀ s' H', Inv B [] σw H' s' → AtB B PN lo a gi ob og gs H' s' → Vn H' → R s') :
    wpAny (model B.prog B.w) B.A (assign tg B.env u) (fun _ s2 => wpAny (model B.prog B.w) B.A (forIn ifs true fun c r => if r = true then do let ok ← isTrue c B.env (eval c B.env); pure (ForInStep.yield ok) else pure (ForInStep.yield r)) (fun ok s3 =>
      if ok = true then wpAny (model B.prog B.w) B.A (eval elt B.env) (fun x s4 => wpAny (model B.prog B.w) B.A (call (.builtin "list.append") [.ref D, x]) (fun _ s5 => R s5) E4 s4) E3 s3 else R s3) E2 s2) E s := by
  have none : ∀ {P : Prop} {e : Value} {s1 : Shared}, B.xe e s1 → P := fun {P e s1} z => (noE e s1 z).elim
  -- a turn ends in the state in which it began, but for the block's own names
  have back : ∀ {σ2 : L2.St} {H' : Hp} {s' : Shared}, wipe σ2 vs = σw → Inv B [] σ2 H' s' → AtB B PN lo a gi ob og gs H' s' → Vn H' → R s' := fun {σ2 H' s'} hw J A v =>
    done s' H' (J.weak (by rw [← hw, wipe_length]) fun j v e => by rw [← hw] at e; exact (wipe_some e).1) A v
  refine thn (stepB L I h sl fun s0 I0 => wpAny_mono (pg.run ob s0 _ H x u _ I0 rv t) (fun _ _ z => z) fun _ _ z => none z) fun _ s1 z1 => ?_
  obtain ⟨σ1, H1, I1, A1, hw, t1⟩ := z1
  refine thn (stepB L I1 A1 sl (Q := fun b σ' H' => σ1 = σ' ∧ if b = true then te σ1 H' fun y H4 => ∃ acc, H4 D = some (.lst acc) ∧ acc.length < sizeLine ∧ Vn (upd H4 D (.lst (acc ++ [y]))) else Vn H') fun s0 I0 => wpAny_mono (pt.run ob s0 σ1 H1 _ I0 t1) (fun b s' ⟨H2, I2, q2⟩ => ⟨σ1, H2, I2, rfl, q2⟩) fun _ _ z => none z) fun b s2 z2 => ?_
  obtain ⟨_, H2, I2, A2, rfl, t2⟩ := z2
  by_cases hb : b = true
  · rw [if_pos hb]
    rw [if_pos hb] at t2
    refine thn (stepB L I2 A2 sl (Q := fun v σ' H' => σ1 = σ' ∧ ∃ y, RelV y v ∧ ∃ acc, H' D = some (.lst acc) ∧ acc.length < sizeLine ∧ Vn (upd H' D (.lst (acc ++ [y])))) fun s0 I0 => wpAny_mono (pe.run ob s0 σ1 H2 _ I0 t2) (fun v s' ⟨y, H3, I3, r3, q3⟩ => ⟨σ1, H3, I3, rfl, y, r3, q3⟩) fun _ _ z => none z) fun v s3 z3 => ?_
    obtain ⟨_, H3, I3, A3, rfl, y, r3, acc, hD, hz, v3⟩ := z3
    refine thn (stepB L I3 A3 sl (Q := fun _ σ' H' => σ1 = σ' ∧ H' = upd H3 D (.lst (acc ++ [y]))) fun s0 I0 => app_ok (X := B) I0 hD hz r3 fun s' J => ⟨σ1, _, J, rfl, rfl⟩) fun _ s4 z4 => ?_
    obtain ⟨_, _, I4, A4, rfl, rfl⟩ := z4
    exact back hw I4 A4 v3
  · rw [if_neg hb]
    rw [if_neg hb] at t2
    exact back hw I2 A2 t2
end
section
variable {X : Cx} {pins : List (Addr × Obj)} {σ : L2.St} {H : Hp} {s : Shared} {lo a : Addr} {gi : Nat} {ob : List (Addr × Obj)} {c : Code}
/-- what lies between a generator's base and a new list, and is not pinned -/
def betw (lo D : Addr) (PN : List (Addr × Obj)) (n : Nat) : List Addr := (List.range n).filter fun b => decide (lo ≤ b ∧ b ≠ D ∧ ∀ p ∈ PN, p.1 ≠ b)
theorem mem_betw {lo D : Addr} {PN : List (Addr × Obj)} {n : Nat} {b : Addr} : b ∈ betw lo D PN n ↔ b < n ∧ lo ≤ b ∧ b ≠ D ∧ ∀ p ∈ PN, p.1 ≠ b := by
  unfold betw
  rw [List.mem_filter, List.mem_range, decide_eq_true_iff]
/-- X's frames lie below a generator's base -/
theorem fs_low (I : Inv X pins σ H s) (L : Low X lo) {b : Addr} (hb : b ∈ X.fs) : b < lo :=
  let ⟨_, _, ho, _⟩ := I.ok.funs.mem hb
  Nat.lt_of_lt_of_le (Heap.lt_size ho) L.sz
theorem betw_ok (I : Inv X pins σ H s) (L : Low X lo) {D : Addr} {n : Nat} (hn : ∀ b, lo ≤ b → b ≠ D → H b = none) : ∀ b ∈ betw lo D (X.pn ++ pins) n, FpOk X pins H b ∧ b < n := fun b hb => by
  obtain ⟨b1, b2, b3, b4⟩ := mem_betw.mp hb
  have no : ∀ {y}, y < lo → y ≠ b := fun {y} z e => Nat.not_lt.mpr b2 (e ▸ z)
  exact ⟨⟨hn b b2 b3, (no L.loc).symm, fun z => no (fs_low I L z) rfl, .inr (Nat.le_trans L.sz b2), fun x c e => no (L.cel x c e), b4⟩, b1⟩
/-- a block without cells of its own has its cells below, too -/
theorem cells_low (L : Low X lo) {scope : Scope} (hf : ∀ y ∈ scope.names, y.2 = .free → ∃ c, X.env.cells.lookup y.1 = some c) (hnc : ∀ y ∈ scope.names, y.2 ≠ .cell) {h : Heap} {x : Str} {c : Addr} (e : (cellsFrom h.objs.size scope.names (cloFrom X.env.cells scope.names [])).lookup x = some c) : c < lo := by
  rcases cells_mem (PySem.mem_of_lookup e) with m | ⟨m, _, _⟩
  · rcases cloFrom_mem m with z | ⟨z, rfl⟩
    · exact absurd z List.not_mem_nil
    · obtain ⟨d, hd⟩ := hf (x, .free) z rfl
      simp only [hd]
      exact L.cel _ _ hd
  · exact (hnc _ m rfl).elim
/-- the block knows enough of the generator -/
theorem low_block {ce : Env} {scope : Scope} {D : Addr} (I : Inv X pins σ H s) (L : Low X lo) (hlo : lo ≤ D) (hs : s.heap.objs.size = D + 1) (hce : ce.locals = D + 1) (hcel : ∀ x c, ce.cells.lookup x = some c → c < lo) :
    LowB (X.blk s H scope ce (betw lo D (X.pn ++ pins) s.heap.objs.size)) lo (X.pn ++ pins) D where
  cel := hcel
  ex := fun b h1 h2 h3 h4 => mem_betw.mpr ⟨h2, h1, h3, h4⟩
  pn0 := rfl
  fs := fun b hb => (List.mem_cons.mp (I.stkSub b hb)).elim (fun z => z ▸ L.loc) (fs_low I L)
  st := rfl
  loc := by show lo ≤ ce.locals; rw [hce]; exact Nat.le_succ_of_le hlo
  dl := by show D ≠ ce.locals; rw [hce]; exact Nat.ne_of_lt (Nat.lt_succ_self D)
  sz := by show lo ≤ s.heap.objs.size; rw [hs]; exact Nat.le_succ_of_le hlo
  pin := fun p hp => by
    obtain ⟨z1, z2, z3, z4, z5⟩ := I.pin p hp
    refine ⟨fun y => (List.mem_cons.mp (I.stkSub p.1 y)).elim z3 z4, z5, ?_, z1, z2, fun y => (mem_betw.mp y).2.2.2 p hp rfl⟩
    show p.1 ≠ ce.locals
    rw [hce, ← hs]
    exact Nat.ne_of_lt (Heap.lt_size z1)
/-- .. and the generator sleeps beside it -/
theorem At.block {B : Cx} {s4 : Shared} {H4 : Hp} (h : At X pins lo a gi ob [] (.fresh c) H s) (hl : s.heap.objs.size ≤ B.env.locals) (hg : s4.gens = s.gens) (hk : ∀ b o, s.heap.get? b = some o → s4.heap.get? b = some o) (hH : ∀ b, b < s.heap.objs.size → H4 b = H b) :
    AtB B (X.pn ++ pins) lo a gi ob [] (.fresh c) H4 s4 := by
  have at_ : ∀ p ∈ ob, p.1 < s.heap.objs.size := fun p hp => Heap.lt_size (h.own.obs p hp).1
  refine ⟨⟨h.own.isgen, fun p hp => ?_, fun q hq => absurd hq List.not_mem_nil⟩, fun p hp => ⟨Nat.ne_of_lt (Nat.lt_of_lt_of_le (at_ p hp) hl), fun q hq => (h.fp p hp).2.2.2.2.2 q hq⟩, by rw [hg]; exact h.gen, rfl⟩
  obtain ⟨z1, z2, z3, z4⟩ := h.own.obs p hp
  exact ⟨hk _ _ z1, by rw [hH _ (at_ p hp)]; exact z2, z3, z4⟩
theorem lcG_core {k : Nat} {Q : VK} {elt tg iter : Expr} {ifs : List Expr} {scope : Scope} {own : List (Str × Nat)} {pos pos' : Pos} {wg : TIG} {g : TG} {tt : TT} {te : TE} {use : Option (Value → Sem Unit)} {Qf : Value → Shared → Prop}
    (hc : X.calm = true) (hr : Room k X.A) (nd : X.N.Nodup) (I : Inv X pins σ H s) (hi : PIG X iter wg) (ok : BlkOk X.N X.env.scope scope own) (hnc : ∀ y ∈ scope.names, y.2 ≠ .cell) (pr : Parts X scope tg ifs elt g tt te)
    (hfs : ∀ x, foldedSetIterable iter X.env x = pure x) (h : tLcG wg g tt te (own.map (·.2)) σ H Q)
    (fin : ∀ D C s' m H', Inv X pins σ H' s' → Q (.ref D) H' → s'.heap.Ns C m → FpOk X pins H' C → compPost (model X.prog X.w) X.A X.xe use Qf (.ref D) C (.ok .next) s') :
    wpAny (model X.prog X.w) X.A (comprehension (.ListComp elt [⟨tg, iter, ifs, 0⟩] scope pos) scope X.env pos' (newList []) false (eval iter X.env) use) Qf X.xe s := by
  have hf : ∀ y ∈ scope.names, y.2 = .free → ∃ c, X.env.cells.lookup y.1 = some c := fun y hy e => (ok.free y hy e).elim (fun z => I.ok.has _ (.inl z)) fun z => I.ok.has _ (.inr z)
  refine wpAny_comprehension_free rfl hfs (closure_ok hf) ok.kind (fun y hy e => (ok.uniq y hy).trans (congrArg some e)) (thn (hi.run pins s σ H _ I h) fun v s2 made => ?_)
  obtain ⟨J, H2, lo, a, gi, ob, c, rfl, I2, L, At2, _, hlo, As2, q⟩ := made
  refine wpAny_pyIter_gen At2.isgen (wpAny_newObj_type (newEnv_comp ?_) (Nat.zero_le _))
  obtain ⟨D, eD⟩ : ∃ D, D = s2.heap.objs.size := ⟨_, rfl⟩
  rw [← eD]
  obtain ⟨N, V, v0, turn⟩ := q D (I2.hok.fresh (Nat.le_of_eq eD.symm))
  -- the new list is laid
  let s3 : Shared := { s2 with heap := s2.heap.push { cls := .type "list", data := .seq ([] : List Value).toArray } }
  have old3 : ∀ b o, s2.heap.get? b = some o → s3.heap.get? b = some o := fun b o => Heap.get?_push_of_some _
  have sz3 : s3.heap.objs.size = D + 1 := (Heap.size_push _ _).trans (by rw [eD])
  have I3 : Inv X pins σ (upd H2 D (.lst [])) s3 := I2.laid (t' := s2.toks) old3 (Nat.le_of_eq eD.symm) ⟨Nat.zero_le _, [], 0, .nil, by rw [eD]; exact Heap.get?_push_size _ rfl⟩
  have hloD : lo ≤ D := by
    obtain ⟨o, nm, qn, hm, _⟩ := At2.own.isgen
    have z := At2.own.obs _ hm
    exact Nat.le_trans z.2.2.1 (Nat.le_of_lt (eD ▸ Heap.lt_size z.1))
  have blo := betw_ok (n := s3.heap.objs.size) (D := D) I3 L fun b h1 h2 => (upd_ne h2).trans (hlo b h1)
  -- the block is entered
  have I4 := block_start I3 ok nd blo
  let cl := cellsFrom (s3.heap.objs.size + 1) scope.names (cloFrom X.env.cells scope.names [])
  have low : ∀ x c, cl.lookup x = some c → c < lo := fun x c e => cells_low (h := s3.heap.push { cls := .type "dict", data := .dict #[] }) L hf hnc (by rw [Heap.size_push]; exact e)
  have LB := low_block (ce := compEnvC scope cl s3.heap.objs.size X.env) (scope := scope) I3 L hloD sz3 sz3 low
  let B := X.blk s3 (upd H2 D (.lst [])) scope (compEnvC scope cl s3.heap.objs.size X.env) (betw lo D (X.pn ++ pins) s3.heap.objs.size)
  let s4 : Shared := { s3 with heap := pushCells (s3.heap.push { cls := .type "dict", data := .dict #[] }) scope.names }
  have A4 : AtB B (X.pn ++ pins) lo a gi ob [] (.fresh c) (upd H2 D (.lst [])) s4 :=
    At2.block (s4 := s4) (by show s2.heap.objs.size ≤ s3.heap.objs.size; rw [sz3, ← eD]; exact Nat.le_succ D) rfl (fun b o e => pushCells_keeps _ _ _ _ (Heap.get?_push_of_some _ (old3 b o e))) fun b hb => upd_ne (Nat.ne_of_lt (eD ▸ hb))
  have loop : codeAny (model X.prog X.w) X.A (.compLoop (.ListComp elt [⟨tg, iter, ifs, 0⟩] scope pos) 0 (.ref a) (.ref D) B.env) (compPost (model X.prog X.w) X.A X.xe use Qf (.ref D) s3.heap.objs.size) s4 := by
    refine compLoop_any (fun n s' => ∃ j Hs H' ob og gs, n = N - j ∧ Inv B [] (wipe σ (own.map (·.2))) H' s' ∧ AtB B (X.pn ++ pins) lo a gi ob og gs H' s' ∧ (slp gs = true ∨ ∃ c, gs = .fresh c) ∧
      Asl ⟨X.prog, X.w, X.base, X.A.in1, X.stack, lo, a, gi, J⟩ (N - j) j Hs ob og gs ∧ V j Hs H') ?_ N ⟨0, H2, _, ob, [], _, rfl, I4, A4, .inr ⟨c, rfl⟩, As2 _, v0⟩
    rintro n s5 ⟨j, Hs5, H5, ob5, og5, gs5, rfl, I5, A5, sl5, As5, v5⟩
    obtain ⟨hj, hD5, hpre, hfin, step⟩ := turn j Hs5 H5 v5
    obtain ⟨m, em⟩ : ∃ m, N - j = m + 1 := ⟨N - j - 1, by omega⟩
    rw [em] at As5
    refine thn (next_zB (X := B) I5 rfl hc hr.depth LB A5 As5 sl5 hpre hD5 (fun x H' y => (step x H' y).1) fun H' f => (hfin H' f).1) fun r s6 out => ?_
    rcases out with ⟨u, x, H6, ob6, og6, gs6, rfl, rv, y, I6, A6, sl6, As6⟩ | ⟨rfl, H6, f6, I6⟩
    · refine go_gB A6 (turn_runs LB I6 A6 sl6 (fun _ _ z => z) (pr.tgt ..) (pr.tst ..) (pr.val ..) rv (step x H6 y).2 fun s' H' I' A' v' => ⟨N - (j + 1), by omega, j + 1, H6, H', ob6, og6, gs6, rfl, I', A', .inl sl6, ?_, v'⟩)
      rw [show N - (j + 1) = m by omega]
      exact As6
    · obtain ⟨_, q6⟩ := hfin H6 f6
      obtain ⟨m6, n6, _⟩ := I6.loc
      exact fin D _ s6 m6 H6 (I3.call' (ch := betw lo D (X.pn ++ pins) s3.heap.objs.size) I6.os I6.base I6.hok I6.bare fun b hb => let ⟨z, _⟩ := blo b hb; ⟨z.2.2.2.1, z.2.1, z.2.2.2.2.1, z.2.2.2.2.2⟩) q6 n6 (I3.fpOk (Nat.le_refl _) I6.free)
  exact codeAny_compStart_list loop (wpAny_pyIter_gen A4.isgen loop)
/-- as a value -/
theorem pe_lcG {k : Nat} {elt tg iter : Expr} {ifs : List Expr} {scope : Scope} {own : List (Str × Nat)} {pos : Pos} {wg : TIG} {g : TG} {tt : TT} {te : TE} (hc : X.calm = true) (hr : Room k X.A) (nd : X.N.Nodup) (hi : PIG X iter wg) (ok : BlkOk X.N X.env.scope scope own) (pr : Parts X scope tg ifs elt g tt te)
    (hnc : ∀ y ∈ scope.names, y.2 ≠ .cell := by decide +kernel) (hfs : ∀ x, foldedSetIterable iter X.env x = pure x := by intro _; rfl) : PE X (.ListComp elt [⟨tg, iter, ifs, 0⟩] scope pos) (tLcG wg g tt te (own.map (·.2))) where
  run := fun pins s σ H Q I h => by
    rw [eval_ListComp]
    exact lcG_core hc hr nd I hi ok hnc pr hfs h fun D C s' m H' I' q hn f => ⟨m, hn, fun h' sb => ⟨.ref D, H', I'.turned (t' := s'.toks) (fun b o hb e => (sb.2 b hb).trans e) f.1 f.2.1 f.2.2.2.1 f.2.2.2.2.1 f.2.2.2.2.2, rfl, q⟩⟩
/-- stored at once in a name of the def -/
theorem ps_setLcG {k : Nat} {i : Nat} {y : Str} {py : Pos} {elt tg iter : Expr} {ifs : List Expr} {scope : Scope} {own : List (Str × Nat)} {pos spos : Pos} {wg : TIG} {g : TG} {tt : TT} {te : TE} (hc : X.calm = true) (hr : Room k X.A) (nd : X.N.Nodup) (hy : X.N[i]? = some y) (hyl : X.env.scope.names.lookup y = some .local)
    (hsw : swapsWith (.ListComp elt [⟨tg, iter, ifs, 0⟩] scope pos) (some (.Name y py)) spos.line X.env = pure true) (hi : PIG X iter wg) (ok : BlkOk X.N X.env.scope scope own) (pr : Parts X scope tg ifs elt g tt te)
    (hnc : ∀ y ∈ scope.names, y.2 ≠ .cell := by decide +kernel) (hfs : ∀ x, foldedSetIterable iter X.env x = pure x := by intro _; rfl) : PS X (.Assign [.Name y py] (.ListComp elt [⟨tg, iter, ifs, 0⟩] scope pos) spos) (tAsg (tLcG wg g tt te (own.map (·.2))) (gName i)) where
  run := fun pins s σ H D I h => by
    have stored : ∀ L C s' m H', Inv X pins σ H' s' → gName i (.ref L) σ H' D.nx → s'.heap.Ns C m → FpOk X pins H' C → compPost (model X.prog X.w) X.A X.xe (some (assign (.Name y py) X.env)) (fun _ s' => SP X pins D .next s') (.ref L) C (.ok .next) s' := fun L C s' m H' J q hn f => by
      refine wpAny_assign_Name (store_ok2 (v := V.ref L) J nd hy (.inl hyl) rfl (fun s2 I2 wr => ?_) (.inr hyl))
      obtain ⟨a, sb, ha⟩ := wr
      have ne : C ≠ a := ha.elim (fun z => by rw [z]; exact f.2.1) fun z e => f.2.2.2.2.1 y a z e.symm
      exact ⟨m, hn.sameBut sb ne, fun h3 sb3 => ⟨_, H', I2.turned (t' := s2.toks) (fun b o hb e => (sb3.2 b hb).trans e) f.1 f.2.1 f.2.2.2.1 f.2.2.2.2.1 f.2.2.2.2.2, q⟩⟩
    have all := lcG_core (pos := pos) (pos' := firstIterPos [⟨tg, iter, ifs, 0⟩] pos) hc hr nd I hi ok hnc pr hfs (show tLcG wg g tt te (own.map (·.2)) σ H (fun x H1 => gName i x σ H1 D.nx) from h) stored
    rw [exec_Assign_Name_used _ _ _ _ hsw]
    exact wpAny_bind (wpAny_standAt (wpAny_bind (wpAny_bind (thn all fun _ _ z => wpAny_pure (wpAny_pure z)))))
end
end TwZ
/-! list(g(..)): the list of all that a generator hands out -/
namespace TwZ
open PySem L2 PySem.Spec PyProof.Rows GenW

/-- as PGE, where the generator will be woken from deeper code -/
def PGEw (X : Cx) (Aw : Around) (pins : List (Addr × Obj)) (σ : L2.St) (R : Gt → Hp → Prop) (u : Value) (s1 : Shared) : Prop :=
  ∃ (J : Gt) (H1 : Hp) (lo a : Addr) (g : Nat) (ob : List (Addr × Obj)) (c : Code), u = .ref a ∧ Inv X pins σ H1 s1 ∧ Low X lo ∧ At X pins lo a g ob [] (.fresh c) H1 s1 ∧
    (∀ n, Asl ⟨X.prog, X.w, X.base, Aw, X.stack, lo, a, g, J⟩ n 0 H1 ob [] (.fresh c)) ∧ R J H1
structure PIGw (X : Cx) (Aw : Around) (e : Expr) (wg : TIG) : Prop where
  run : ∀ (pins : List (Addr × Obj)) (s : Shared) (σ : L2.St) (H : Hp) (R : Gt → Hp → Prop), Inv X pins σ H s → wg σ H R → wpAny (model X.prog X.w) X.A (eval e X.env) (PGEw X Aw pins σ R) X.xe s
/-- where list's own code wakes it -/
abbrev deepA (A : Around) : Around := A.in1.in1.in1
theorem room_deep {k : Nat} {A : Around} (r : Room (k + 1) A) : Room k (deepA A) := ⟨r.hd, by have := r.dp; show A.depth + 3 * k + 5 < _; omega, by have := r.un; show A.units + 1 + 1 + 1 + 16 * k + 200 < _; omega⟩
section
variable {X : Cx} {pins : List (Addr × Obj)} {σ : L2.St} {H : Hp} {s s' : Shared} {lo a D : Addr} {g k : Nat} {ob : List (Addr × Obj)} {og : List (Nat × GenState)} {gs : GenState}
theorem pgew_of {R : Gt → Hp → Prop} {u : Value} (I : Inv X pins σ H s) (hr : Room (k + 1) X.A) (h : GMz X.prog X.w X.base k X.stack H s R u s') : PGEw X (deepA X.A) pins σ R u s' := by
  obtain ⟨J, a, g, ob, c, rfl, os, bare, kp, hg, hgs, ow, sl, hR⟩ := h
  have I2 : Inv X pins σ H s' := I.call' (ch := []) os (Un.kept kp) (I.hok.kept kp) bare fun b z => absurd z (by simp)
  refine ⟨J, H, s.heap.objs.size, a, g, ob, c, rfl, I2, ⟨I.sz, I.lt, fun x c e => ?_⟩, ⟨ow, fun p hp => ?_, hgs, rfl⟩, fun n => sl n _ (room_deep hr) I.ok.frames, hR⟩
  · exact (I.cell x c e).elim fun _ z => z.lt
  · obtain ⟨_, z2, z3, _⟩ := ow.obs p hp
    exact I.fpOk z3 z2
theorem pigw_callR {f : Addr} {sp : SpZ} {x : Str} {p pos : Pos} {e : Expr} {es : List Expr} {ta : TA} (F : GFr X.prog X.w X.K X.mg X.base k f sp) (hr : Room (k + 1) X.A) (hg : Gl X x) (hm : X.mg x = some (.ref f)) (hk : PySem.W.keepIn X.K (.ref f) = true)
    (ha : PA X (e :: es) ta) (hdb : (x == ("__debug__" : Str)) = false := by decide) (he : starEach (e :: es) X.env = (false, eval e X.env) :: starEach es X.env := by rfl) (hpl : (backTo pos (starEach es X.env)).any (·.1) = false := by rfl) :
    PIGw X (deepA X.A) (.Call (.Name x p) (e :: es) [] pos) (tGenF sp ta) where
  run := fun pins s σ H R I h => by
    refine wpAny_Call_Name_kw (ld_glob I hg hm (PySem.W.callWith_K (h₀ := X.base) I.ok.mod.kin hk (wpAny_mono (ha.run pos pins s σ H _ I h) (fun us s1 z => ?_) fun _ _ x => x) he hpl) hdb)
    obtain ⟨vs, H1, I1, r, q⟩ := z
    refine ⟨I1.kIn, wpAny_call (codeAny_mono (F X.A X.stack s1 H1 us vs _ (hr.mono (Nat.le_succ k)) I1.env0 r q) fun r s' hq => ?_)⟩
    rcases r with e | fl
    · exact hq.elim
    · cases fl <;> first | exact hq.elim | exact pgew_of I1 hr hq
theorem pigw_callR0 {f : Addr} {sp : SpZ} {x : Str} {p pos : Pos} (F : GFr X.prog X.w X.K X.mg X.base k f sp) (hr : Room (k + 1) X.A) (hg : Gl X x) (hm : X.mg x = some (.ref f)) (hk : PySem.W.keepIn X.K (.ref f) = true) (hdb : (x == ("__debug__" : Str)) = false := by decide) :
    PIGw X (deepA X.A) (.Call (.Name x p) [] [] pos) (tGenF sp tNil) where
  run := fun pins s σ H R I h => by
    refine wpAny_Call_Name_kw (ld_glob I hg hm (PySem.W.callWith_K0 I.kIn hk (wpAny_call (codeAny_mono (F X.A X.stack s H [] [] _ (hr.mono (Nat.le_succ k)) I.env0 .nil h) fun r s' hq => ?_))) hdb)
    rcases r with e | fl
    · exact hq.elim
    · cases fl <;> first | exact hq.elim | exact pgew_of I hr hq
/-- a generator that has not begun, beside an object newly laid -/
theorem At.beyond {c : Code} {o : HO} {h' : Heap} {t' : Nat} (h : At X pins lo a g ob [] (.fresh c) H s) (hD : s.heap.objs.size ≤ D) (kp : ∀ b u, s.heap.get? b = some u → h'.get? b = some u) : At X pins lo a g ob [] (.fresh c) (upd H D o) { s with heap := h', toks := t' } := by
  have no : ∀ p ∈ ob, upd H D o p.1 = none := fun p hp => by
    obtain ⟨z1, z2, _⟩ := h.own.obs p hp
    rw [upd_ne (Nat.ne_of_lt (Nat.lt_of_lt_of_le (Heap.lt_size z1) hD))]
    exact z2
  refine ⟨⟨h.own.isgen, fun p hp => ?_, fun q hq => nomatch hq⟩, fun p hp => ⟨no p hp, (h.fp p hp).2⟩, h.gen, h.nog⟩
  obtain ⟨z1, _, z3, z4⟩ := h.own.obs p hp
  exact ⟨kp _ _ z1, no p hp, z3, z4⟩
end
/-- list(g(..)): D the new list; V by the turn, the heap when the generator fell asleep, the heap now -/
def tLstG (wg : TIG) : TE := fun σ H Q => wg σ H fun J H1 => ∀ D, H1 D = none → ∃ (N : Nat) (V : Nat → Hp → Hp → Prop), V 0 H1 (upd H1 D (.lst [])) ∧
  ∀ j Hs H, V j Hs H → j < N ∧ J.pre j Hs H ∧ (∀ H', J.fin j H H' → Q (.ref D) H') ∧
    ∀ x H', J.yld j H x H' → ∃ xs, H' D = some (.lst xs) ∧ xs.length < sizeLine ∧ V (j + 1) H' (upd H' D (.lst (xs ++ [x])))
section
variable {X : Cx} {pins : List (Addr × Obj)} {σ : L2.St} {lo a D : Addr} {g k N : Nat} {J : Gt} {V : Nat → Hp → Hp → Prop} {Q : VK} {R : Result → Shared → Prop}
theorem loop_listG (hh : X.A.handled = none) (hd : X.A.depth < recursionLimit) (L : Low X lo)
    (turn : ∀ j Hs H, V j Hs H → j < N ∧ J.pre j Hs H ∧ (∀ H', J.fin j H H' → Q (.ref D) H') ∧ ∀ x H', J.yld j H x H' → ∃ xs, H' D = some (.lst xs) ∧ xs.length < sizeLine ∧ V (j + 1) H' (upd H' D (.lst (xs ++ [x]))))
    (fin : ∀ s' H', Inv X pins σ H' s' → Q (.ref D) H' → R (.ok (.ret .none)) s') : ∀ (m j : Nat) (Hs H : Hp) (s : Shared) (ob : List (Addr × Obj)) (og : List (Nat × GenState)) (gs : GenState), N - j = m → Inv X pins σ H s → At X pins lo a g ob og gs H s →
      (slp gs = true ∨ ∃ c, gs = .fresh c) → Asl ⟨X.prog, X.w, X.base, deepA X.A, X.stack, lo, a, g, J⟩ m j Hs ob og gs → V j Hs H → codeAny (model X.prog X.w) X.A.in1 (.builtin "list.extend.loop" ⟨[.ref D, .ref a, .none], []⟩) R s
  | 0, j, Hs, H, s, ob, og, gs, em, I, At1, sl, As, v => by
    have := (turn j Hs H v).1
    omega
  | m + 1, j, Hs, H, s, ob, og, gs, em, I, At1, sl, As, v => by
    obtain ⟨hj, hpre, hfin, step⟩ := turn j Hs H v
    refine codeAny_builtin PySem.F.entry_extend_loop ?_; rw [Around.under_plainId PySem.F.plain_extend_loop _]
    refine wpAny_bind (thn (next_zA (A := X.A.in1.in1) I hh hd L At1 As sl hpre) fun r s4 h4 => ?_)
    rcases h4 with ⟨u, x, H4, ob4, og4, gs4, rfl, rv, y, I4, At4, sl4, _, As4⟩ | ⟨rfl, H4, f4, I4⟩
    · obtain ⟨xs, hD, hz, v4⟩ := step x H4 y
      have I5 := At4.pin I4
      obtain ⟨hz', its, n, ri, e⟩ := I5.hok D _ hD
      have hl := ri.length
      refine wpAny_bind (wpAny_updateSeq e rfl (wpAny_pure ⟨plainId_quiet PySem.F.plain_extend_loop _, ?_⟩) (by rw [List.size_toArray]; omega) (by show (its.toArray.push u).size ≤ _; rw [Array.size_push, List.size_toArray]; omega))
      have sb := Heap.SameBut.update s4.heap D (Obj.mapSeq (·.push u))
      have me := Heap.get?_update_self (Obj.mapSeq (·.push u)) e rfl
      have I6 : Inv X (pins ++ ob4) σ (upd H4 D (.lst (xs ++ [x]))) { s4 with heap := s4.heap.update D (Obj.mapSeq (·.push u)) } :=
        I5.write (t' := s4.toks) (by rw [hD]; trivial) (.inl rfl) (fun b u hb q => (sb.2 b hb).trans q) ⟨_, me⟩ ⟨by rw [List.length_append]; exact hz, its ++ [u], n + 1, ri.append (.cons rv .nil), me.trans (by simp [Obj.mapSeq])⟩
      exact loop_listG hh hd L turn fin m (j + 1) H4 _ _ ob4 og4 gs4 (by omega) I6.unpinned (At4.on sl4 I6 fun _ _ e _ => e) (.inl sl4) As4 v4
    · exact wpAny_pure (fin _ _ I4 (hfin H4 f4))
end
section
variable {X : Cx} {e : Expr} {wg : TIG} {k : Nat} {p pos : Pos}
theorem pe_listG (hc : X.calm = true) (hr : Room k X.A) (hg : Gl X "list") (hm : X.mg "list" = none) (hi : PIGw X (deepA X.A) e wg) (na : starEach [e] X.env = (false, eval e X.env) :: starEach [] X.env := by rfl) : PE X (.Call (.Name "list" p) [e] [] pos) (tLstG wg) := by
  refine ⟨fun pins s σ H Q I h => Call_ (ld_blt I hg hm boot_list (PyProof.Rows.callWith_type1 (args_cons (thn (hi.run pins s σ H _ I h) ?_) na) na))⟩
  rintro u s1 ⟨J, H1, lo, a, g, ob, c, rfl, I1, L, At1, As1, q⟩
  refine args_nil ?_
  obtain ⟨D, eD⟩ : ∃ D, D = s1.heap.objs.size := ⟨_, rfl⟩
  obtain ⟨N, V, v0, turn⟩ := q D (I1.hok.fresh (Nat.le_of_eq eD.symm))
  have hh := I1.ok.hd hc
  obtain ⟨og', nm, qn, hgo, gc, gd, gsl⟩ := At1.isgen
  refine callType_codes (Q₁ := fun obj s₁ => obj = .ref D ∧ s₁ = { s1 with heap := s1.heap.push { cls := .type "list", data := .seq #[] } }) F.called_list (F.typeCall_list_1 _) F.entry_list_init (code_list_new _ ⟨by rw [eD], rfl⟩) fun obj s₁ z => ?_
  obtain ⟨rfl, rfl⟩ := z
  have d1 : (s1.heap.push { cls := .type "list", data := .seq #[] }).get? D = some { cls := .type "list", data := .seq #[] } := by rw [eD]; exact Heap.get?_push_size _ rfl
  have dA : ∀ b u, s1.heap.get? b = some u → b ≠ D := fun b u q z => by rw [z, eD] at q; exact absurd (Heap.lt_size q) (Nat.lt_irrefl _)
  have old : ∀ b u, s1.heap.get? b = some u → (s1.heap.push { cls := .type "list", data := .seq #[] }).get? b = some u := fun b u => Heap.get?_push_of_some _
  have oth : ∀ (f : Array Value → Array Value) (h : Heap) b u, b ≠ D → h.get? b = some u → (h.update D (Obj.mapSeq f)).get? b = some u := fun f h b u z q => (Heap.get?_update_other _ _ (Ne.symm z)).trans q
  refine ⟨⟨_, d1, rfl⟩, F.args_list_init_2 _ _, ?_⟩
  -- what it held goes: nothing
  unfold PySem.Builtin.«list.__init__»
  dsimp only
  rw [if_neg (by decide), if_neg (by show ¬ (1 > 1); decide)]
  unfold Builtin.List.listItems Builtin.List.listUpdate
  dsimp only
  refine wpAny_bind (wpAny_bind (wpAny_seqItems d1 rfl (wpAny_pure ?_)))
  refine wpAny_bind (wpAny_updateSeq d1 rfl (wpAny_bind (wpAny_letGo ?_)))
  have d2 := Heap.get?_update_self (Obj.mapSeq fun _ => (#[] : Array Value)) d1 rfl
  have old2 := fun b u q => oth (fun _ => #[]) _ b u (dA b u q) (old b u q)
  -- a generator: no length, no room made, then the loop
  have gT : ∀ {h : Heap}, h.get? a = some og' → Shared.TypeIs { s1 with heap := h } (.ref a) "generator" := fun q => ⟨_, q, gc⟩
  have hDa : D ≠ a := fun z => dA a _ hgo z.symm
  have h1 : Builtin.List.listSameRef (.ref D) (.ref a) = false := by simp [Builtin.List.listSameRef, hDa]
  have aT := old2 a _ hgo
  unfold Builtin.List.listExtendWith; refine wpAny_bind (wpAny_typeOf (gT aT) ?_)
  simp only [h1, show (Value.type "generator" == Value.type "list") = false by decide, show (Value.type "generator" == Value.type "tuple") = false by decide, Bool.or_false, Bool.false_eq_true, if_false]
  refine wpAny_bind (wpAny_pyIter_gen (g := g) ⟨og', nm, qn, aT, gc, gd, gsl⟩ (wpAny_bind (wpAny_holding ?_)))
  unfold Builtin.List.listLengthHint; refine wpAny_bind (wpAny_specialOf (gT aT) F.gen_no_len ?_)
  change wpAny _ X.A.in1.in1 (specialOf (.ref a) (Str.ofString "__length_hint__") >>= _) _ _ _
  refine wpAny_bind (wpAny_specialOf (gT aT) F.gen_no_hint (wpAny_pure ?_))
  simp only [Bool.true_or, if_true]
  unfold Builtin.List.listTouch Builtin.List.listUpdate
  dsimp only
  refine wpAny_bind (wpAny_rule (wpAny_bind (wpAny_bind (wpAny_updateSeq d2 rfl ?_))))
  have d3 := Heap.get?_update_self (Obj.mapSeq (·.push Value.none)) d2 rfl
  have old3 := fun b u q => oth (·.push Value.none) _ b u (dA b u q) (old2 b u q)
  refine wpAny_updateSeq (hz := by seq_fits) d3 rfl ?_
  have d4 := Heap.get?_update_self (Obj.mapSeq (·.pop)) d3 rfl
  have old4 := fun b u q => oth (·.pop) _ b u (dA b u q) (old3 b u q)
  refine wpAny_pure ⟨plainId_quiet PySem.F.plain_extend_loop _, ?_⟩
  exact loop_listG hh hr.depth L turn (fun s' H' J q => ⟨rfl, .ref D, H', J, rfl, q⟩) N 0 H1 _ _ ob [] _ rfl (I1.laid (o := .lst []) (t' := s1.toks) old4 (Nat.le_of_eq eD.symm) ⟨Nat.zero_le _, [], _, .nil, d4⟩)
    (At1.beyond (o := .lst []) (t' := s1.toks) (Nat.le_of_eq eD.symm) old4) (.inr ⟨c, rfl⟩) (As1 N) v0
end
end TwZ
/-! Tw: the generator of a timer's placements -/
namespace Tw
open PySem PySem.Spec PyProof.Rows L2 He TwM StX
open PySem.W (Frag)
local macro_rules | `(tactic| walk_at "rsl") => `(tactic| simp only [*, at3_0, at3_1, at3_2, at2_0, at2_1, updS, upd_two, gSub, rSetL, updN, tPar, tPar3, gTup, gCons, gNil, and_assoc, not_true_eq_false, not_false_eq_true, tNever, List.length_map, tFld, rIxTH, rIxLH, rLenTH, rLenLH, lk1, lfs_g, lfs_s, lfs_p, HO.ins.injEq, HO.tup.injEq, HO.lst.injEq, sp_Book_rounding, sp_Book_action, sp_Book_order, sp_Book_due, sp_Book_zero, sp_Book_beyond, Int.toNat_natCast, sp_visit_after, sp_is_visited, sp_Level_grain, sp_Level_slots, sp_Level_span, sp_Wheel_reach, sp_Wheel___len__, sp_is_integer, sp_is_count, sp_is_within, sp_rounded, tAsg, gName, tVar, tC, tOp, rI, rI0, rU, tUn, oAdd, oSub, oMul, oDiv, oMod, oNeg, oLt, oLe, oGt, oGe, oIsN, oNotN, tFn, tCons, tNil, tIfS, tIf, tTest, tB, tNot, tAnd, tOr, tAndV, tOrV, tNotV,
    tRet, tRetN, tNext, tCB, tDrop, tChain, rEq, rNe, oMax2, oMin2, oInt1, rLenF, L2.start, List.map_cons, List.map_nil, List.length_cons, List.length_nil, List.replicate_succ, List.replicate_zero, List.cons_append, List.nil_append, Nat.reduceAdd, Nat.reduceSub, Nat.zero_add,
    List.set_cons_zero, List.set_cons_succ, List.getElem?_cons_zero, List.getElem?_cons_succ, Option.some.injEq, V.int.injEq, V.ref.injEq, V.str.injEq, V.bl.injEq, exists_eq_left', exists_eq_left, exists_and_left, List.cons.injEq, and_true, true_and, decide_eq_true_eq, sc_ii, sc_ss, sc_bb, sc_ni, sc_in, sc_nn, sc_is, reduceCtorEq,
    Bool.not_eq_true', decide_eq_false_iff_not, if_true, if_false, Bool.false_eq_true, exists_eq', exists_const, false_and, and_false, or_false, false_or, exists_false, Bool.not_not, Bool.not_true, Bool.not_false, sUp_up, sFire_fire, sHigh_high, sPut_put, sZone_now, sBey_refuse, sBey_cut, tTup, tLst, sz0, sz1, sz2, sz3, sz4, sz5, sz6])
local macro_rules | `(tactic| walk_at "st") => `(tactic| ((try dsimp only); rw [seq1]; walk_at "rsl"))
local macro_rules | `(tactic| walk_at "zt") => `(tactic| ((try dsimp only); rw [TwZ.seq_pl]; walk_at "rsl"))
section
variable {K : Frag} {w : World}
/-- one of journey's tuples -/
def JnP (W : List Lv) (B : Bk) (now d : Int) (j : Nat) (x : V) (H : Hp) : Prop := ∃ st p, (jny W B now d)[j]? = some st ∧ x = .ref p ∧ H p = some (.tup [.int st.1, .int st.2.lv, .int st.2.pt])
def sp_journey (K : Frag) : TwZ.SpZ := fun vs H R => ∃ (a b : Addr) (now d : Int), vs = [.ref a, .ref b, .int now, .int d] ∧ ∃ W B, WhAt K H a W ∧ BkAt K H b B ∧ 0 ≤ now ∧ 0 ≤ d ∧ (reach W ≤ d → B.bey ≠ 0) ∧ R (lsG (jny W B now d).length (JnP W B now d)) H
theorem OSp.frm {H H' : Hp} {v : V} {o : Option Spot} (h : OSp H v o) (s : TwZ.Frm H H') : OSp H' v o := by
  cases o with
  | none => exact h
  | some sp =>
    obtain ⟨p, e, hp⟩ := h
    exact ⟨p, e, s _ _ hp rfl⟩
theorem OSps.frm {H H' : Hp} {xs : List V} {os : List (Option Spot)} (h : OSps H xs os) (s : TwZ.Frm H H') : OSps H' xs os := ⟨h.1, fun i v o a b => (h.2 i v o a b).frm s⟩
theorem jvis_take {t : Int} : ∀ {os : List (Option Spot)} {k : Nat}, (∀ j, j < k → ∃ s', os[j]? = some (some s')) → (jvis t (os.take k)).length = k
  | _, 0, _ => by rw [List.take_zero]; rfl
  | [], k + 1, h => by obtain ⟨s', e⟩ := h 0 (by omega); simp at e
  | none :: os, k + 1, h => by obtain ⟨s', e⟩ := h 0 (by omega); simp at e
  | some s :: os, k + 1, h => by
    show (jvis t (os.take k)).length + 1 = k + 1
    rw [jvis_take fun j hj => by have := h (j + 1) (by omega); simpa using this]
theorem vis_some {W : List Lv} {B : Bk} {sp : Spot} {b n : Int} {k : Nat} (hk : k < (visited W B sp b n).length) : ∀ j, j < k → ∃ s', (visited W B sp b n)[j]? = some (some s') := fun j hj => by
  cases e : (visited W B sp b n)[j]? with
  | none =>
    have := List.getElem?_eq_none_iff.mp e
    omega
  | some o =>
    cases o with
    | none =>
      have := visGo_end _ e hk
      omega
    | some s => exact ⟨s, rfl⟩
theorem visGo_lv {W : List Lv} (ok : WOk W) {B : Bk} {b n : Int} : ∀ (is : List Nat) {sp s : Spot}, some s ∈ visGo W B b n is sp → s.lv < W.length
  | [], sp, s, h => by simp [visGo] at h
  | i :: is, sp, s, h => by
    unfold visGo at h
    split at h
    · cases ht : taken W B sp n with
      | none =>
        rw [ht] at h
        simp at h
      | some s' =>
        rw [ht] at h
        rcases List.mem_cons.mp h with z | z
        · cases z
          unfold taken at ht
          split at ht
          · cases ht
          · split at ht
            · cases ht
              exact spotAt_lt ok ..
            · split at ht
              · cases ht
                exact ok.pos
              · cases ht
        · exact visGo_lv ok is z
    · exact visGo_lv ok is h
/-- what is still to come, and how much of it -/
def jR (W : List Lv) (B : Bk) (t : Int) : Option Spot → List Stp
  | none => []
  | some s => jgo W B s t
def jM (t : Int) : Option Spot → Nat
  | none => 0
  | some s => mu s t
/-- the while of journey -/
def jV (K : Frag) (a b : Addr) (W : List Lv) (B : Bk) (now d : Int) (m i : Nat) (Hw : Hp) (σ : L2.St) (H : Hp) : Prop := ∃ (o : Option Spot) (v : V) (tick : Int) (v6 : Option V), σ = [some (.ref a), some (.ref b), some (.int now), some (.int d), some v, some (.int tick), v6] ∧ OSp H v o ∧ (∀ sp, o = some sp → sp.lv < W.length) ∧
  WhAt K H a W ∧ BkAt K H b B ∧ Same Hw H ∧ i ≤ (jny W B now d).length ∧ (jny W B now d).drop i = jR W B tick o ∧ m = jM tick o
/-- its for -/
def jF (K : Frag) (a b f : Addr) (W : List Lv) (B : Bk) (now d t : Int) (i : Nat) (od : Obj) (xs : List V) (os : List (Option Spot)) (j i' : Nat) (Hw : Hp) (σ : L2.St) (H : Hp) : Prop := ∃ (v : V) (v6 : Option V), σ = [some (.ref a), some (.ref b), some (.int now), some (.int d), some v, some (.int t), v6] ∧
  WhAt K H a W ∧ BkAt K H b B ∧ Same Hw H ∧ H f = some (.frz od (.lst xs)) ∧ OSps H xs os ∧ (0 < j → ∃ o, os[j - 1]? = some o ∧ OSp H v o) ∧ i' = i + (jvis t (os.take j)).length
def t_journey (K : Frag) (w : World) (J : TwZ.Gt) : TwZ.TGz :=
  (TwZ.tGzSeq (TwZ.tPl (tAsg (tFn (sp_place K) E0 (tCons (tVar 0) (tCons (tVar 1) (tCons (tVar 2) (tCons (tVar 3) tNil))))) (gName 4)))
  (TwZ.tGzSeq (TwZ.tPl (tIfS (tTest (tOp oIsN (tVar 4) (tC .non))) tRetN tNext))
  (TwZ.tGzSeq (TwZ.tGzYield J (tTup (tCons (tVar 2) (tCons (tOp rIxTH (tVar 4) (tC (.int 0))) (tCons (tOp rIxTH (tVar 4) (tC (.int 1))) tNil)))))
  (TwZ.tGzSeq (TwZ.tPl (tAsg (tVar 2) (gName 5)))
  (TwZ.tGzWhile (tTest (tOp oNotN (tVar 4) (tC .non)))
    (TwZ.tGzSeq (TwZ.tPl (tAsg (tFn (sp_visit_after K) E0 (tCons (tFn (sp_Wheel___getitem__ K) E0 (tCons (tVar 0) (tCons (tOp rIxTH (tVar 4) (tC (.int 0))) tNil))) (tCons (tOp rIxTH (tVar 4) (tC (.int 1))) (tCons (tVar 5) tNil)))) (gName 5)))
  (TwZ.tGzFor (iList K (TwZ.tFrz (tFn (sp_visited K) E0 (tCons (tVar 0) (tCons (tVar 1) (tCons (tVar 4) (tCons (tOp oSub (tVar 5) (tC (.int 1))) (tCons (tVar 5) tNil)))))))) (gName 6)
    (TwZ.tGzSeq (TwZ.tPl (tAsg (tVar 6) (gName 4)))
  (TwZ.tGzIf (tTest (tOp oNotN (tVar 6) (tC .non)))
    (TwZ.tGzYield J (tTup (tCons (tVar 5) (tCons (tOp rIxTH (tVar 6) (tC (.int 0))) (tCons (tOp rIxTH (tVar 6) (tC (.int 1))) tNil))))) TwZ.tGz0)))))))))
def n_journey : List Str := ["wheel", "book", "start", "delay", "spot", "tick", "one"]
theorem rd_journey (vs : List V) (H : Hp) (R : TwZ.Gt → Hp → Prop) (h : sp_journey K vs H R) : ∃ J, R J H ∧ ∀ H2, J.pre 0 H H2 → t_journey K w J { nx := fun i Hw _ H' => J.fin i Hw H', rt := fun i Hw v H' => v = .non ∧ J.fin i Hw H' } 0 H2 (L2.start n_journey vs) H2 := by
  obtain ⟨a, b, now, d, rfl, W, B, hW0, hB0, h0, hd, hb, q⟩ := h
  refine ⟨_, q, fun H2 (hp : TwZ.Frm H H2) => ?_⟩
  have hW := hW0.frm hp
  have hB := hB0.frm hp
  have ok := hW.ok
  unfold t_journey n_journey
  walk_at "zt"
  refine ⟨a, b, now, d, rfl, W, B, hW, hB, h0, hd, hb, fun v H3 s3 hv => ?_⟩
  have hW3 := hW.same s3
  have hB3 := hB.same s3
  cases hpl : placeM W B now d with
  | none =>
    rw [hpl] at hv
    obtain rfl : v = .non := hv
    walk_at "zt"
    exact ⟨by rw [jny_none hpl]; rfl, s3⟩
  | some sp =>
    rw [hpl] at hv
    obtain ⟨p, rfl, hS⟩ := id hv
    have hl := placeM_lt ok hpl
    have hS2 := hS
    unfold SpAt at hS2
    have hj : Hid (jny W B now d = (now, sp) :: jgo W B sp now) := jny_some hpl
    walk_at "zt"
    rw [TwZ.seq_yld]
    walk_at "rsl"
    intro p4 hp4
    have n4 := Same.new (o := .tup [.int now, .int sp.lv, .int sp.pt]) hp4
    refine ⟨⟨by rw [show jny W B now d = _ from hj]; exact Nat.zero_lt_succ _, ⟨(now, sp), p4, by rw [show jny W B now d = _ from hj]; rfl, rfl, upd_same⟩, fun x y z => n4 _ _ (s3 _ _ z)⟩, fun H4 (f4 : TwZ.Frm _ H4) => ?_⟩
    have hW4 := (hW3.same n4).frm f4
    have hB4 := (hB3.same n4).frm f4
    have hv4 : OSp H4 (.ref p) (some sp) := OSp.frm (show OSp (upd H3 p4 (.tup [.int now, .int sp.lv, .int sp.pt])) (.ref p) (some sp) from ⟨p, rfl, n4 _ _ hS⟩) f4
    clear hS2 hS hv
    walk_at "zt"
    refine ⟨jV K a b W B now d, ⟨_, some sp, .ref p, now, none, rfl, hv4, fun s e => (by cases e; exact hl), hW4, hB4, fun _ _ h => h, by rw [show jny W B now d = _ from hj]; exact Nat.succ_le_succ (Nat.zero_le _), by rw [show jny W B now d = _ from hj]; rfl, rfl⟩, ?_⟩
    clear hW hB hW3 hB3 hW4 hB4 hv4 hW0 hB0 hp s3 n4 f4 q
    rintro m i Hw σ H5 ⟨o, v, tick, v6, rfl, hv5, hol, hW5, hB5, s5, hil, hdr, rfl⟩
    cases o with
    | none =>
      obtain rfl : v = .non := hv5
      walk_at "rsl"
      refine ⟨?_, s5⟩
      have := List.drop_eq_nil_iff.mp hdr
      omega
    | some sp1 =>
      obtain ⟨p1, rfl, hS1⟩ := id hv5
      have hl1 := hol sp1 rfl
      have hS2 := hS1
      unfold SpAt at hS2
      walk_at "rsl"
      refine ⟨fun i' Hw' σ' H' => ∃ m', (i < i' ∨ i' = i ∧ m' < mu sp1 tick) ∧ jV K a b W B now d m' i' Hw' σ' H', fun i' Hw' σ' H' z => z, ?_⟩
      walk_at "zt"
      refine ⟨a, sp1.lv, rfl, W, hW5, by omega, by omega, fun c hc => ?_⟩
      rw [Int.toNat_natCast] at hc
      have eL := @lv_ex K H5 c (lv W sp1.lv) hc
      walk_at "rsl"
      clear eL
      have hgt := va_step ok hl1 sp1.pt tick
      have hdr2 : Hid ((jny W B now d).drop i = jgo W B sp1 tick) := hdr
      clear hdr
      rw [show jgo W B sp1 tick = _ from jgo_eq ok hl1] at hdr2
      have hne := visited_ne ok (B := B) hl1 tick
      have hmu : ∀ s, (visited W B sp1 (va (lv W sp1.lv) sp1.pt tick - 1) (va (lv W sp1.lv) sp1.pt tick)).getLast? = some (some s) → mu s (va (lv W sp1.lv) sp1.pt tick) + 1 ≤ mu sp1 tick ∧ s.lv < W.length ∧ s.due = sp1.due := fun s hq => mu_step ok hgt.1 hq
      rw [TwZ.gzl_eq]
      generalize va (lv W sp1.lv) sp1.pt tick = t at *
      walk_at "rsl"
      refine ⟨a, b, p1, _, _, rfl, W, B, sp1, hW5, hB5, hS1, fun f xs H6 s6 hfn hx hos => ?_⟩
      refine ⟨f, rfl, _, hx, trivial, fun od => ⟨f, rfl, ⟨xs, .inl (.inr ⟨od, upd_same⟩)⟩, ?_⟩⟩
      have n7 : Same H5 (upd H6 f (.frz od (.lst xs))) := fun x y z => by
        rw [upd_ne (fun e => by rw [e, hfn] at z; cases z)]
        exact s6 _ _ z
      have hf7 := upd_same (H := H6) (a := f) (o := .frz od (.lst xs))
      have hos7 : OSps (upd H6 f (.frz od (.lst xs))) xs (visited W B sp1 (t - 1) t) := ⟨hos.1, fun k v o ea eb => by
        have := hos.2 k v o ea eb
        cases o with
        | none => exact this
        | some s =>
          obtain ⟨p, e, z⟩ := this
          unfold SpAt at z
          exact ⟨p, e, by unfold SpAt; rw [upd_ne (fun y => by rw [y, hx] at z; cases z)]; exact z⟩⟩
      have hvs := fun k hk => vis_some (W := W) (B := B) (sp := sp1) (b := t - 1) (n := t) (k := k) hk
      clear hos hx
      generalize upd H6 f (.frz od (.lst xs)) = H7 at *
      generalize visited W B sp1 (t - 1) t = os at *
      refine TwZ.gzL (xs := xs) (jF K a b f W B now d t i od xs os) ⟨_, _, rfl, hW5.same n7, hB5.same n7, fun x y z => n7 _ _ (s5 _ _ z), hf7, hos7, fun z => absurd z (Nat.lt_irrefl 0), by rw [List.take_zero]; rfl⟩ (fun j i' Hw σ H _ ⟨_, _, _, _, _, _, hf, _⟩ => .inl (.inr ⟨od, hf⟩)) ?_ ?_
      · clear hW5 hB5 s5 hv5 hS1 hS2 n7 hf7 hos7 s6 hfn
        rintro j x i' Hw2 σ2 H8 hx8 ⟨v, u6, rfl, hW8, hB8, s8, hf8, hos8, hlast, rfl⟩
        have hjx := (List.getElem?_eq_some_iff.mp hx8).1
        have hjo : j < os.length := by rw [← hos8.1]; exact hjx
        obtain ⟨o, ho⟩ : ∃ o, os[j]? = some o := ⟨_, List.getElem?_eq_getElem hjo⟩
        have hxo := hos8.2 j x o hx8 ho
        have hsm := hvs j hjo
        rw [jvis_take hsm]
        clear hlast
        rw [gName1]
        try dsimp only [List.set_cons_succ, List.set_cons_zero]
        have ht1 : os.take (j + 1) = os.take j ++ [o] := by rw [List.take_add_one, ho]; rfl
        have hHo : Hid (os[j]? = some o) := ho
        clear hx8 ho
        walk_at "zt"
        cases o with
        | none =>
          obtain rfl : x = .non := hxo
          unfold TwZ.tGzIf
          walk_at "rsl"
          refine ⟨_, _, rfl, hW8, hB8, s8, hf8, hos8, fun _ => ⟨none, hHo, rfl⟩, ?_⟩
          have hc : (jvis t (os.take (j + 1))).length = j := jvis_cut (fun k hk => by
            obtain ⟨s', e⟩ := hsm k hk
            exact ⟨s', by rw [List.getElem?_take, if_pos (by omega)]; exact e⟩) (by rw [List.getElem?_take, if_pos (by omega)]; exact hHo)
          rw [hc]
        | some s =>
          obtain ⟨p8, rfl, hS8⟩ := id hxo
          have hS9 := hS8
          unfold SpAt at hS9
          unfold TwZ.tGzIf TwZ.tGzYield
          walk_at "rsl"
          intro p9 hp9
          have n9 := Same.new (o := .tup [.int t, .int s.lv, .int s.pt]) hp9
          have hat : (jny W B now d)[i + j]? = some (t, s) := by
            rw [← List.getElem?_drop, show (jny W B now d).drop i = _ from hdr2, List.getElem?_append_left (by
              have := jvis_at (t := t) hsm hHo
              exact (List.getElem?_eq_some_iff.mp this).1)]
            exact jvis_at hsm hHo
          refine ⟨⟨(List.getElem?_eq_some_iff.mp hat).1, ⟨(t, s), p9, hat, rfl, upd_same⟩, fun x y z => n9 _ _ (s8 _ _ z)⟩, fun H9 (f9 : TwZ.Frm _ H9) => ?_⟩
          refine ⟨_, _, rfl, (hW8.same n9).frm f9, (hB8.same n9).frm f9, fun _ _ h => h, f9 _ _ (n9 _ _ hf8) rfl, OSps.frm ⟨hos8.1, fun k v o ea eb => ?_⟩ f9, fun _ => ⟨some s, hHo, OSp.frm (show OSp _ (.ref p8) (some s) from ⟨p8, rfl, n9 _ _ hS8⟩) f9⟩, ?_⟩
          · have := hos8.2 k v o ea eb
            cases o with
            | none => exact this
            | some s =>
              obtain ⟨p, e, z⟩ := this
              exact ⟨p, e, n9 _ _ z⟩
          · rw [jvis_take (k := j + 1) fun k hk => by
              rcases Nat.lt_or_ge k j with z | z
              · exact hsm k z
              · obtain rfl : k = j := by omega
                exact ⟨s, hHo⟩]
            omega
      · clear hW5 hB5 s5 hv5 hS1 hS2 n7 hf7 hos7 s6 hfn
        rintro i' Hw2 σ2 H8 ⟨v, u6, rfl, hW8, hB8, s8, hf8, hos8, hlast, rfl⟩
        have h0l : 0 < os.length := List.length_pos_iff.mpr hne
        obtain ⟨o, ho, hvo⟩ := hlast (by rw [hos8.1]; exact h0l)
        have hgl : os.getLast? = some o := by rw [List.getLast?_eq_getElem?, ← hos8.1]; exact ho
        rw [hos8.1, List.take_length]
        rw [hgl] at hdr2
        have fin : ∀ (m : Nat) (r : List Stp), m < mu sp1 tick → (jny W B now d).drop i = jvis t os ++ r → (∀ s, o = some s → s.lv < W.length) → r = jR W B t o → m = jM t o →
            ∃ m', (i < i + (jvis t os).length ∨ i + (jvis t os).length = i ∧ m' < mu sp1 tick) ∧ jV K a b W B now d m' (i + (jvis t os).length) Hw2 [some (.ref a), some (.ref b), some (.int now), some (.int d), some v, some (.int t), u6] H8 := fun m r hm hr hlv e1 e2 => by
          have hlen : (jny W B now d).length - i = (jvis t os).length + r.length := by rw [← List.length_drop, hr, List.length_append]
          refine ⟨m, ?_, o, v, t, u6, rfl, hvo, hlv, hW8, hB8, s8, by omega, ?_, e2⟩
          · rcases Nat.eq_zero_or_pos (jvis t os).length with z | z
            · exact .inr ⟨by omega, hm⟩
            · exact .inl (by omega)
          · rw [← List.drop_drop, hr, List.drop_left]
            exact e1
        cases o with
        | none =>
          refine fin 0 [] ?_ hdr2 (fun s e => by cases e) rfl rfl
          unfold mu
          split <;> omega
        | some s => exact fin (mu s t) (jgo W B s t) (hmu s hgl).1 hdr2 (fun s2 e => by cases e; exact (hmu s hgl).2.1) rfl rfl
end
end Tw
/-! Tw: how one placement follows another -/
namespace Tw
open PySem TwM
section
variable {α : Type} {R R' : α → α → Prop}
/-- each of a, l to the next one -/
def Ch (R : α → α → Prop) : α → List α → Prop
  | _, [] => True
  | a, b :: l => R a b ∧ Ch R b l
def lastD (a : α) : List α → α
  | [] => a
  | b :: l => lastD b l
theorem Ch.app : ∀ {a : α} {l m : List α}, Ch R a l → Ch R (lastD a l) m → Ch R a (l ++ m)
  | _, [], _, _, h => h
  | _, b :: l, m, h, g => ⟨h.1, Ch.app h.2 g⟩
theorem Ch.imp (f : ∀ a b, R a b → R' a b) : ∀ {a : α} {l : List α}, Ch R a l → Ch R' a l
  | _, [], _ => trivial
  | _, _ :: _, h => ⟨f _ _ h.1, Ch.imp f h.2⟩
theorem Ch.at : ∀ {a : α} {l : List α} {k : Nat} {x y : α}, Ch R a l → (a :: l)[k]? = some x → (a :: l)[k + 1]? = some y → R x y
  | _, [], _, _, _, _, _, h => by simp at h
  | a, b :: l, 0, x, y, h, e1, e2 => by
    simp at e1 e2
    subst e1
    subst e2
    exact h.1
  | a, b :: l, k + 1, x, y, h, e1, e2 => Ch.at h.2 (by simpa using e1) (by simpa using e2)
theorem lastD_app : ∀ {a : α} {l m : List α}, lastD a (l ++ m) = lastD (lastD a l) m
  | _, [], _ => rfl
  | _, b :: l, m => lastD_app (a := b) (l := l) (m := m)
theorem lastD_last : ∀ {a : α} {l : List α}, (a :: l).getLast? = some (lastD a l)
  | _, [] => rfl
  | a, b :: l => by
    rw [List.getLast?_cons_cons]
    exact lastD_last (a := b) (l := l)
end
variable {W : List Lv} {B : Bk}
/-- what a visit of a level says of the tick -/
theorem isVis_tick {l : Lv} {pt t : Int} (hg : 1 ≤ l.g) (hs : 2 ≤ l.s) (h : isVis l pt (t - 1) t = true) : t % l.g = 0 ∧ (t / l.g - pt) % l.s = 0 := by
  unfold isVis at h
  have h := of_decide_eq_true h
  have h0 := Int.emod_nonneg (pt - (t - 1) / l.g - 1) (show l.s ≠ 0 by omega)
  have a1 := Int.mul_ediv_add_emod t l.g
  have a2 := Int.emod_nonneg t (show l.g ≠ 0 by omega)
  have a3 := Int.emod_lt_of_pos t (show 0 < l.g by omega)
  have b1 := Int.mul_ediv_add_emod (t - 1) l.g
  have b2 := Int.emod_nonneg (t - 1) (show l.g ≠ 0 by omega)
  have b3 := Int.emod_lt_of_pos (t - 1) (show 0 < l.g by omega)
  have hle : t / l.g ≤ (t - 1) / l.g + 1 := by
    have : t / l.g * l.g ≤ ((t - 1) / l.g + 1) * l.g := by
      have e1 : l.g * (t / l.g) = t / l.g * l.g := Int.mul_comm ..
      have e2 : ((t - 1) / l.g + 1) * l.g = l.g * ((t - 1) / l.g) + l.g := by rw [Int.add_mul, Int.one_mul, Int.mul_comm]
      omega
    exact Int.le_of_mul_le_mul_right this (by omega)
  have e : t / l.g = (t - 1) / l.g + 1 := by omega
  constructor
  · have e1 : l.g * (t / l.g) = l.g * ((t - 1) / l.g) + l.g := by rw [e, Int.mul_add, Int.mul_one]
    omega
  · have hz : (pt - (t - 1) / l.g - 1) % l.s = 0 := by omega
    have hz2 : (pt - t / l.g) % l.s = 0 := by rw [e, show pt - ((t - 1) / l.g + 1) = pt - (t - 1) / l.g - 1 by omega]; exact hz
    have := Int.dvd_of_emod_eq_zero hz2
    have h2 : l.s ∣ t / l.g - pt := by
      have := Int.dvd_neg.mpr this
      rwa [show -(pt - t / l.g) = t / l.g - pt by omega] at this
    exact Int.emod_eq_zero_of_dvd h2
/-- the level of a timer is due to what was left at some tick up to t -/
def Ga (W : List Lv) (t : Int) (s : Spot) : Prop := s.lv = 0 ∨ ∃ t0, t0 ≤ t ∧ s.lv = levelIx W (s.due - t0)
theorem Ga.later {t t' : Int} {s : Spot} (h : Ga W t s) (ht : t ≤ t') : Ga W t' s := h.imp id fun ⟨t0, a, b⟩ => ⟨t0, by omega, b⟩
theorem taken_lv (ok : WOk W) {t : Int} {s s' : Spot} (h : Ga W t s) (ht : taken W B s t = some s') : Ga W t s' ∧ s'.lv ≤ s.lv ∧ s'.lv < W.length ∧ s'.due = s.due := by
  unfold taken at ht
  by_cases c : s.lv = 0 ∨ B.fire = true
  · rw [if_pos c] at ht
    cases ht
  · rw [if_neg c] at ht
    by_cases c2 : t < s.due
    · rw [if_pos c2] at ht
      cases ht
      have e := spotAt_lv W B t (s.due - t) s.due
      have ed : (spotAt W B t (s.due - t) s.due).due = s.due := by unfold spotAt; split <;> rfl
      refine ⟨.inr ⟨t, Int.le_refl _, by rw [e, ed]⟩, ?_, spotAt_lt ok .., ed⟩
      rw [e]
      rcases h with h | ⟨t0, h1, h2⟩
      · exact absurd (.inl h) c
      · rw [h2]
        exact levelIx_mono ok (by omega)
    · rw [if_neg c2] at ht
      by_cases c3 : B.put = true
      · rw [if_pos c3] at ht
        cases ht
        exact ⟨.inl rfl, Nat.zero_le _, ok.pos, rfl⟩
      · rw [if_neg c3] at ht
        cases ht
/-- the second of two placements in one visit -/
def Rs (W : List Lv) (B : Bk) (t : Int) (a b : Stp) : Prop := a.1 = t ∧ b.1 = t ∧ B.high = true ∧ isVis (lv W a.2.lv) a.2.pt (t - 1) t = true ∧ taken W B a.2 t = some b.2 ∧ b.2.lv ≤ a.2.lv
theorem visGo_ch (ok : WOk W) {t : Int} {P : Nat → Nat → Prop} (hP : ∀ i j, j ≤ i → P i j → B.high = true) : ∀ (is : List Nat) {sp : Spot}, is.Pairwise P → Ga W t sp →
    (visGo W B (t - 1) t is sp ≠ [] → sp.lv ∈ is ∧ isVis (lv W sp.lv) sp.pt (t - 1) t = true) ∧
    (∀ z l, jvis t (visGo W B (t - 1) t is sp) = z :: l → taken W B sp t = some z.2 ∧ z.1 = t ∧ Ch (Rs W B t) z l) ∧
    (∀ a0, (visGo W B (t - 1) t is sp).getLast? = some none → taken W B (lastD (a0, sp) (jvis t (visGo W B (t - 1) t is sp))).2 t = none ∧ (jvis t (visGo W B (t - 1) t is sp) ≠ [] → isVis (lv W (lastD (a0, sp) (jvis t (visGo W B (t - 1) t is sp))).2.lv) (lastD (a0, sp) (jvis t (visGo W B (t - 1) t is sp))).2.pt (t - 1) t = true ∧ (lastD (a0, sp) (jvis t (visGo W B (t - 1) t is sp))).1 = t)) ∧
    (∀ a0 s, (visGo W B (t - 1) t is sp).getLast? = some (some s) → lastD (a0, sp) (jvis t (visGo W B (t - 1) t is sp)) = (t, s)) ∧
    (∀ s, some s ∈ visGo W B (t - 1) t is sp → Ga W t s)
  | [], sp, _, _ => by
    unfold visGo
    exact ⟨fun h => absurd rfl h, fun z l h => (by cases h), fun _ h => (by cases h), fun _ s h => (by cases h), fun s h => (by cases h)⟩
  | i :: is, sp, hpw, hg => by
    obtain ⟨hp1, hp2⟩ := List.pairwise_cons.mp hpw
    unfold visGo
    by_cases c : sp.lv = i ∧ isVis (lv W i) sp.pt (t - 1) t = true
    · rw [if_pos c]
      have hv : isVis (lv W sp.lv) sp.pt (t - 1) t = true := by rw [c.1]; exact c.2
      cases ht : taken W B sp t with
      | none =>
        refine ⟨fun _ => ⟨by rw [c.1]; exact List.mem_cons_self, hv⟩, fun z l h => (by cases h), fun a0 _ => ⟨ht, fun h => absurd rfl h⟩, fun _ s h => (by cases h), fun s h => (by simp at h)⟩
      | some s' =>
        obtain ⟨g1, g2, g3, g4⟩ := taken_lv ok hg ht
        obtain ⟨i1, i2, i3, i4, i5⟩ := visGo_ch ok hP is (sp := s') hp2 g1
        dsimp only
        have hd : visGo W B (t - 1) t is s' ≠ [] → B.high = true ∧ isVis (lv W s'.lv) s'.pt (t - 1) t = true := fun h => by
          obtain ⟨j1, j2⟩ := i1 h
          exact ⟨hP i s'.lv (by rw [← c.1]; exact g2) (hp1 _ j1), j2⟩
        refine ⟨fun _ => ⟨by rw [c.1]; exact List.mem_cons_self, hv⟩, fun z l h => ?_, fun a0 h => ?_, fun a0 s h => ?_, fun s h => ?_⟩
        · have h : (t, s') :: jvis t (visGo W B (t - 1) t is s') = z :: l := h
          injection h with h1 h2
          subst h1
          refine ⟨rfl, rfl, ?_⟩
          cases l with
          | nil => trivial
          | cons y l =>
            obtain ⟨k1, k2, k3⟩ := i2 y l h2
            obtain ⟨m1, m2⟩ := hd (fun z => by rw [z] at h2; cases h2)
            exact ⟨⟨rfl, k2, m1, m2, k1, (taken_lv ok g1 k1).2.1⟩, k3⟩
        · have hne : visGo W B (t - 1) t is s' ≠ [] := fun z => by rw [z] at h; simp at h
          have h' : (visGo W B (t - 1) t is s').getLast? = some none := by
            obtain ⟨u, us, hu⟩ := List.exists_cons_of_ne_nil hne
            rw [hu] at h ⊢
            rw [List.getLast?_cons_cons] at h
            exact h
          obtain ⟨n1, n2⟩ := i3 t h'
          refine ⟨n1, fun _ => ?_⟩
          show isVis (lv W (lastD (t, s') (jvis t (visGo W B (t - 1) t is s'))).2.lv) (lastD (t, s') (jvis t (visGo W B (t - 1) t is s'))).2.pt (t - 1) t = true ∧ (lastD (t, s') (jvis t (visGo W B (t - 1) t is s'))).1 = t
          by_cases hj : jvis t (visGo W B (t - 1) t is s') = []
          · rw [hj]
            exact ⟨(hd hne).2, rfl⟩
          · exact n2 hj
        · show lastD (t, s') (jvis t (visGo W B (t - 1) t is s')) = (t, s)
          by_cases hne : visGo W B (t - 1) t is s' = []
          · rw [hne] at h ⊢
            cases h
            rfl
          · obtain ⟨u, us, hu⟩ := List.exists_cons_of_ne_nil hne
            refine i4 t s ?_
            rw [hu] at h ⊢
            rw [List.getLast?_cons_cons] at h
            exact h
        · rcases List.mem_cons.mp h with z | z
          · cases z
            exact g1
          · exact i5 s z
    · rw [if_neg c]
      obtain ⟨i1, i2, i3, i4, i5⟩ := visGo_ch ok hP is (sp := sp) hp2 hg
      exact ⟨fun h => ⟨List.mem_cons_of_mem _ (i1 h).1, (i1 h).2⟩, i2, i3, i4, i5⟩
theorem order_pw : (order W B).Pairwise fun i j => (B.high = true ∧ j < i) ∨ (B.high = false ∧ i < j) := by
  unfold order
  cases hb : B.high with
  | true =>
    rw [if_pos rfl]
    rw [List.pairwise_reverse]
    exact List.pairwise_lt_range.imp fun h => .inl ⟨rfl, h⟩
  | false =>
    rw [if_neg (by decide)]
    exact List.pairwise_lt_range.imp fun h => .inr ⟨rfl, h⟩
/-- b is the placement behind a -/
def Nx (W : List Lv) (B : Bk) (a b : Stp) : Prop := (b.1 = va (lv W a.2.lv) a.2.pt a.1 ∨ (b.1 = a.1 ∧ B.high = true ∧ isVis (lv W a.2.lv) a.2.pt (a.1 - 1) a.1 = true)) ∧ taken W B a.2 b.1 = some b.2 ∧ b.2.lv ≤ a.2.lv
/-- a is the last one; the timer fires at T -/
def En (W : List Lv) (a0 a : Stp) (l : List Stp) (T : Int) : Prop := T = va (lv W a.2.lv) a.2.pt a.1 ∨ (T = a.1 ∧ l ≠ [] ∧ isVis (lv W a.2.lv) a.2.pt (a.1 - 1) a.1 = true)
theorem jvis_len {t : Int} : ∀ {os : List (Option Spot)}, (∀ j k, os[k]? = some none → j < os.length → j ≤ k) → (jvis t os).length = os.length ∨ ((jvis t os).length + 1 = os.length ∧ os.getLast? = some none)
  | [], _ => .inl rfl
  | none :: os, h => by
    have := fun z => h 1 0 rfl z
    cases os with
    | nil => exact .inr ⟨rfl, rfl⟩
    | cons a os =>
      have := this (by simp)
      omega
  | some s :: os, h => by
    rcases jvis_len (t := t) (os := os) fun j k hk hj => by
      have := h (j + 1) (k + 1) (by simpa using hk) (by simpa using hj)
      omega with z | ⟨z1, z2⟩
    · exact .inl (by show (jvis t os).length + 1 = os.length + 1; rw [z])
    · refine .inr ⟨by show (jvis t os).length + 1 + 1 = os.length + 1; rw [z1], ?_⟩
      cases os with
      | nil => cases z2
      | cons a os => rw [List.getLast?_cons_cons]; exact z2
theorem jgo_main (ok : WOk W) : ∀ (n : Nat) {sp : Spot} {tick mv : Int}, mu sp tick ≤ n → sp.lv < W.length → Ga W tick sp →
    Ch (Nx W B) (tick, sp) (jgo W B sp tick) ∧ ∃ T, wl W B none n sp tick mv = some (none, T, mv + (jgo W B sp tick).length) ∧ En W (tick, sp) (lastD (tick, sp) (jgo W B sp tick)) (jgo W B sp tick) T
  | 0, sp, tick, mv, h, _, _ => by unfold mu at h; split at h <;> omega
  | n + 1, sp, tick, mv, h, hl, hg => by
    have hgt := va_step ok hl sp.pt tick
    have hmu : ∀ s, (visited W B sp (va (lv W sp.lv) sp.pt tick - 1) (va (lv W sp.lv) sp.pt tick)).getLast? = some (some s) → mu s (va (lv W sp.lv) sp.pt tick) + 1 ≤ mu sp tick ∧ s.lv < W.length ∧ s.due = sp.due := fun s hq => mu_step ok hgt.1 hq
    have hne := visited_ne ok (B := B) hl tick
    have hend : ∀ j k, (visited W B sp (va (lv W sp.lv) sp.pt tick - 1) (va (lv W sp.lv) sp.pt tick))[k]? = some none → j < (visited W B sp (va (lv W sp.lv) sp.pt tick - 1) (va (lv W sp.lv) sp.pt tick)).length → j ≤ k := fun j k a b => visGo_end _ a b
    obtain ⟨i1, i2, i3, i4, i5⟩ := visGo_ch ok (t := va (lv W sp.lv) sp.pt tick) (P := fun i j => (B.high = true ∧ j < i) ∨ (B.high = false ∧ i < j)) (fun i j hji h => by rcases h with h | h; exact h.1; omega) (order W B) (sp := sp) order_pw (hg.later (by omega))
    rw [jgo_eq ok hl]
    unfold wl
    dsimp only
    rw [if_neg (show ¬ (over none (va (lv W sp.lv) sp.pt tick) = true) from Bool.false_ne_true)]
    generalize hT : va (lv W sp.lv) sp.pt tick = t at *
    change visited W B sp (t - 1) t ≠ [] → _ at i1
    change ∀ z l, jvis t (visited W B sp (t - 1) t) = z :: l → _ at i2
    change ∀ a0, (visited W B sp (t - 1) t).getLast? = some none → taken W B (lastD (a0, sp) (jvis t (visited W B sp (t - 1) t))).2 t = none ∧ (jvis t (visited W B sp (t - 1) t) ≠ [] → isVis (lv W (lastD (a0, sp) (jvis t (visited W B sp (t - 1) t))).2.lv) (lastD (a0, sp) (jvis t (visited W B sp (t - 1) t))).2.pt (t - 1) t = true ∧ (lastD (a0, sp) (jvis t (visited W B sp (t - 1) t))).1 = t) at i3
    change ∀ a0 s, (visited W B sp (t - 1) t).getLast? = some (some s) → lastD (a0, sp) (jvis t (visited W B sp (t - 1) t)) = (t, s) at i4
    change ∀ s, some s ∈ visited W B sp (t - 1) t → Ga W t s at i5
    generalize visited W B sp (t - 1) t = os at *
    have hch : Ch (Nx W B) (tick, sp) (jvis t os) := by
      cases hj : jvis t os with
      | nil => trivial
      | cons z l =>
        obtain ⟨k1, k2, k3⟩ := i2 z l hj
        refine ⟨⟨.inl (by rw [k2]; exact hT.symm), by rw [k2]; exact k1, (taken_lv ok (hg.later (by omega)) k1).2.1⟩, k3.imp fun a b ⟨r1, r2, r3, r4, r5, r6⟩ => ⟨.inr ⟨by rw [r1, r2], r3, by rw [r1]; exact r4⟩, by rw [r2]; exact r5, r6⟩⟩
    cases hq : os.getLast? with
    | none => exact absurd (List.getLast?_eq_none_iff.mp hq) hne
    | some o =>
      cases o with
      | none =>
        have hlen : (jvis t os).length + 1 = os.length := by
          rcases jvis_len (t := t) hend with z | z
          · exfalso
            have key : ∀ {us : List (Option Spot)}, (jvis t us).length = us.length → us.getLast? ≠ some none := fun {us} => by
              induction us with
              | nil => intro _ h; cases h
              | cons u us ih =>
                intro he hz
                cases u with
                | none => cases he
                | some s =>
                  have he : (jvis t us).length + 1 = us.length + 1 := he
                  cases us with
                  | nil => cases hz
                  | cons v us =>
                    rw [List.getLast?_cons_cons] at hz
                    exact ih (by omega) hz
            exact key z hq
          · exact z.1
        dsimp only
        rw [List.append_nil]
        refine ⟨hch, t, by rw [show mv + (os.length : Int) - 1 = mv + ((jvis t os).length : Int) by omega], ?_⟩
        obtain ⟨n1, n2⟩ := i3 tick hq
        by_cases hj : jvis t os = []
        · rw [hj]
          exact .inl hT.symm
        · obtain ⟨m1, m2⟩ := n2 hj
          exact .inr ⟨m2.symm, hj, by rw [m2]; exact m1⟩
      | some s =>
        have hlen : (jvis t os).length = os.length := by
          rcases jvis_len (t := t) hend with z | z
          · exact z
          · rw [hq] at z
            cases z.2
        obtain ⟨m1, m2, m3⟩ := hmu s hq
        obtain ⟨c1, T, c2, c3⟩ := jgo_main ok n (sp := s) (tick := t) (mv := mv + os.length) (by omega) m2 (i5 s (List.mem_of_getLast? hq))
        have e4 := i4 tick s hq
        dsimp only
        refine ⟨Ch.app hch (by rw [e4]; exact c1), T, ?_, ?_⟩
        · rw [c2, List.length_append, hlen, show mv + (os.length : Int) + ((jgo W B s t).length : Int) = mv + ((os.length + (jgo W B s t).length : Nat) : Int) by omega]
        · rw [lastD_app, e4]
          rcases c3 with z | ⟨z1, z2, z3⟩
          · exact .inl z
          · exact .inr ⟨z1, fun y => z2 (List.append_eq_nil_iff.mp y).2, z3⟩
end Tw
/-! Tw: the law's look at one placement behind another -/
namespace Tw
open PySem PySem.Spec PyProof.Rows L2 He TwM StX
open PySem.W (Frag)
local macro_rules | `(tactic| walk_at "rsl") => `(tactic| simp only [*, at3_0, at3_1, at3_2, at2_0, at2_1, updS, upd_two, gSub, rSetL, updN, tPar, tPar3, gTup, gCons, gNil, and_assoc, not_true_eq_false, not_false_eq_true, tNever, List.length_map, tFld, rIxTH, rIxLH, rLenTH, rLenLH, lk1, lfs_g, lfs_s, lfs_p, HO.ins.injEq, HO.tup.injEq, HO.lst.injEq, sp_Book_rounding, sp_Book_action, sp_Book_order, sp_Book_due, sp_Book_zero, sp_Book_beyond, Int.toNat_natCast, sp_visit_after, sp_is_visited, sp_Level_grain, sp_Level_slots, sp_Level_span, sp_Wheel_reach, sp_Wheel___len__, sp_is_integer, sp_is_count, sp_is_within, sp_rounded, tAsg, gName, tVar, tC, tOp, rI, rI0, rU, tUn, oAdd, oSub, oMul, oDiv, oMod, oNeg, oLt, oLe, oGt, oGe, oIsN, oNotN, tFn, tCons, tNil, tIfS, tIf, tTest, tB, tNot, tAnd, tOr, tAndV, tOrV, tNotV,
    tRet, tRetN, tNext, tCB, tDrop, tChain, rEq, rNe, oMax2, oMin2, oInt1, rLenF, L2.start, List.map_cons, List.map_nil, List.length_cons, List.length_nil, List.replicate_succ, List.replicate_zero, List.cons_append, List.nil_append, Nat.reduceAdd, Nat.reduceSub, Nat.zero_add,
    List.set_cons_zero, List.set_cons_succ, List.getElem?_cons_zero, List.getElem?_cons_succ, Option.some.injEq, V.int.injEq, V.ref.injEq, V.str.injEq, V.bl.injEq, exists_eq_left', exists_eq_left, exists_and_left, List.cons.injEq, and_true, true_and, decide_eq_true_eq, sc_ii, sc_ss, sc_bb, sc_ni, sc_in, sc_nn, sc_is, reduceCtorEq,
    Bool.not_eq_true', decide_eq_false_iff_not, if_true, if_false, Bool.false_eq_true, exists_eq', exists_const, false_and, and_false, or_false, false_or, exists_false, Bool.not_not, Bool.not_true, Bool.not_false, sUp_up, sFire_fire, sHigh_high, sPut_put, sZone_now, sBey_refuse, sBey_cut, tTup, tLst, sz0, sz1, sz2, sz3, sz4, sz5, sz6])
local macro_rules | `(tactic| walk_at "st") => `(tactic| ((try dsimp only); rw [seq1]; walk_at "rsl"))
section
variable {K : Frag} {w : World}
def sp_next_visit (K : Frag) : Sp := fun vs H Q _ => ∃ (a : Addr) (pt now : Int), vs = [.ref a, .int pt, .int now] ∧ ∃ l, LvAt K H a l ∧ 0 ≤ pt ∧ 0 ≤ now ∧ Q (.int (va l pt now)) H
def t_next_visit (K : Frag) (w : World) : TS :=
  (tSeq (tIfS (tNot (tB (tFn (sp_is_count K) E0 (tCons (tVar 1) tNil)))) tNever tNext)
  (tSeq (tIfS (tNot (tB (tFn (sp_is_count K) E0 (tCons (tVar 2) tNil)))) tNever tNext)
  (tRet (tFn (sp_visit_after K) E0 (tCons (tVar 0) (tCons (tVar 1) (tCons (tVar 2) tNil)))))))
def n_next_visit : List Str := ["level", "point", "now"]
theorem rd_next_visit (vs : List V) (H : Hp) (Q : VK) (E : XK) (h : sp_next_visit K vs H Q E) : t_next_visit K w { nx := fun _ H' => Q .non H', rt := Q } (L2.start n_next_visit vs) H := by
  obtain ⟨a, pt, now, rfl, l, hL, h1, h2, q⟩ := h
  unfold t_next_visit n_next_visit
  walk_at "st"
  walk_at "st"
  exact ⟨l, hL, q⟩
/-- a placement, as journey tells it -/
def StpAt (H : Hp) (v : V) (st : Stp) : Prop := ∃ p, v = .ref p ∧ H p = some (.tup [.int st.1, .int st.2.lv, .int st.2.pt])
theorem StpAt.same {H H' : Hp} {v : V} {st : Stp} (h : StpAt H v st) (s : Same H H') : StpAt H' v st := by
  obtain ⟨p, e, hp⟩ := h
  exact ⟨p, e, s _ _ hp⟩
theorem eqv3 (a b c : Int) : PyData.eqv (.tuple [.int a, .int b, .int c]) (.tuple [.int a, .int b, .int c]) = true := by simp [PyData.eqv, PyData.eqvAll]
theorem sh3 (a b c : Int) : SeqAt.shaped (.tuple [.int a, .int b, .int c]) = true := rfl
theorem dp3 {H : Hp} {p : Addr} {a b c : Int} (h : H p = some (.tup [.int a, .int b, .int c])) : Dp K H (.ref p) (.tuple [.int a, .int b, .int c]) := .tup (SqT.of h) (.cons (.int _) (.cons (.int _) (.cons (.int _) .nil)))
theorem eq3 {H : Hp} {p q : Addr} {a b c : Int} {Q : VK} (hp : H p = some (.tup [.int a, .int b, .int c])) (hq : H q = some (.tup [.int a, .int b, .int c])) (h : Q (.bl true) H) : rEqD K (.ref p) (.ref q) H Q := by
  refine ⟨_, _, dp3 hp, dp3 hq, sh3 .., sh3 .., ?_⟩
  rw [eqv3]
  exact h
theorem ne3 {H : Hp} {p q : Addr} {a b c : Int} {Q : VK} (hp : H p = some (.tup [.int a, .int b, .int c])) (hq : H q = some (.tup [.int a, .int b, .int c])) (h : Q (.bl false) H) : rNeD K (.ref p) (.ref q) H Q := by
  refine ⟨_, _, dp3 hp, dp3 hq, sh3 .., sh3 .., ?_⟩
  rw [eqv3]
  exact h
/-- what is known of two placements in turn -/
structure NxW (W : List Lv) (B : Bk) (due : Int) (a b : Stp) : Prop where
  nx : Nx W B a b
  due : a.2.due = due
  lv : a.2.lv < W.length
  t0 : 0 ≤ a.1
  p0 : 0 ≤ a.2.pt
def sp__law_next_right (K : Frag) : Sp := fun vs H Q _ => ∃ (r rv aw ab : Addr) (due : Int) (u v : V), vs = [.ref r, .ref rv, .ref aw, .ref ab, .int due, u, v] ∧ ∃ W B a b, RowsAt H r W ∧ RWk W ∧ VlAt H rv B ∧ WhAt K H aw W ∧ StpAt H u a ∧ StpAt H v b ∧ NxW W B due a b ∧ ∀ H', Same H H' → Q (.bl true) H'
def t__law_next_right (K : Frag) (w : World) : TS :=
  (tSeq (tAsg (tVar 6) (gTup K 3 (gCons (gName 7) (gCons (gName 8) (gCons (gName 9) gNil)))))
  (tSeq (tAsg (tFn (sp_next_visit K) E0 (tCons (tFn (sp_Wheel___getitem__ K) E0 (tCons (tVar 2) (tCons (tOp rIxTH (tVar 5) (tC (.int 1))) tNil))) (tCons (tOp rIxTH (tVar 5) (tC (.int 2))) (tCons (tOp rIxTH (tVar 5) (tC (.int 0))) tNil)))) (gName 10))
  (tSeq (tIfS (tAnd (tTest (tOp rNe (tVar 7) (tVar 10))) (tTest (tOp rNe (tVar 7) (tOp rIxTH (tVar 5) (tC (.int 0)))))) (tRet (tC (.bl false))) tNext)
  (tSeq (tIfS (tTest (tOp rEq (tVar 7) (tOp rIxTH (tVar 5) (tC (.int 0))))) (tSeq (tAsg (tFn (sp_Wheel___getitem__ K) E0 (tCons (tVar 2) (tCons (tOp rIxTH (tVar 5) (tC (.int 1))) tNil))) (gName 11))
  (tSeq (tIfS (tOr (tTest (tOp rNe (tOp rIxLH (tVar 1) (tC (.int 2))) (tC (.str "high")))) (tOr (tTest (tOp oLt (tOp rIxTH (tVar 5) (tC (.int 1))) (tVar 8))) (tTest (tOp rNe (tOp oMod (tVar 7) (tFn (sp_Level_grain K) E0 (tCons (tVar 11) tNil))) (tC (.int 0)))))) (tRet (tC (.bl false))) tNext)
  (tIfS (tTest (tOp rNe (tOp oMod (tOp oSub (tOp oDiv (tVar 7) (tFn (sp_Level_grain K) E0 (tCons (tVar 11) tNil))) (tOp rIxTH (tVar 5) (tC (.int 2)))) (tFn (sp_Level_slots K) E0 (tCons (tVar 11) tNil))) (tC (.int 0)))) (tRet (tC (.bl false))) tNext))) tNext)
  (tSeq (tIfS (tOr (tTest (tOp rEq (tOp rIxLH (tVar 1) (tC (.int 1))) (tC (.str "fire")))) (tTest (tOp rEq (tOp rIxTH (tVar 5) (tC (.int 1))) (tC (.int 0))))) (tRet (tC (.bl false))) tNext)
  (tSeq (tIfS (tTest (tOp oGt (tVar 4) (tVar 7))) (tRet (tOp (rEqD K) (tTup (tCons (tVar 8) (tCons (tVar 9) (tCons (tVar 4) tNil)))) (tFn (sp__law_spot_at K) E0 (tCons (tVar 0) (tCons (tVar 1) (tCons (tVar 7) (tCons (tOp oSub (tVar 4) (tVar 7)) (tCons (tVar 4) tNil)))))))) tNext)
  (tRet (tAndV (tOp rEq (tOp rIxLH (tVar 1) (tC (.int 3))) (tC (.str "put"))) (tAndV (tOp rEq (tVar 8) (tC (.int 0))) (tOp rEq (tVar 9) (tVar 7)))))))))))
def n__law_next_right : List Str := ["_law_rows", "_law_values", "_law_wheel", "_law_book", "_law_due", "_law_one", "_law_other", "_law_tick", "_law_level", "_law_point", "_law_end", "_law_again"]
theorem rd__law_next_right (vs : List V) (H : Hp) (Q : VK) (E : XK) (h : sp__law_next_right K vs H Q E) : t__law_next_right K w { nx := fun _ H' => Q .non H', rt := Q } (L2.start n__law_next_right vs) H := by
  obtain ⟨r, rv, aw, ab, due, u, v, rfl, W, B, a, b, hR, hRk, hV, hW, ⟨pu, rfl, hu⟩, ⟨pv, rfl, hv⟩, ⟨⟨hn1, hn2, hn3⟩, hdue, hlv, ht0, hp0⟩, q⟩ := h
  obtain ⟨ta, sa⟩ := a
  obtain ⟨tb, sb⟩ := b
  dsimp only at *
  have ok := hRk.ok
  have hall := ok.all sa.lv hlv
  have hV6 := hV.six
  have hl5 := ok.len
  have hgt := va_gt (l := lv W sa.lv) (by omega) (by omega) sa.pt ta
  unfold t__law_next_right n__law_next_right
  rw [seq1]
  refine ⟨_, rfl, pv, _, rfl, SqT.of hv, rfl, _, _, rfl, _, _, rfl, _, _, rfl, rfl, ?_⟩
  try dsimp only [List.set_cons_succ, List.set_cons_zero]
  walk_at "st"
  refine ⟨aw, sa.lv, rfl, W, hW, by omega, by omega, fun c hc => ?_⟩
  rw [Int.toNat_natCast] at hc
  walk_at "rsl"
  refine ⟨c, sa.pt, ta, rfl, lv W sa.lv, hc, hp0, ht0, ?_⟩
  have hne : va (lv W sa.lv) sa.pt ta ≠ ta := by omega
  refine seqM (fun σ' H' => σ' = [some (.ref r), some (.ref rv), some (.ref aw), some (.ref ab), some (.int due), some (.ref pu), some (.ref pv), some (.int tb), some (.int sb.lv), some (.int sb.pt), some (.int (va (lv W sa.lv) sa.pt ta)), none] ∧ H = H') (fun R hI => ?_) ?_
  · rcases hn1 with hv1 | ⟨hv1, hv2, hv3⟩
    · have h1 : ¬ tb = ta := by omega
      walk_at "rsl"
    · have h1 : ¬ tb = va (lv W sa.lv) sa.pt ta := by omega
      walk_at "rsl"
      split <;> trivial
  rintro σ' H' ⟨rfl, rfl⟩
  refine seqM (fun σ' H' => ∃ x11, σ' = [some (.ref r), some (.ref rv), some (.ref aw), some (.ref ab), some (.int due), some (.ref pu), some (.ref pv), some (.int tb), some (.int sb.lv), some (.int sb.pt), some (.int (va (lv W sa.lv) sa.pt ta)), x11] ∧ H = H') (fun R hI => ?_) ?_
  · rcases hn1 with hv1 | ⟨hv1, hv2, hv3⟩
    · have h1 : ¬ tb = ta := by omega
      walk_at "rsl"
    · obtain ⟨m1, m2⟩ := isVis_tick (by omega) (by omega) hv3
      walk_at "rsl"
      walk_at "st"
      refine ⟨aw, sa.lv, rfl, W, hW, by omega, by omega, fun c hc => ?_⟩
      rw [Int.toNat_natCast] at hc
      have eL := @lv_ex K H c (lv W sa.lv) hc
      try dsimp only [List.set_cons_succ, List.set_cons_zero]
      try rw [gName1]
      walk_at "st"
      refine ⟨_, at6_2 .., rfl, ?_⟩
      rw [if_neg (fun z => z (by decide +kernel)), if_neg (by omega)]
      exact ⟨by omega, ⟨by omega, by omega⟩, by omega⟩
  rintro σ' H' ⟨x11, rfl, rfl⟩
  unfold taken at hn2
  by_cases c1 : sa.lv = 0 ∨ B.fire = true
  · rw [if_pos c1] at hn2
    cases hn2
  rw [if_neg c1] at hn2
  walk_at "st"
  refine ⟨_, at6_1 .., rfl, ?_⟩
  rw [if_neg (fun z => c1 (.inr ((sFire_fire B.fire).mp (V.str.inj z)))), if_neg (fun z => c1 (.inl (by omega)))]
  by_cases c2 : tb < sa.due
  · rw [if_pos c2] at hn2
    have e2 := Option.some.inj hn2
    have c3 : tb < due := by omega
    walk_at "st"
    intro p hp
    have n1 := Same.new (o := .tup [.int sb.lv, .int sb.pt, .int due]) hp
    have hpt := upd_same (H := H) (a := p) (o := .tup [.int sb.lv, .int sb.pt, .int due])
    have hR1 := hR.same n1
    have hV1 := hV.same n1
    generalize upd H p (.tup [.int sb.lv, .int sb.pt, .int due]) = H1 at *
    refine ⟨r, rv, tb, due - tb, due, rfl, W, B, hR1, hRk, hV1, fun p2 H2 s2 hp2 => ?_⟩
    unfold SpAt at hp2
    rw [← hdue, e2] at hp2
    have ed : sb.due = sa.due := by
      rw [← e2]
      unfold spotAt
      split <;> rfl
    rw [ed, hdue] at hp2
    exact eq3 (s2 _ _ hpt) hp2 (q H2 (n1.trans s2))
  · rw [if_neg c2] at hn2
    have c3 : ¬ tb < due := by omega
    by_cases c4 : B.put = true
    · rw [if_pos c4] at hn2
      have e2 := Option.some.inj hn2
      walk_at "st"
      refine ⟨_, at6_3 .., rfl, ?_⟩
      rw [if_pos (by decide +kernel), if_pos (by rw [← e2]; rfl), ← e2]
      show Q (.bl (decide (tb = tb))) H
      rw [decide_eq_true rfl]
      exact q H (Same.refl _)
    · rw [if_neg c4] at hn2
      cases hn2
end
end Tw
/-! Tw: journeys as lists; one placement behind another -/
namespace Tw
open PySem PySem.Spec PyProof.Rows L2 He TwM StX
open PySem.W (Frag)
local macro_rules | `(tactic| walk_at "rsl") => `(tactic| simp only [*, at3_0, at3_1, at3_2, at2_0, at2_1, updS, upd_two, gSub, rSetL, updN, tPar, tPar3, gTup, gCons, gNil, and_assoc, not_true_eq_false, not_false_eq_true, tNever, List.length_map, tFld, rIxTH, rIxLH, rLenTH, rLenLH, lk1, lfs_g, lfs_s, lfs_p, HO.ins.injEq, HO.tup.injEq, HO.lst.injEq, sp_Book_rounding, sp_Book_action, sp_Book_order, sp_Book_due, sp_Book_zero, sp_Book_beyond, Int.toNat_natCast, sp_visit_after, sp_is_visited, sp_Level_grain, sp_Level_slots, sp_Level_span, sp_Wheel_reach, sp_Wheel___len__, sp_is_integer, sp_is_count, sp_is_within, sp_rounded, tAsg, gName, tVar, tC, tOp, rI, rI0, rU, tUn, oAdd, oSub, oMul, oDiv, oMod, oNeg, oLt, oLe, oGt, oGe, oIsN, oNotN, tFn, tCons, tNil, tIfS, tIf, tTest, tB, tNot, tAnd, tOr, tAndV, tOrV, tNotV,
    tRet, tRetN, tNext, tCB, tDrop, tChain, rEq, rNe, oMax2, oMin2, oInt1, rLenF, L2.start, List.map_cons, List.map_nil, List.length_cons, List.length_nil, List.replicate_succ, List.replicate_zero, List.cons_append, List.nil_append, Nat.reduceAdd, Nat.reduceSub, Nat.zero_add,
    List.set_cons_zero, List.set_cons_succ, List.getElem?_cons_zero, List.getElem?_cons_succ, Option.some.injEq, V.int.injEq, V.ref.injEq, V.str.injEq, V.bl.injEq, exists_eq_left', exists_eq_left, exists_and_left, List.cons.injEq, and_true, true_and, decide_eq_true_eq, sc_ii, sc_ss, sc_bb, sc_ni, sc_in, sc_nn, sc_is, reduceCtorEq,
    Bool.not_eq_true', decide_eq_false_iff_not, if_true, if_false, Bool.false_eq_true, exists_eq', exists_const, false_and, and_false, or_false, false_or, exists_false, Bool.not_not, Bool.not_true, Bool.not_false, sUp_up, sFire_fire, sHigh_high, sPut_put, sZone_now, sBey_refuse, sBey_cut, tTup, tLst, sz0, sz1, sz2, sz3, sz4, sz5, sz6])
local macro_rules | `(tactic| walk_at "st") => `(tactic| ((try dsimp only); rw [seq1]; walk_at "rsl"))
section
variable {W : List Lv} {B : Bk}
/-- what is true of each placement of a timer -/
structure PlW (W : List Lv) (due : Int) (a : Stp) : Prop where
  ga : Ga W a.1 a.2
  lv : a.2.lv < W.length
  due : a.2.due = due
  t0 : 0 ≤ a.1
  p0 : 0 ≤ a.2.pt
theorem spotAt_pt (ok : WOk W) {B : Bk} {t d due : Int} (ht : 0 ≤ t) (hd : 0 ≤ d) : 0 ≤ (spotAt W B t d due).pt ∧ (spotAt W B t d due).due = due := by
  unfold spotAt
  split
  · rename_i i hi
    have := ok.all i (levelOf_lt hi).1
    exact ⟨(rnd_bound (by omega) (by omega)).1, rfl⟩
  · have := ok.all (W.length - 1) (by have := ok.pos; omega)
    have hr : 2 ≤ reach W := by unfold reach; omega
    exact ⟨(rnd_bound (by omega) (by omega)).1, rfl⟩
theorem Nx.pl (ok : WOk W) {due : Int} {a b : Stp} (h : PlW W due a) (n : Nx W B a b) : PlW W due b := by
  obtain ⟨h1, h2, h3, h4, h5⟩ := h
  obtain ⟨n1, n2, n3⟩ := n
  have hgt := va_step ok h2 a.2.pt a.1
  have ht : a.1 ≤ b.1 := by rcases n1 with z | z <;> omega
  obtain ⟨k1, k2, k3, k4⟩ := taken_lv ok (h1.later ht) n2
  refine ⟨k1, k3, by rw [k4, h3], by omega, ?_⟩
  unfold taken at n2
  split at n2
  · cases n2
  · split at n2
    · rw [← Option.some.inj n2]
      exact (spotAt_pt ok (by omega) (by omega)).1
    · split at n2
      · rw [← Option.some.inj n2]
        show 0 ≤ b.1
        omega
      · cases n2
theorem Ch.all {α : Type} {R : α → α → Prop} {P : α → Prop} (hs : ∀ a b, P a → R a b → P b) : ∀ {a : α} {l : List α}, P a → Ch R a l → ∀ x ∈ a :: l, P x
  | a, [], h, _, x, hx => by rw [List.mem_singleton.mp hx]; exact h
  | a, b :: l, h, c, x, hx => by
    rcases List.mem_cons.mp hx with rfl | hx
    · exact h
    · exact Ch.all hs (hs _ _ h c.1) c.2 x hx
theorem place_pl (ok : WOk W) {now d : Int} {sp : Spot} (h0 : 0 ≤ now) (hd : 0 ≤ d) (h : placeM W B now d = some sp) : PlW W sp.due (now, sp) := by
  have hl := placeM_lt ok h
  unfold placeM at h
  split at h
  · cases h
  · dsimp only at h
    generalize hr : (if reach W ≤ (if 1 > d then 1 else d) ∧ B.bey = 2 then reach W - 1 else (if 1 > d then 1 else d)) = r at h
    have hre : 2 ≤ reach W := (ok.all (W.length - 1) (by have := ok.pos; omega)).2.2.2.2
    have hr1 : 1 ≤ r := by
      rw [← hr]
      split
      · omega
      · split <;> omega
    have e := (Option.some.inj h).symm
    obtain ⟨q1, q2⟩ := spotAt_pt ok (B := B) (due := now + r) h0 (show 0 ≤ r by omega)
    refine ⟨.inr ⟨now, Int.le_refl _, ?_⟩, hl, rfl, h0, by rw [e]; exact q1⟩
    show sp.lv = levelIx W (sp.due - now)
    rw [e, q2, spotAt_lv, show now + r - now = r by omega]
/-- the placements of a timer in turn -/
theorem jny_nx (ok : WOk W) {now d : Int} {sp : Spot} (h0 : 0 ≤ now) (hd : 0 ≤ d) (h : placeM W B now d = some sp) {k : Nat} {a b : Stp} (ha : (jny W B now d)[k]? = some a) (hb : (jny W B now d)[k + 1]? = some b) : NxW W B sp.due a b := by
  have pl := place_pl ok h0 hd h
  obtain ⟨c, _⟩ := jgo_main ok (B := B) (mu sp now) (sp := sp) (tick := now) (mv := 0) (Nat.le_refl _) pl.lv pl.ga
  rw [jny_some h] at ha hb
  have p := Ch.all (P := PlW W sp.due) (fun a b x y => Nx.pl ok x y) pl c a (List.mem_of_getElem? ha)
  exact ⟨c.at ha hb, p.due, p.lv, p.t0, p.p0⟩
theorem jny_pl (ok : WOk W) {now d : Int} {sp : Spot} (h0 : 0 ≤ now) (hd : 0 ≤ d) (h : placeM W B now d = some sp) : ∀ a ∈ jny W B now d, PlW W sp.due a := by
  have pl := place_pl ok h0 hd h
  obtain ⟨c, _⟩ := jgo_main ok (B := B) (mu sp now) (sp := sp) (tick := now) (mv := 0) (Nat.le_refl _) pl.lv pl.ga
  rw [jny_some h]
  exact Ch.all (P := PlW W sp.due) (fun a b x y => Nx.pl ok x y) pl c
/-- how often it is moved, and when it fires -/
theorem jny_fin (ok : WOk W) {now d : Int} {sp : Spot} (h0 : 0 ≤ now) (hd : 0 ≤ d) (h : placeM W B now d = some sp) :
    ((jny W B now d).length : Int) = (fin W B now d).2 + 1 ∧ ∃ a, (jny W B now d).getLast? = some a ∧ En W (now, sp) a (jgo W B sp now) (fin W B now d).1 := by
  have pl := place_pl ok h0 hd h
  obtain ⟨c, T, c2, c3⟩ := jgo_main ok (B := B) (mu sp now) (sp := sp) (tick := now) (mv := 0) (Nat.le_refl _) pl.lv pl.ga
  have hw : wfin W B now d = (T, ((0 : Int) + ((jgo W B sp now).length : Int))) := by unfold wfin; rw [h]; dsimp only; rw [c2]
  rw [wfin_fin ok B hd] at hw
  rw [hw, jny_some h]
  refine ⟨?_, _, lastD_last, c3⟩
  rw [List.length_cons]
  dsimp only
  omega
theorem jstep_len (ok : WOk W) : ∀ (n : Nat) {sp : Spot} {tick : Int}, (jstep W B n sp tick).length ≤ 5 * n
  | 0, _, _ => Nat.zero_le _
  | n + 1, sp, tick => by
    unfold jstep
    dsimp only
    have h1 : ∀ (os : List (Option Spot)) (t : Int), (jvis t os).length ≤ os.length := fun os t => by
      induction os with
      | nil => exact Nat.le_refl _
      | cons o os ih =>
        cases o with
        | none => exact Nat.zero_le _
        | some s => exact Nat.succ_le_succ ih
    have h2 : ∀ (is : List Nat) (s : Spot) (b n : Int), (visGo W B b n is s).length ≤ is.length := fun is => by
      induction is with
      | nil => intro s b n; exact Nat.le_refl _
      | cons i is ih =>
        intro s b n
        unfold visGo
        split
        · split
          · exact Nat.succ_le_succ (Nat.zero_le _)
          · exact Nat.succ_le_succ (ih _ _ _)
        · exact Nat.le_succ_of_le (ih _ _ _)
    have h3 : (visited W B sp (va (lv W sp.lv) sp.pt tick - 1) (va (lv W sp.lv) sp.pt tick)).length ≤ 5 := by
      have := h2 (order W B) sp (va (lv W sp.lv) sp.pt tick - 1) (va (lv W sp.lv) sp.pt tick)
      have hl : (order W B).length = W.length := by unfold order; split <;> simp
      have := ok.len
      unfold visited
      omega
    have h4 := h1 (visited W B sp (va (lv W sp.lv) sp.pt tick - 1) (va (lv W sp.lv) sp.pt tick)) (va (lv W sp.lv) sp.pt tick)
    rw [List.length_append]
    split
    · rename_i s _
      have := jstep_len ok n (sp := s) (tick := va (lv W sp.lv) sp.pt tick)
      omega
    · show _ + 0 ≤ _
      omega
theorem jny_len (ok : WOk W) {now d : Int} {M : Nat} (hd : 0 ≤ d) (hM : d ≤ M) : (jny W B now d).length ≤ 5 * (M + 3) + 1 := by
  unfold jny
  split
  · exact Nat.zero_le _
  · rename_i sp h
    rw [List.length_cons]
    have := jstep_len ok (B := B) (mu sp now) (sp := sp) (tick := now)
    have hm : mu sp now ≤ M + 3 := by
      unfold mu
      split
      · omega
      · have : sp.due - now ≤ M + 1 := by
          unfold placeM at h
          split at h
          · cases h
          · dsimp only at h
            have e := (Option.some.inj h).symm
            have hre : 2 ≤ reach W := (ok.all (W.length - 1) (by have := ok.pos; omega)).2.2.2.2
            have hdue : ∀ r, (spotAt W B now r (now + r)).due = now + r := fun r => by unfold spotAt; split <;> rfl
            rw [e, hdue]
            have hr0 : (if 1 > d then 1 else d) ≤ (M : Int) + 1 := by split <;> omega
            generalize (if 1 > d then 1 else d) = r0 at *
            split
            · rename_i hc
              have := hc.1
              omega
            · omega
        omega
    omega
end
section
variable {K : Frag} {w : World} {W : List Lv} {B : Bk}
/-- a list of placements -/
def StsAt (H : Hp) (xs : List V) (l : List Stp) : Prop := xs.length = l.length ∧ ∀ (i : Nat) (v : V) (st : Stp), xs[i]? = some v → l[i]? = some st → StpAt H v st
theorem StsAt.same {H H' : Hp} {xs : List V} {l : List Stp} (h : StsAt H xs l) (s : Same H H') : StsAt H' xs l := ⟨h.1, fun i v st a b => (h.2 i v st a b).same s⟩
/-- list(journey(..)) -/
theorem lst_jny {ta : TA} {σ : L2.St} {H : Hp} {Q : VK} {aw ab : Addr} {now d : Int} (hta : ∀ R : List V → Hp → Prop, R [.ref aw, .ref ab, .int now, .int d] H → ta σ H R) (hW : WhAt K H aw W) (hB : BkAt K H ab B) (h0 : 0 ≤ now) (hd : 0 ≤ d) (hb : reach W ≤ d → B.bey ≠ 0) (hl : (jny W B now d).length ≤ 1000000)
    (q : ∀ D xs H', Same H H' → H' D = some (.lst xs) → StsAt H' xs (jny W B now d) → Q (.ref D) H') : TwZ.tLstG (TwZ.tGenF (sp_journey K) ta) σ H Q := by
  unfold TwZ.tLstG TwZ.tGenF
  refine hta _ ⟨aw, ab, now, d, rfl, W, B, hW, hB, h0, hd, hb, fun D hD => ⟨(jny W B now d).length + 1, fun j Hs H2 => j ≤ (jny W B now d).length ∧ TwZ.Frm Hs H2 ∧ Same H H2 ∧ ∃ xs, H2 D = some (.lst xs) ∧ StsAt H2 xs ((jny W B now d).take j), ⟨Nat.zero_le _, Same.frm (Same.new hD), Same.new hD, [], upd_same, by rw [List.take_zero]; exact ⟨rfl, fun i v st a => by simp at a⟩⟩, ?_⟩⟩
  rintro j Hs H2 ⟨hj, f2, s2, xs, h2, hS⟩
  have hxl : xs.length = j := by rw [hS.1, List.length_take]; omega
  refine ⟨by omega, f2, fun H3 hf => ?_, fun x H3 hy => ?_⟩
  · obtain ⟨ej, s3⟩ := hf
    rw [ej, List.take_length] at hS
    exact q D xs H3 (s2.trans s3) (s3 _ _ h2) (hS.same s3)
  · obtain ⟨hj2, ⟨st, p, hst, rfl, hp⟩, s3⟩ := hy
    refine ⟨xs, s3 _ _ h2, by rw [hxl]; show j < 16777216; omega, by omega, ?_, Same.updN (s2.trans s3) hD, xs ++ [.ref p], upd_same, ?_⟩
    · exact (TwZ.Frm.refl H3).upd (s3 _ _ h2) rfl
    · have hne : ∀ {b : Addr} {zs : List V}, H3 b = some (.tup zs) → upd H3 D (.lst (xs ++ [.ref p])) b = some (.tup zs) := fun {b zs} z => by
        rw [upd_ne (fun y => by rw [y, s3 _ _ h2] at z; cases z)]
        exact z
      rw [List.take_add_one, hst]
      refine ⟨by rw [List.length_append, List.length_append, hS.1]; rfl, fun i v st' a b => ?_⟩
      rcases Nat.lt_or_ge i xs.length with z | z
      · rw [List.getElem?_append_left z] at a
        rw [List.getElem?_append_left (by rw [← hS.1]; exact z)] at b
        obtain ⟨p', e, hp'⟩ := hS.2 i v st' a b
        exact ⟨p', e, hne (s3 _ _ hp')⟩
      · rw [List.getElem?_append_right z] at a
        rw [List.getElem?_append_right (by rw [← hS.1]; exact z)] at b
        have hi : i - xs.length = 0 := by
          have := (List.getElem?_eq_some_iff.mp a).1
          simp at this
          omega
        rw [hi] at a
        rw [← hS.1, hi] at b
        cases a
        have b : some st = some st' := b
        cases b
        exact ⟨p, rfl, hne hp⟩
theorem for_zipJ {a b : Addr} {xs ys : List V} {g : TG} {tb : TS} {D : Ends} {σ : L2.St} {H : Hp} (hl : ys.length ≤ xs.length) (Pv : Nat → L2.St → Hp → Prop) (h0 : Pv 0 σ H) (hq : ∀ i σ H, Pv i σ H → SqL K H a xs ∧ SqL K H b ys)
    (hs : ∀ (i : Nat) (x y : V) (T : Addr) (σ : L2.St) (H : Hp), xs[i]? = some x → ys[i]? = some y → Pv i σ H → H T = none → g (.ref T) σ (upd H T (.tup [x, y])) fun σ2 H2 => tb { D with nx := Pv (i + 1), ct := Pv (i + 1), bk := D.nx } σ2 H2) (hd : ∀ σ H, Pv ys.length σ H → D.nx σ H) :
    ∃ W : Nat → Nat → L2.St → Hp → Prop, (∃ m, W 0 m σ H) ∧ ∀ i m σ H, W i m σ H →
      ((L2.Itz K a b).stop i H ∧ D.nx σ H) ∨ ((L2.Itz K a b).go i H ∧ ∃ N : L2.St → Hp → Prop, (∀ σ' H', N σ' H' → ∃ m', m' < m ∧ W (i + 1) m' σ' H') ∧ ∀ v H', (L2.Itz K a b).yld i H v H' → g v σ H' fun σ2 H2 => tb { D with nx := N, ct := N, bk := D.nx } σ2 H2) := by
  refine ⟨fun i m σ H => m = ys.length - i ∧ i ≤ ys.length ∧ Pv i σ H, ⟨ys.length, rfl, Nat.zero_le _, h0⟩, ?_⟩
  rintro i m σ H ⟨rfl, hi, p⟩
  obtain ⟨qx, qy⟩ := hq i σ H p
  rcases Nat.lt_or_ge i ys.length with hy | hy
  · refine .inr ⟨⟨xs, ys, _, _, qx, qy, List.getElem?_eq_getElem (by omega), List.getElem?_eq_getElem hy⟩, Pv (i + 1), ?_, ?_⟩
    · exact fun σ' H' p' => ⟨ys.length - (i + 1), by omega, rfl, hy, p'⟩
    · rintro v H' ⟨T, x', y', rfl, hT, rfl, f1, f2⟩
      exact hs i x' y' T σ H (f1 xs qx) (f2 ys qy) p hT
  · obtain rfl : i = ys.length := by omega
    exact .inl ⟨⟨xs, ys, qx, qy, .inr hy⟩, hd σ H p⟩
theorem cut_one {xs : List V} : cutV xs (some 1) none = xs.drop 1 := by
  unfold cutV
  have e1 : HT.sIx xs.length 0 (some 1) = min 1 xs.length := rfl
  have e2 : HT.sIx xs.length xs.length none = xs.length := rfl
  rw [e1, e2]
  rcases Nat.lt_or_ge xs.length 1 with h | h
  · have : xs = [] := List.eq_nil_of_length_eq_zero (by omega)
    subst this
    rfl
  · rw [Nat.min_eq_left h]
    exact List.take_of_length_le (by rw [List.length_drop]; exact Nat.le_refl _)
/-- for one, other in zip(steps, steps[1:]) -/
theorem zip_steps {S : Option V → Option V → L2.St} {G : TG} {ta : TA} {tb : TS} {D : Ends} {H : Hp} {L : Addr} {xs : List V} {l : List Stp} {x0 y0 : Option V} (hL : H L = some (.lst xs)) (hS : StsAt H xs l) (hta : ∀ R : List V → Hp → Prop, (∀ c, H c = none → R [.ref L, .ref c] (upd H c (.lst (cutV xs (some 1) none)))) → ta (S x0 y0) H R)
    (hG : ∀ x y T u v H' R, H' T = some (.tup [u, v]) → R (S (some u) (some v)) H' → G (.ref T) (S x y) H' R)
    (hb : ∀ (D' : Ends) k u v a b H', Same H H' → l[k]? = some a → l[k + 1]? = some b → StpAt H' u a → StpAt H' v b → D'.rt = D.rt → (∀ H'', Same H' H'' → D'.nx (S (some u) (some v)) H'') → tb D' (S (some u) (some v)) H')
    (hd : ∀ x y H', Same H H' → D.nx (S x y) H') : tFor (RZ.iZipA K ta) G tb D (S x0 y0) H := by
  unfold tFor RZ.iZipA
  refine hta _ fun c hc => ?_
  rw [cut_one]
  have n1 := Same.new (o := .lst (xs.drop 1)) hc
  refine ⟨L, c, xs, xs.drop 1, rfl, .inl ⟨SqL.of (n1 _ _ hL), SqL.of upd_same, for_zipJ (K := K) (a := L) (b := c) (xs := xs) (ys := xs.drop 1) (by simp) (fun i σ' H' => ∃ x y, σ' = S x y ∧ Same H H' ∧ H' c = some (.lst (xs.drop 1))) ⟨_, _, rfl, n1, upd_same⟩ (fun i σ' H' ⟨_, _, _, z, z2⟩ => ⟨SqL.of (z _ _ hL), SqL.of z2⟩) ?_ fun σ' H' ⟨x, y, e, s, _⟩ => by rw [e]; exact hd x y H' s⟩⟩
  rintro i u v T σ' H' hu hv ⟨x, y, rfl, s, hc'⟩ hT
  have n2 := Same.new (o := .tup [u, v]) hT
  rw [List.getElem?_drop, Nat.add_comm] at hv
  have hil := (List.getElem?_eq_some_iff.mp hv).1
  rw [hS.1] at hil
  have ha : l[i]? = some l[i] := List.getElem?_eq_getElem (by omega)
  have hb' : l[i + 1]? = some l[i + 1] := List.getElem?_eq_getElem hil
  have s2 := s.trans n2
  exact hG x y T u v _ _ upd_same (hb _ i u v _ _ _ s2 ha hb' ((hS.2 i u _ hu ha).same s2) ((hS.2 (i + 1) v _ hv hb').same s2) rfl fun H'' s3 => ⟨_, _, rfl, s2.trans s3, s3 _ _ (n2 _ _ hc')⟩)
end
end Tw
/-! Tw: beats of lumps of one length, all modes -/
namespace Tw
open PySem PySem.Spec PyProof.Rows L2 He TwM StX
open PySem.W (Frag)
local macro_rules | `(tactic| walk_at "rsj") => `(tactic| simp only [*, at3_0, at3_1, at3_2, at2_0, at2_1, updS, upd_two, gSub, rSetL, updN, and_assoc, not_true_eq_false, not_false_eq_true, tNever, List.length_map, tFld, rIxTH, rIxLH, rLenTH, rLenLH, lk1, lfs_g, lfs_s, lfs_p, HO.ins.injEq, HO.tup.injEq, HO.lst.injEq, sp_Book_rounding, sp_Book_action, sp_Book_order, sp_Book_due, sp_Book_zero, sp_Book_beyond, Int.toNat_natCast, sp_visit_after, sp_is_visited, sp_Level_grain, sp_Level_slots, sp_Level_span, sp_Wheel_reach, sp_Wheel___len__, sp_is_integer, sp_is_count, sp_is_within, sp_rounded, tSeq, tAsg, gName, tVar, tC, tOp, rI, rI0, rU, tUn, oAdd, oSub, oMul, oDiv, oMod, oNeg, oLt, oLe, oGt, oGe, oIsN, oNotN, tFn, tCons, tNil, tIfS, tIf, tTest, tB, tNot, tAnd, tOr, tAndV, tOrV, tNotV,
    tRet, tRetN, tNext, tCB, tDrop, tChain, rEq, rNe, oMax2, oMin2, oInt1, rLenF, L2.start, List.map_cons, List.map_nil, List.length_cons, List.length_nil, List.replicate_succ, List.replicate_zero, List.cons_append, List.nil_append, Nat.reduceAdd, Nat.reduceSub, Nat.zero_add,
    List.set_cons_zero, List.set_cons_succ, List.getElem?_cons_zero, List.getElem?_cons_succ, Option.some.injEq, V.int.injEq, V.ref.injEq, V.str.injEq, V.bl.injEq, exists_eq_left', exists_eq_left, exists_and_left, List.cons.injEq, and_true, true_and, decide_eq_true_eq, sc_ii, sc_ss, sc_bb, sc_ni, sc_in, sc_nn, sc_is, reduceCtorEq,
    Bool.not_eq_true', decide_eq_false_iff_not, if_true, if_false, Bool.false_eq_true, exists_eq', exists_const, false_and, and_false, or_false, false_or, exists_false, Bool.not_not, Bool.not_true, Bool.not_false, sUp_up, sFire_fire, sHigh_high, sPut_put, sZone_now, sBey_refuse, sBey_cut, tTup, tLst, sz0, sz1, sz2, sz3, sz4, sz5, sz6])
section
variable {K : Frag} {w : World}
def endOf (start len t : Int) : Int := start - (start - t) / len * len
theorem endOf_is {s len t : Int} (hl : 1 ≤ len) : t ≤ endOf s len t ∧ endOf s len t < t + len ∧ endOf s len t = s + (-((s - t) / len)) * len := by
  unfold endOf
  have h1 := Int.ediv_mul_le (s - t) (b := len) (by omega)
  have h2 := Int.lt_ediv_add_one_mul_self (s - t) (b := len) (by omega)
  rw [Int.add_mul, Int.one_mul] at h2
  rw [Int.neg_mul]
  omega
def nxL (mode : Str) (start len : Int) : Lv → Int → Int → Option Int → Prop := fun l pt tick o =>
  if mode = "last" then ∃ k, FH tick len (pt * l.g) (l.g * l.s) k ∧ o = k.map fun k => tick + k * len else o = some (endOf start len (va l pt tick))
def bfL (mode : Str) (len t : Int) : Int := if mode = "last" then t - 1 else t - len
theorem nx_step {W : List Lv} (ok : WOk W) {i : Nat} (hi : i < W.length) {mode : Str} {now len pt tick j t : Int} (hl : 1 ≤ len) (hj : now + j * len = tick) (h : nxL mode now len (lv W i) pt tick (some t)) :
    ∃ j', t = now + j' * len ∧ j < j' ∧ j' ≤ j + 100001 ∧ isVis (lv W i) pt (bfL mode len t) t = true := by
  have hall := ok.all _ hi
  have hgs : (lv W i).g * (lv W i).s ≤ 1000 * 100 := Int.mul_le_mul (by omega) (by omega) (by omega) (by omega)
  have hgs0 : 1 * 2 ≤ (lv W i).g * (lv W i).s := Int.mul_le_mul (by omega) (by omega) (by omega) (by omega)
  unfold nxL at h
  unfold bfL
  by_cases hm : mode = "last"
  · rw [if_pos hm] at h ⊢
    obtain ⟨k, hk, e⟩ := h
    cases k with
    | none => cases e
    | some k =>
      obtain rfl : t = tick + k * len := Option.some.inj e
      obtain ⟨g, hg, k1, k2, k3⟩ := hk
      have k4 : (lv W i).g * (lv W i).s / g ≤ (lv W i).g * (lv W i).s := Int.ediv_le_self _ (by omega)
      refine ⟨j + k, by rw [← hj, Int.add_mul]; omega, by omega, by omega, ?_⟩
      exact isVis_in (by omega) (by omega) k3 (by omega) (Int.le_refl _)
  · rw [if_neg hm] at h ⊢
    obtain rfl := Option.some.inj h
    have hv := va_step ok hi pt tick
    obtain ⟨e1, e2, e3⟩ := endOf_is (s := now) (t := va (lv W i) pt tick) hl
    refine ⟨_, e3, ?_, ?_, isVis_in (by omega) (by omega) (va_dvd (by omega) pt tick) (by omega) e1⟩
    · generalize -((now - va (lv W i) pt tick) / len) = j' at e3 ⊢
      have : j * len < j' * len := by omega
      exact Int.lt_of_mul_lt_mul_right this (by omega)
    · generalize -((now - va (lv W i) pt tick) / len) = j' at e3 ⊢
      have h1 : 100000 * 1 ≤ 100000 * len := Int.mul_le_mul_of_nonneg_left hl (by omega)
      have h2 : j' * len < (j + 100001) * len := by rw [Int.add_mul]; omega
      have := Int.lt_of_mul_lt_mul_right h2 (by omega)
      omega
theorem beat_vis {W : List Lv} {B : Bk} (ok : WOk W) {sp : Spot} (hl : sp.lv < W.length) {bf t : Int} (hv : isVis (lv W sp.lv) sp.pt bf t = true) : ∃ o, (visited W B sp bf t).getLast? = some o := by
  cases e : (visited W B sp bf t).getLast? with
  | some o => exact ⟨o, rfl⟩
  | none => exact absurd (List.getLast?_eq_none_iff.mp e) (visGo_ne _ (mem_order.mpr hl) hv)
def sp_beat_tick (K : Frag) : Sp := fun vs H Q _ => ∃ (a b : Addr) (now delay len : Int) (mode : Str), vs = [.ref a, .ref b, .int now, .int delay, .int len, .str mode] ∧ ∃ W B, WhAt K H a W ∧ BkAt K H b B ∧ 0 ≤ now ∧ 0 ≤ delay ∧ delay < reach W ∧ reach W ≤ 1073741824 ∧ 1 ≤ len ∧ len < 2 ^ 200 ∧
  (mode = "each" ∨ mode = "last" ∨ mode = "slots") ∧ (placeM W B now delay = none → ∀ H', Same H H' → Q (.int now) H') ∧
  ∀ sp, placeM W B now delay = some sp → (mode = "each" → ∀ H', Same H H' → Q (.int (endOf now len (fin W B now delay).1)) H') ∧ (mode ≠ "each" → ∀ o H', Same H H' → Beats W B (nxL mode now len) (bfL mode len) sp now o → Q (optV o) H')
def btInv (a b : Addr) (now delay len : Int) (mode : Str) (W : List Lv) (B : Bk) (H : Hp) (Q : VK) (m : Nat) (σ : L2.St) (H' : Hp) : Prop :=
  (∃ (p : Addr) (sp : Spot) (tick j : Int) (v8 : Option V), m = mu sp tick + 1 ∧ σ = [some (.ref a), some (.ref b), some (.int now), some (.int delay), some (.int len), some (.str mode), some (.ref p), some (.int tick), v8] ∧ Same H H' ∧ SpAt H' p sp ∧ sp.lv < W.length ∧ now + j * len = tick ∧ 0 ≤ j ∧
    j + 100001 * (mu sp tick : Int) ≤ 1000000000000000 ∧ ∀ o H'', Same H H'' → Beats W B (nxL mode now len) (bfL mode len) sp tick o → Q (optV o) H'') ∨
  (∃ (t : Int) (v8 : Option V), m = 0 ∧ σ = [some (.ref a), some (.ref b), some (.int now), some (.int delay), some (.int len), some (.str mode), some .non, some (.int t), v8] ∧ Same H H' ∧ ∀ H'', Same H H'' → Q (.int t) H'')
theorem bt_tail {a b p : Addr} {now delay len tick j t : Int} {mode : Str} {W : List Lv} {B : Bk} {H H4 : Hp} {Q : VK} {sp : Spot} (hW : WhAt K H a W) (hB : BkAt K H b B) (hl : 1 ≤ len) (hj : now + j * len = tick) (hj0 : 0 ≤ j) (hjm : j + 100001 * (mu sp tick : Int) ≤ 1000000000000000)
    (hx : nxL mode now len (lv W sp.lv) sp.pt tick (some t)) (s4 : Same H H4) (hp : SpAt H4 p sp) (hlv : sp.lv < W.length) (hq : ∀ o H'', Same H H'' → Beats W B (nxL mode now len) (bfL mode len) sp tick o → Q (optV o) H'') :
    sp_visited K [.ref a, .ref b, .ref p, .int (bfL mode len t), .int t] H4 (fun x H5 => ∃ f, x = .ref f ∧ ∃ xs, H5 f = some (.lst xs) ∧ ∃ v, atI xs (-1) = some v ∧
      (∃ m', m' < mu sp tick + 1 ∧ btInv a b now delay len mode W B H Q m' [some (.ref a), some (.ref b), some (.int now), some (.int delay), some (.int len), some (.str mode), some v, some (.int t), some (.int (bfL mode len t))] H5)) E0 := by
  have ok := hW.ok
  obtain ⟨j', e, j1, j2, hv⟩ := nx_step ok hlv hl hj hx
  refine ⟨a, b, p, _, _, rfl, W, B, sp, hW.same s4, hB.same s4, hp, fun f xs H5 s5 hfn hf hos => ⟨f, rfl, xs, hf, ?_⟩⟩
  obtain ⟨o, ho⟩ := beat_vis (B := B) ok hlv hv
  obtain ⟨v, hv1, hov⟩ := hos.last ho
  refine ⟨v, atI_m1 hv1, ?_⟩
  have ht : tick < t := by
    have : j * len < j' * len := Int.mul_lt_mul_of_pos_right j1 (by omega)
    omega
  have hmu : 1 ≤ mu sp tick := by unfold mu; split <;> omega
  cases o with
  | none =>
    obtain rfl : v = .non := hov
    exact ⟨0, by omega, .inr ⟨t, _, rfl, rfl, s4.trans s5, fun H'' s'' => hq (some t) H'' s'' (.fired hx ho)⟩⟩
  | some sp' =>
    obtain ⟨p', rfl, hp'⟩ := hov
    obtain ⟨m1, m2, m3⟩ := mu_step ok ht ho
    refine ⟨mu sp' t + 1, by omega, .inl ⟨p', sp', t, j', _, rfl, rfl, s4.trans s5, hp', m2, e.symm, by omega, by omega, fun o H'' s'' hb => hq o H'' s'' (.on hx ho hb)⟩⟩
theorem fin_bound {W : List Lv} {B : Bk} (ok : WOk W) {now delay : Int} {sp : Spot} (hp : placeM W B now delay = some sp) (hd : 0 ≤ delay) (hr : delay < reach W) : now < (fin W B now delay).1 ∧ (fin W B now delay).1 ≤ now + 100000 * (reach W + 2) ∧ Walks W B sp now (fin W B now delay).1 := by
  have hlt := placeM_lt ok hp
  have hre : 2 ≤ reach W := (ok.all (W.length - 1) (by have := ok.pos; omega)).2.2.2.2
  obtain ⟨r, hr'⟩ := fol_ends ok B none (mu sp now) sp now 0 hlt (Nat.le_refl _)
  have hd' : now + 1 ≤ sp.due ∧ sp.due ≤ now + reach W := by
    unfold placeM at hp
    split at hp
    · cases hp
    · obtain rfl := Option.some.inj hp
      rw [spotAt_due]
      repeat' split
      all_goals omega
  have hw := fol_walks ok _ hr' (by omega) hlt
  rw [fin_some hp ok hlt hr']
  have hb := hw.bound ok hlt
  have hm : mu sp now ≤ 2 + (sp.due - now).toNat := by unfold mu; split <;> omega
  exact ⟨hb.1, by omega, hw⟩
def t_beat_tick (K : Frag) (w : World) : TS :=
  (tSeq (tAsg (tFn (sp_place K) E0 (tCons (tVar 0) (tCons (tVar 1) (tCons (tVar 2) (tCons (tVar 3) tNil))))) (gName 6))
  (tSeq (tIfS (tTest (tOp oIsN (tMethR (ga K "Wheel") "level_of" (sp_Wheel_level_of K) E0 (tVar 0) (tCons (tVar 3) tNil)) (tC .non))) tNever tNext)
  (tSeq (tIfS (tNot (tB (tFn (sp_is_positive K) E0 (tCons (tVar 4) tNil)))) tNever tNext)
  (tSeq (tIfS (tOr (tNot (tB (tCB (rIsi K) (tCons (tVar 5) (tCons (tC (.ty "str")) tNil))))) (tTest (tOp (rIn K true) (tVar 5) (tC (.ref (ga K "MODES")))))) tNever tNext)
  (tSeq (tIfS (tTest (tOp oIsN (tVar 6) (tC .non))) (tRet (tVar 2)) tNext)
  (tSeq (tIfS (tTest (tOp rEq (tVar 5) (tC (.str "each")))) (tRet (tFn (sp_end_of K) E0 (tCons (tVar 2) (tCons (tVar 4) (tCons (tFn (sp_fire_tick K) E0 (tCons (tVar 0) (tCons (tVar 1) (tCons (tVar 2) (tCons (tVar 3) tNil))))) tNil))))) tNext)
  (tSeq (tAsg (tVar 2) (gName 7))
  (tSeq (tWhile (tTest (tOp oNotN (tVar 6) (tC .non)))
    (tSeq (tAsg (tFn (sp_next_end K) E0 (tCons (tFn (sp_Wheel___getitem__ K) E0 (tCons (tVar 0) (tCons (tOp rIxTH (tVar 6) (tC (.int 0))) tNil))) (tCons (tOp rIxTH (tVar 6) (tC (.int 1))) (tCons (tVar 7) (tCons (tVar 2) (tCons (tVar 4) (tCons (tVar 5) tNil))))))) (gName 7))
  (tSeq (tIfS (tTest (tOp oIsN (tVar 7) (tC .non))) (tRet (tC .non)) tNext)
  (tSeq (tAsg (tIf (tTest (tOp rEq (tVar 5) (tC (.str "last")))) (tOp oSub (tVar 7) (tC (.int 1))) (tOp oSub (tVar 7) (tVar 4))) (gName 8))
  (tAsg (tOp rIxLH (tFn (sp_visited K) E0 (tCons (tVar 0) (tCons (tVar 1) (tCons (tVar 6) (tCons (tVar 8) (tCons (tVar 7) tNil)))))) (tUn oNeg (tC (.int 1)))) (gName 6))))))
  (tRet (tVar 7))))))))))
def n_beat_tick : List Str := ["wheel", "book", "start", "delay", "length", "mode", "spot", "tick", "before"]
theorem rd_beat_tick (T : Kg K) (vs : List V) (H : Hp) (Q : VK) (E : XK) (h : sp_beat_tick K vs H Q E) : t_beat_tick K w { nx := fun _ H' => Q .non H', rt := Q } (L2.start n_beat_tick vs) H := by
  obtain ⟨a, b, now, delay, len, mode, rfl, W, B, hW, hB, hn, hd, hr, hr2, hl, hl2, hm, qn, qs⟩ := h
  have hpos := hW.ok.pos
  have hk := levelIx_lt hW.ok delay
  have hlo : ∃ i, levelOf W delay = some i := by
    cases e : levelOf W delay with
    | some i => exact ⟨i, rfl⟩
    | none => have := levelOf_none e (W.length - 1) (by omega); unfold reach at hr; omega
  obtain ⟨i, hi⟩ := hlo
  have hin : (if true = true then !inV (.str mode) [.str "each", .str "last", .str "slots"] else inV (.str mode) [.str "each", .str "last", .str "slots"]) = false := by
    rcases hm with rfl | rfl | rfl <;> decide +kernel
  unfold t_beat_tick n_beat_tick
  walk_at "rsj"
  refine ⟨a, b, now, delay, rfl, W, B, hW, hB, hn, by omega, fun z => by omega, fun v H1 s1 ho => ?_⟩
  have hW1 := hW.same s1
  obtain ⟨ok1, dx, t, as, h1, h2, h3, h4⟩ := id hW1
  refine ⟨_, rfl, a, dx, _, rfl, h1, rfl, _, rfl, a, delay, rfl, W, hW1, by omega, fun H2 s2 => ?_⟩
  rw [hi]
  dsimp only
  rw [if_neg (by unfold optI; intro z; cases z)]
  refine ⟨len, rfl, _, rfl, ?_⟩
  rw [if_neg (by rw [decide_eq_true hl]; exact Bool.noConfusion)]
  refine isi_base (.base (.str mode)) (b := true) (by decide +kernel) ⟨_, rfl, ?_⟩
  rw [if_neg Bool.noConfusion]
  refine ⟨_, _, rfl, .inr (T.md _), rfl, by decide +kernel, _, rfl, ?_⟩
  rw [hin, if_neg Bool.false_ne_true]
  have s12 := s1.trans s2
  cases hp : placeM W B now delay with
  | none =>
    rw [hp] at ho
    obtain rfl : v = .non := ho
    rw [if_pos rfl]
    exact qn hp _ s12
  | some sp =>
    rw [hp] at ho
    obtain ⟨p, rfl, hsp⟩ := ho
    have hlv := placeM_lt hW.ok hp
    obtain ⟨f1, f2, f3⟩ := fin_bound hW.ok hp hd hr
    obtain ⟨q1, q2⟩ := qs sp hp
    rw [if_neg (by intro z; cases z)]
    by_cases he : mode = "each"
    · rw [if_pos he]
      refine ⟨a, b, now, delay, rfl, W, B, hW.same s12, hB.same s12, hn, hd, fun z => by omega, fun H3 s3 => ⟨now, len, _, rfl, ?_, ?_, q1 he H3 (s12.trans s3)⟩⟩
      · exact ⟨by omega, Nat.lt_of_lt_of_le (PySem.Flt.log2_lt_of (k := 200) (by decide) (by omega)) (by decide)⟩
      · have g1 := Int.ediv_le_self (b := len) (a := (fin W B now delay).1 - now) (by omega)
        obtain ⟨e1, e2, e3⟩ := endOf_is (s := now) (t := (fin W B now delay).1) hl
        generalize (fin W B now delay).1 = T at *
        refine .inl ⟨?_, ?_⟩
        · have g2 : (now - T) * len ≤ (now - T) * 1 := Int.mul_le_mul_of_nonpos_left (by omega) hl
          have g3 : now - T ≤ (now - T) / len := Int.le_ediv_of_mul_le (by omega) (by omega)
          omega
        · have : (now - T) / len < 1 := Int.ediv_lt_of_lt_mul (by omega) (by omega)
          omega
    · rw [if_neg he]
      have hq := q2 he
      have hmu : mu sp now ≤ 2 + (reach W).toNat := by
        have hd' : sp.due ≤ now + reach W := by
          unfold placeM at hp
          have hre : 2 ≤ reach W := (hW.ok.all (W.length - 1) (by have := hW.ok.pos; omega)).2.2.2.2
          split at hp
          · cases hp
          · obtain rfl := Option.some.inj hp
            rw [spotAt_due]
            repeat' split
            all_goals omega
        unfold mu; split <;> omega
      refine ⟨btInv a b now delay len mode W B H Q, ⟨_, .inl ⟨p, sp, now, 0, none, rfl, rfl, s12, hsp.same s2, hlv, by omega, Int.le_refl _, by omega, hq⟩⟩, ?_⟩
      rintro m σ H3 (⟨p, sp, tick, j, v8, rfl, rfl, s3, hp3, hlv, hj, hj0, hjm, hq⟩ | ⟨t, v8, rfl, rfl, s3, hq⟩)
      · have hp4 := hp3
        unfold SpAt at hp4
        walk_at "rsj"
        have hW3 := hW.same s3
        refine ⟨fun σ' H' => ∃ m', m' < mu sp tick + 1 ∧ btInv a b now delay len mode W B H Q m' σ' H', fun σ' H' z => z, a, sp.lv, rfl, W, hW3, by omega, by omega, fun c hc => ?_⟩
        have hc' : LvAt K H3 c (lv W sp.lv) := hc
        refine ⟨_, hp4, _, rfl, c, sp.pt, tick, now, len, _, rfl, _, hc', ?_⟩
        by_cases hla : mode = "last"
        · refine .inl ⟨hla, fun o H3' s3' ho => ?_⟩
          have hnx : nxL mode now len (lv W sp.lv) sp.pt tick (o.map fun k => tick + k * len) := by unfold nxL; rw [if_pos hla]; exact ⟨o, ho, rfl⟩
          cases o with
          | none =>
            dsimp only
            rw [if_pos (show optV (Option.map (fun k => tick + k * len) none) = V.non from rfl)]
            exact hq none H3' (s3.trans s3') (.lost hnx)
          | some k =>
            dsimp only
            rw [if_neg (by intro z; cases z)]
            have tl := bt_tail (delay := delay) hW hB hl hj hj0 hjm hnx (s3.trans s3') (hp3.same s3') hlv hq
            unfold bfL at tl
            rw [if_pos hla] at tl ⊢
            exact ⟨_, rfl, tl⟩
        · obtain rfl : mode = "slots" := by
            rcases hm with z | z | z
            · exact absurd z he
            · exact absurd z hla
            · exact z
          have hnx : nxL "slots" now len (lv W sp.lv) sp.pt tick (some (endOf now len (va (lv W sp.lv) sp.pt tick))) := by unfold nxL; rw [if_neg hla]
          have hv := va_step hW.ok hlv sp.pt tick
          refine .inr ⟨hla, ?_, ?_, ?_⟩
          · exact ⟨by omega, Nat.lt_of_lt_of_le (PySem.Flt.log2_lt_of (k := 200) (by decide) (by omega)) (by decide)⟩
          · obtain ⟨j', e, j1, j2, _⟩ := nx_step hW.ok hlv hl hj hnx
            have e3 := (endOf_is (s := now) (t := va (lv W sp.lv) sp.pt tick) hl).2.2
            rw [e3] at e
            have e4 : -((now - va (lv W sp.lv) sp.pt tick) / len) * len = j' * len := by omega
            have e5 := Int.eq_of_mul_eq_mul_right (by omega) e4
            exact .inl ⟨by omega, by omega⟩
          · have tl := bt_tail (delay := delay) hW hB hl hj hj0 hjm hnx s3 hp3 hlv hq
            unfold bfL at tl
            rw [if_neg hla] at tl
            dsimp only
            rw [if_neg (by intro z; cases z), if_neg hla]
            exact ⟨_, rfl, tl⟩
      · walk_at "rsj"
end
end Tw
/-! Tw: draws of starts, delays, lengths -/
namespace Tw
open PySem PySem.Spec PyProof.Rows L2 He TwM StX
open PySem.W (Frag)
local macro_rules | `(tactic| walk_at "rsk") => `(tactic| simp only [*, at3_0, at3_1, at3_2, at2_0, at2_1, updS, upd_two, gSub, rSetL, updN, rCat, tPar, tPar3, and_assoc, not_true_eq_false, not_false_eq_true, tNever, List.length_map, tFld, rIxTH, rIxLH, rLenTH, rLenLH, lk1, lfs_g, lfs_s, lfs_p, HO.ins.injEq, HO.tup.injEq, HO.lst.injEq, sp_Book_rounding, sp_Book_action, sp_Book_order, sp_Book_due, sp_Book_zero, sp_Book_beyond, Int.toNat_natCast, sp_visit_after, sp_is_visited, sp_Level_grain, sp_Level_slots, sp_Level_span, sp_Wheel_reach, sp_Wheel___len__, sp_is_integer, sp_is_count, sp_is_within, sp_rounded, tSeq, tAsg, gName, tVar, tC, tOp, rI, rI0, rU, tUn, oAdd, oSub, oMul, oDiv, oMod, oNeg, oLt, oLe, oGt, oGe, oIsN, oNotN, tFn, tCons, tNil, tIfS, tIf, tTest, tB, tNot, tAnd, tOr, tAndV, tOrV, tNotV,
    tRet, tRetN, tNext, tCB, tDrop, tChain, rEq, rNe, oMax2, oMin2, oInt1, rLenF, L2.start, List.map_cons, List.map_nil, List.length_cons, List.length_nil, List.replicate_succ, List.replicate_zero, List.cons_append, List.nil_append, Nat.reduceAdd, Nat.reduceSub, Nat.zero_add,
    List.set_cons_zero, List.set_cons_succ, List.getElem?_cons_zero, List.getElem?_cons_succ, Option.some.injEq, V.int.injEq, V.ref.injEq, V.str.injEq, V.bl.injEq, exists_eq_left', exists_eq_left, exists_and_left, List.cons.injEq, and_true, true_and, decide_eq_true_eq, sc_ii, sc_ss, sc_bb, sc_ni, sc_in, sc_nn, sc_is, reduceCtorEq,
    Bool.not_eq_true', decide_eq_false_iff_not, if_true, if_false, Bool.false_eq_true, exists_eq', exists_const, false_and, and_false, or_false, false_or, exists_false, Bool.not_not, Bool.not_true, Bool.not_false, sUp_up, sFire_fire, sHigh_high, sPut_put, sZone_now, sBey_refuse, sBey_cut, tTup, tLst, sz0, sz1, sz2, sz3, sz4, sz5, sz6])
local macro_rules | `(tactic| walk_at "rsl") => `(tactic| simp only [*, at3_0, at3_1, at3_2, at2_0, at2_1, updS, upd_two, gSub, rSetL, updN, tPar, tPar3, and_assoc, not_true_eq_false, not_false_eq_true, tNever, List.length_map, tFld, rIxTH, rIxLH, rLenTH, rLenLH, lk1, lfs_g, lfs_s, lfs_p, HO.ins.injEq, HO.tup.injEq, HO.lst.injEq, sp_Book_rounding, sp_Book_action, sp_Book_order, sp_Book_due, sp_Book_zero, sp_Book_beyond, Int.toNat_natCast, sp_visit_after, sp_is_visited, sp_Level_grain, sp_Level_slots, sp_Level_span, sp_Wheel_reach, sp_Wheel___len__, sp_is_integer, sp_is_count, sp_is_within, sp_rounded, tAsg, gName, tVar, tC, tOp, rI, rI0, rU, tUn, oAdd, oSub, oMul, oDiv, oMod, oNeg, oLt, oLe, oGt, oGe, oIsN, oNotN, tFn, tCons, tNil, tIfS, tIf, tTest, tB, tNot, tAnd, tOr, tAndV, tOrV, tNotV,
    tRet, tRetN, tNext, tCB, tDrop, tChain, rEq, rNe, oMax2, oMin2, oInt1, rLenF, L2.start, List.map_cons, List.map_nil, List.length_cons, List.length_nil, List.replicate_succ, List.replicate_zero, List.cons_append, List.nil_append, Nat.reduceAdd, Nat.reduceSub, Nat.zero_add,
    List.set_cons_zero, List.set_cons_succ, List.getElem?_cons_zero, List.getElem?_cons_succ, Option.some.injEq, V.int.injEq, V.ref.injEq, V.str.injEq, V.bl.injEq, exists_eq_left', exists_eq_left, exists_and_left, List.cons.injEq, and_true, true_and, decide_eq_true_eq, sc_ii, sc_ss, sc_bb, sc_ni, sc_in, sc_nn, sc_is, reduceCtorEq,
    Bool.not_eq_true', decide_eq_false_iff_not, if_true, if_false, Bool.false_eq_true, exists_eq', exists_const, false_and, and_false, or_false, false_or, exists_false, Bool.not_not, Bool.not_true, Bool.not_false, sUp_up, sFire_fire, sHigh_high, sPut_put, sZone_now, sBey_refuse, sBey_cut, tTup, tLst, sz0, sz1, sz2, sz3, sz4, sz5, sz6])
local macro_rules | `(tactic| walk_at "st") => `(tactic| ((try dsimp only); rw [seq1]; walk_at "rsl"))
section
variable {K : Frag} {w : World}
theorem RowsAt.ends {H : Hp} {r : Addr} {W : List Lv} (h : RowsAt H r W) (hp : 0 < W.length) : ∃ xs t0 tl, H r = some (.lst xs) ∧ atI xs 0 = some (.ref t0) ∧ atI xs (-1) = some (.ref tl) ∧
    H t0 = some (.tup [.int (lv W 0).g, .int (lv W 0).s, .int (lv W 0).p]) ∧ H tl = some (.tup [.int (lv W (W.length - 1)).g, .int (lv W (W.length - 1)).s, .int (lv W (W.length - 1)).p]) := by
  obtain ⟨ts, ha, hb, hc⟩ := h
  obtain ⟨t0, ht0⟩ : ∃ t, ts[0]? = some t := ⟨ts[0]'(by omega), List.getElem?_eq_getElem (by omega)⟩
  obtain ⟨tl, htl⟩ : ∃ t, ts[W.length - 1]? = some t := ⟨ts[W.length - 1]'(by omega), List.getElem?_eq_getElem (by omega)⟩
  exact ⟨_, t0, tl, ha, atI_nat (j := 0) (by rw [List.getElem?_map, ht0]; rfl), atI_m1 (by rw [List.getLast?_eq_getElem?, List.length_map, hb, List.getElem?_map, htl]; rfl), hc _ _ ht0, hc _ _ htl⟩
theorem drawOf {H : Hp} {p l : Addr} {n : Int} {xs : List Int} {Q : VK} {r : Addr} (hp : PoolAt H p l) (hr : H r = some (.lst (xs.map V.int))) (hn : 0 < n) (hl : n.natAbs.log2 < 1920) (hx : n = xs.length) (h1 : r ≠ p) (h2 : r ≠ l)
    (q : ∀ v H', SameP p l H H' → PoolAt H' p l → v ∈ xs → Q (.int v) H') :
    sp__law_draw K [.ref p, .int n] H (fun y H2 => ∃ x x_3, y = .int x_3 ∧ H2 r = some (.lst x) ∧ ∃ x_4, atI x x_3 = some x_4 ∧ Q x_4 H2) E0 := by
  refine draw hp hn hl fun i H1 s1 hp1 a b => ?_
  obtain ⟨v, hv, e⟩ := atInts (xs := xs) a (by omega)
  exact ⟨_, i, rfl, s1 _ _ h1 h2 hr, _, e, q v H1 s1 hp1 hv⟩
def sp__law_is (K : Frag) : Sp := fun vs H Q _ => ∃ (o o' : Option Int), vs = [optV o, optV o'] ∧ o = o' ∧ Q (.bl true) H
def t__law_is (K : Frag) (w : World) : TS :=
  (tSeq (tIfS (tTest (tOp oIsN (tVar 1) (tC .non))) (tRet (tOp oIsN (tVar 0) (tC .non))) tNext)
  (tRet (tAndV (tFn (sp__law_whole K) E0 (tCons (tVar 0) tNil)) (tOp rEq (tVar 0) (tVar 1)))))
def n__law_is : List Str := ["_law_found", "_law_due"]
theorem rd__law_is (vs : List V) (H : Hp) (Q : VK) (E : XK) (h : sp__law_is K vs H Q E) : t__law_is K w { nx := fun _ H' => Q .non H', rt := Q } (L2.start n__law_is vs) H := by
  obtain ⟨o, o', rfl, rfl, q⟩ := h
  unfold t__law_is n__law_is
  cases o with
  | none =>
    unfold optV
    walk_at "rsk"
    simpa using q
  | some i =>
    unfold optV
    walk_at "rsk"
    exact ⟨i, rfl, true, rfl, q⟩
def sp__law_start (K : Frag) : Sp := fun vs H Q _ => ∃ (p l : Addr), vs = [.ref p] ∧ PoolAt H p l ∧ ∀ (v : Int) (H' : Hp), SameP p l H H' → PoolAt H' p l → 0 ≤ v → v < 2 ^ 200 → Q (.int v) H'
def t__law_start (K : Frag) (w : World) : TS :=
  (tSeq (tAsg (tLst (tCons (tFn (sp__law_draw K) E0 (tCons (tVar 0) (tCons (tC (.int 40)) tNil))) (tCons (tOp oAdd (tOp oPow (tC (.int 10)) (tC (.int 29))) (tFn (sp__law_draw K) E0 (tCons (tVar 0) (tCons (tOp oPow (tC (.int 10)) (tC (.int 30))) tNil)))) tNil))) (gName 1))
  (tRet (tIf (tTest (tOp oGt (tFn (sp__law_draw K) E0 (tCons (tVar 0) (tCons (tC (.int 3)) tNil))) (tC (.int 0)))) (tOp rIxLH (tVar 1) (tC (.int 0))) (tOp rIxLH (tVar 1) (tC (.int 1))))))
def n__law_start : List Str := ["_law_pool", "_law_some"]
theorem rd__law_start (vs : List V) (H : Hp) (Q : VK) (E : XK) (h : sp__law_start K vs H Q E) : t__law_start K w { nx := fun _ H' => Q .non H', rt := Q } (L2.start n__law_start vs) H := by
  obtain ⟨p, l, rfl, hp, q⟩ := h
  have c29 : CPow 10 29 := ⟨by decide, by decide, by decide⟩
  have c30 : CPow 10 30 := ⟨by decide, by decide, by decide⟩
  unfold t__law_start n__law_start
  walk_at "rsk"
  refine draw hp (by decide) (by decide +kernel) fun x H1 s1 hp1 a1 b1 => draw hp1 (by decide) (by decide +kernel) fun y H2 s2 hp2 a2 b2 => ⟨y, rfl, fun r hr => ?_⟩
  have ap := hp2.apart hr
  have s3 := Same.new (o := .lst [.int x, .int (10 ^ Int.toNat 29 + y)]) hr
  refine draw (hp2.same s3) (by decide) (by decide +kernel) fun z H3 s4 hp3 a3 b3 => ⟨z, rfl, ?_⟩
  have h3 := s4 r _ ap.1 ap.2 (updS _ _ _)
  have e29 : (0 : Int) ≤ 10 ^ Int.toNat 29 := by decide
  have e200 : (10 : Int) ^ Int.toNat 29 + 10 ^ Int.toNat 30 < 2 ^ 200 := by decide +kernel
  have e40 : (40 : Int) < 2 ^ 200 := by decide +kernel
  generalize (10 : Int) ^ Int.toNat 29 = t29 at *
  generalize (10 : Int) ^ Int.toNat 30 = t30 at *
  generalize (2 : Int) ^ 200 = u at *
  refine ite2 (fun _ => ⟨_, h3, _, rfl, q x H3 (((s1.trans s2).step s3).trans s4) hp3 a1 (by omega)⟩) fun _ => ⟨_, h3, _, rfl, q _ H3 (((s1.trans s2).step s3).trans s4) hp3 (by omega) (by omega)⟩
def sp__law_length (K : Frag) : Sp := fun vs H Q _ => ∃ (p l : Addr), vs = [.ref p] ∧ PoolAt H p l ∧ ∀ (v : Int) (H' : Hp), SameP p l H H' → PoolAt H' p l → 1 ≤ v → v < 2 ^ 200 → Q (.int v) H'
def t__law_length (K : Frag) (w : World) : TS :=
  (tSeq (tAsg (tLst (tCons (tOp oAdd (tC (.int 1)) (tFn (sp__law_draw K) E0 (tCons (tVar 0) (tCons (tC (.int 12)) tNil)))) (tCons (tOp oAdd (tC (.int 1)) (tFn (sp__law_draw K) E0 (tCons (tVar 0) (tCons (tC (.int 60)) tNil)))) (tCons (tOp oAdd (tC (.int 1)) (tFn (sp__law_draw K) E0 (tCons (tVar 0) (tCons (tOp oPow (tC (.int 10)) (tC (.int 30))) tNil)))) (tCons (tC (.int 1)) tNil))))) (gName 1))
  (tRet (tOp rIxLH (tVar 1) (tFn (sp__law_draw K) E0 (tCons (tVar 0) (tCons (tC (.int 4)) tNil))))))
def n__law_length : List Str := ["_law_pool", "_law_some"]
theorem rd__law_length (vs : List V) (H : Hp) (Q : VK) (E : XK) (h : sp__law_length K vs H Q E) : t__law_length K w { nx := fun _ H' => Q .non H', rt := Q } (L2.start n__law_length vs) H := by
  obtain ⟨p, l, rfl, hp, q⟩ := h
  have c30 : CPow 10 30 := ⟨by decide, by decide, by decide⟩
  unfold t__law_length n__law_length
  walk_at "rsk"
  refine draw hp (by decide) (by decide +kernel) fun x H1 s1 hp1 a1 b1 => ⟨x, rfl, draw hp1 (by decide) (by decide +kernel) fun y H2 s2 hp2 a2 b2 => ⟨y, rfl, draw hp2 (by decide) (by decide +kernel) fun z H3 s3 hp3 a3 b3 => ⟨z, rfl, fun r hr => ?_⟩⟩⟩
  have ap := hp3.apart hr
  have e30 : (10 : Int) ^ Int.toNat 30 < 2 ^ 200 - 1 := by decide +kernel
  have e200 : (1000 : Int) < 2 ^ 200 := by decide +kernel
  refine drawOf (xs := [1 + x, 1 + y, 1 + z, 1]) (hp3.new hr) (updS _ _ _) (by decide) (by decide +kernel) rfl ap.1 ap.2 fun v H4 s4 hp4 hv => ?_
  have sa := (((s1.trans s2).trans s3).step (Same.new hr)).trans s4
  simp only [List.mem_cons, List.not_mem_nil, or_false] at hv
  generalize (10 : Int) ^ Int.toNat 30 = t at *
  generalize (2 : Int) ^ 200 = u at *
  exact q v H4 sa hp4 (by omega) (by omega)
def sp__law_delay (K : Frag) : Sp := fun vs H Q _ => ∃ (p l r : Addr), vs = [.ref p, .ref r] ∧ PoolAt H p l ∧ r ≠ p ∧ r ≠ l ∧ ∃ W, RowsAt H r W ∧ ROk W ∧ ∀ (v : Int) (H' : Hp), SameP p l H H' → PoolAt H' p l → 0 ≤ v → v < reach W → Q (.int v) H'
def t__law_delay (K : Frag) (w : World) : TS :=
  (tSeq (tAsg (tLst (tCons (tC (.int 0)) (tCons (tC (.int 1)) (tCons (tOp rIxTH (tOp rIxLH (tVar 1) (tC (.int 0))) (tC (.int 1))) (tCons (tOp oSub (tOp rIxTH (tOp rIxLH (tVar 1) (tC (.int 0))) (tC (.int 2))) (tC (.int 1))) (tCons (tOp oSub (tOp rIxTH (tOp rIxLH (tVar 1) (tUn oNeg (tC (.int 1)))) (tC (.int 2))) (tC (.int 1))) (tCons (tOp rIxTH (tOp rIxLH (tVar 1) (tUn oNeg (tC (.int 1)))) (tC (.int 0))) (tCons (tFn (sp__law_draw K) E0 (tCons (tVar 0) (tCons (tOp rIxTH (tOp rIxLH (tVar 1) (tUn oNeg (tC (.int 1)))) (tC (.int 2))) tNil))) tNil)))))))) (gName 2))
  (tSeq (tAsg (tOp rCat (tVar 2) (tLst (tCons (tFn (sp__law_draw K) E0 (tCons (tVar 0) (tCons (tOp rIxTH (tOp rIxLH (tVar 1) (tUn oNeg (tC (.int 1)))) (tC (.int 2))) tNil))) tNil))) (gName 2))
  (tRet (tOp oMod (tCB oInt1 (tCons (tOp rIxLH (tVar 2) (tFn (sp__law_draw K) E0 (tCons (tVar 0) (tCons (tC (.int 8)) tNil)))) tNil)) (tOp rIxTH (tOp rIxLH (tVar 1) (tUn oNeg (tC (.int 1)))) (tC (.int 2)))))))
def n__law_delay : List Str := ["_law_pool", "_law_rows", "_law_near"]
theorem rd__law_delay (vs : List V) (H : Hp) (Q : VK) (E : XK) (h : sp__law_delay K vs H Q E) : t__law_delay K w { nx := fun _ H' => Q .non H', rt := Q } (L2.start n__law_delay vs) H := by
  obtain ⟨p, l, r, rfl, hp, r1, r2, W, hR, hRk, q⟩ := h
  have hpos := hRk.ok.pos
  obtain ⟨xs, t0, tl, e1, e2, e3, e4, e5⟩ := hR.ends hpos
  have hall := hRk.ok.all (W.length - 1) (by omega)
  have hsm := hRk.small (i := W.length - 1) (by omega)
  have q : ∀ (v : Int) (H' : Hp), SameP p l H H' → PoolAt H' p l → 0 ≤ v → v < (lv W (W.length - 1)).p → Q (.int v) H' := q
  unfold t__law_delay n__law_delay
  walk_at "rsk"
  refine draw hp (by omega) (log_small (by omega) (by omega)) fun x H1 s1 hp1 a1 b1 => ⟨by decide, fun f hf => ?_⟩
  have hR1 := RowsAt.sameP hp hR s1 r1 r2
  have s2 := Same.new (o := .lst [.int 0, .int 1, .int (lv W 0).s, .int ((lv W 0).p - 1), .int ((lv W (W.length - 1)).p - 1), .int (lv W (W.length - 1)).g, .int x]) hf
  have apf := hp1.apart hf
  have hp2 := hp1.same s2
  have hR2 := hR1.same s2
  have hf2 : upd H1 f (.lst [.int 0, .int 1, .int (lv W 0).s, .int ((lv W 0).p - 1), .int ((lv W (W.length - 1)).p - 1), .int (lv W (W.length - 1)).g, .int x]) f = some (.lst [.int 0, .int 1, .int (lv W 0).s, .int ((lv W 0).p - 1), .int ((lv W (W.length - 1)).p - 1), .int (lv W (W.length - 1)).g, .int x]) := updS _ _ _
  generalize upd H1 f (.lst [.int 0, .int 1, .int (lv W 0).s, .int ((lv W 0).p - 1), .int ((lv W (W.length - 1)).p - 1), .int (lv W (W.length - 1)).g, .int x]) = H2 at *
  obtain ⟨xs1, t01, tl1, e11, e21, e31, e41, e51⟩ := hR2.ends hpos
  refine ⟨_, e11, _, e31, tl1, rfl, _, e51, _, rfl, ?_⟩
  refine draw hp2 (by omega) (log_small (by omega) (by omega)) fun y H3 s3 hp3 a3 b3 f2 hf2' => ?_
  have s4 := Same.new (o := .lst [.int y]) hf2'
  have hf3 := s4 _ _ (s3 f _ apf.1 apf.2 hf2)
  refine ⟨_, hf3, (by show 8 ≤ sizeLine; decide), fun f3 hf3' => ?_⟩
  have hp4 := hp3.same s4
  have ap4 := hp4.apart hf3'
  have hR4 := ((RowsAt.sameP hp2 hR2 s3 r1 r2).same s4).same (Same.new (o := .lst ([.int 0, .int 1, .int (lv W 0).s, .int ((lv W 0).p - 1), .int ((lv W (W.length - 1)).p - 1), .int (lv W (W.length - 1)).g, .int x] ++ [.int y])) hf3')
  refine draw (hp4.new hf3') (by decide) (by decide +kernel) fun i H5 s5 hp5 a5 b5 => ?_
  obtain ⟨v, hv, e⟩ := atInts (xs := [0, 1, (lv W 0).s, (lv W 0).p - 1, (lv W (W.length - 1)).p - 1, (lv W (W.length - 1)).g, x] ++ [y]) a5 b5
  obtain ⟨xs5, t05, tl5, e15, e25, e35, e45, e55⟩ := (RowsAt.sameP (hp4.new hf3') hR4 s5 r1 r2).ends hpos
  have h5 := s5 f3 _ ap4.1 ap4.2 (updS _ _ _)
  refine ⟨_, i, rfl, h5, _, e, .inl ⟨v, rfl, _, e15, _, e35, tl5, rfl, _, e55, _, rfl, _, rfl, by omega, ?_⟩⟩
  exact q _ H5 (((((s1.step s2).trans s3).step s4).step (Same.new hf3')).trans s5) hp5 (Int.emod_nonneg _ (by omega)) (Int.emod_lt_of_pos _ (by omega))
theorem fh_one {tick m goal : Int} {o : Option Int} (h : FH tick 1 goal m o) : ∃ k, o = some k ∧ 1 ≤ k ∧ k ≤ m ∧ m ∣ tick + k - goal := by
  obtain ⟨g, hg, h⟩ := h
  have h1 : g = 1 := by
    have : g ∣ 1 := hg.left
    have := Int.le_of_dvd (by decide) this
    have := hg.1
    omega
  subst h1
  cases o with
  | none => exact absurd (Int.one_dvd _) h
  | some k =>
    obtain ⟨k1, k2, k3⟩ := h
    rw [Int.ediv_one] at k2
    rw [Int.mul_one] at k3
    exact ⟨k, rfl, k1, k2, k3⟩
end
end Tw
/-! Tw: the law of journeys -/
namespace Tw
open PySem PySem.Spec PyProof.Rows L2 He TwM StX
open PySem.W (Frag)
local macro_rules | `(tactic| walk_at "rsl") => `(tactic| simp only [*, at3_0, at3_1, at3_2, at2_0, at2_1, updS, upd_two, gSub, L2.rSetL, updN, tPar, tPar3, gTup, gCons, gNil, and_assoc, not_true_eq_false, not_false_eq_true, tNever, List.length_map, tFld, rIxTH, rIxLH, rLenTH, rLenLH, lk1, lfs_g, lfs_s, lfs_p, HO.ins.injEq, HO.tup.injEq, HO.lst.injEq, sp_Book_rounding, sp_Book_action, sp_Book_order, sp_Book_due, sp_Book_zero, sp_Book_beyond, Int.toNat_natCast, sp_visit_after, sp_is_visited, sp_Level_grain, sp_Level_slots, sp_Level_span, sp_Wheel_reach, sp_Wheel___len__, sp_is_integer, sp_is_count, sp_is_within, sp_rounded, tAsg, gName, tVar, tC, tOp, rI, rI0, rU, tUn, oAdd, oSub, oMul, oDiv, oMod, oNeg, oLt, oLe, oGt, oGe, oIsN, oNotN, tFn, tCons, tNil, tIfS, tIf, tTest, tB, tNot, tAnd, tOr, tAndV, tOrV, tNotV,
    tRet, tRetN, tNext, tCB, tDrop, tChain, rEq, rNe, oMax2, oMin2, oInt1, rLenF, L2.start, List.map_cons, List.map_nil, List.length_cons, List.length_nil, List.replicate_succ, List.replicate_zero, List.cons_append, List.nil_append, Nat.reduceAdd, Nat.reduceSub, Nat.zero_add,
    List.set_cons_zero, List.set_cons_succ, List.getElem?_cons_zero, List.getElem?_cons_succ, Option.some.injEq, V.int.injEq, V.ref.injEq, V.str.injEq, V.bl.injEq, exists_eq_left', exists_eq_left, exists_and_left, List.cons.injEq, and_true, true_and, decide_eq_true_eq, sc_ii, sc_ss, sc_bb, sc_ni, sc_in, sc_nn, sc_is, reduceCtorEq,
    Bool.not_eq_true', decide_eq_false_iff_not, if_true, if_false, Bool.false_eq_true, exists_eq', exists_const, false_and, and_false, or_false, false_or, exists_false, Bool.not_not, Bool.not_true, Bool.not_false, sUp_up, sFire_fire, sHigh_high, sPut_put, sZone_now, sBey_refuse, sBey_cut, tTup, tLst, sz0, sz1, sz2, sz3, sz4, sz5, sz6])
local macro_rules | `(tactic| walk_at "st") => `(tactic| ((try dsimp only); rw [seq1]; walk_at "rsl"))
section
variable {W : List Lv} {B : Bk}
theorem vis_far (ok : WOk W) (hf : B.fire = false) (h1 : 1 < W.length) {b t due : Int} (hr : reach W ≤ due - t) : ∀ (is : List Nat) {sp : Spot}, sp.lv = W.length - 1 → sp.due = due → ∀ o ∈ visGo W B b t is sp, o = some (spotAt W B t (due - t) due)
  | [], sp, _, _, o, ho => by simp [visGo] at ho
  | i :: is, sp, hl, hd, o, ho => by
    have hre : 2 ≤ reach W := (ok.all (W.length - 1) (by omega)).2.2.2.2
    unfold visGo at ho
    split at ho
    · have ht : taken W B sp t = some (spotAt W B t (due - t) due) := by
        unfold taken
        rw [if_neg (by rw [hl, hf]; simp; omega), if_pos (by omega), hd]
      rw [ht] at ho
      rcases List.mem_cons.mp ho with z | z
      · exact z
      · have e := spotAt_far ok (B := B) (now := t) (due := due) hr
        exact vis_far ok hf h1 hr is (by rw [e]) (by rw [e]) o z
    · exact vis_far ok hf h1 hr is hl hd o ho
def Fm : Int := 100000
theorem far_many (ok : WOk W) (hf : B.fire = false) (h1 : 1 < W.length) (k : Nat) : ∀ {sp : Spot} {tick : Int}, sp.lv = W.length - 1 → reach W + k * Fm ≤ sp.due - tick → k ≤ (jgo W B sp tick).length := by
  induction k with
  | zero => exact fun _ _ => Nat.zero_le _
  | succ k ih =>
    intro sp tick hl hr
    have hgt := va_step ok (show sp.lv < W.length by omega) sp.pt tick
    have hne := visited_ne ok (B := B) (show sp.lv < W.length by omega) tick
    have hF : Fm = 100000 := rfl
    have hk0 : (0 : Int) ≤ k * Fm := Int.mul_nonneg (by omega) (by omega)
    have hr2 : reach W + k * Fm ≤ sp.due - va (lv W sp.lv) sp.pt tick := by
      have : ((k + 1 : Nat) : Int) * Fm = k * Fm + Fm := by rw [show ((k + 1 : Nat) : Int) = k + 1 by omega, Int.add_mul, Int.one_mul]
      omega
    have hall := vis_far ok hf h1 (B := B) (b := va (lv W sp.lv) sp.pt tick - 1) (t := va (lv W sp.lv) sp.pt tick) (due := sp.due) (by omega) (order W B) hl rfl
    rw [jgo_eq ok (by omega)]
    change ∀ o ∈ visited W B sp _ _, _ at hall
    generalize va (lv W sp.lv) sp.pt tick = t at *
    generalize visited W B sp (t - 1) t = os at *
    have e := spotAt_far ok (B := B) (now := t) (rest := sp.due - t) (due := sp.due) (by omega)
    have hj := jvis_all (t := t) (os := os) fun o ho z => by rw [hall o ho] at z; cases z
    have hpos := List.length_pos_iff.mpr hne
    cases hq : os.getLast? with
    | none => exact absurd (List.getLast?_eq_none_iff.mp hq) hne
    | some o =>
      obtain rfl := hall o (List.mem_of_getLast? hq)
      dsimp only
      rw [List.length_append]
      have := ih (sp := spotAt W B t (sp.due - t) sp.due) (tick := t) (by rw [e]) (by rw [e]; exact hr2)
      omega
theorem zero_one (ok : WOk W) {sp : Spot} {tick : Int} (h0 : sp.lv = 0) : jgo W B sp tick = [] := by
  have hl : sp.lv < W.length := by have := ok.pos; omega
  rw [jgo_eq ok hl]
  have hall := fun o => visGo_zero (W := W) (B := B) (before := va (lv W sp.lv) sp.pt tick - 1) (now := va (lv W sp.lv) sp.pt tick) (order W B) h0 o
  change ∀ o, o ∈ visited W B sp _ _ → _ at hall
  generalize visited W B sp (va (lv W sp.lv) sp.pt tick - 1) (va (lv W sp.lv) sp.pt tick) = os at *
  have hj : jvis (va (lv W sp.lv) sp.pt tick) os = [] := by
    cases os with
    | nil => rfl
    | cons o os =>
      obtain rfl := hall o List.mem_cons_self
      rfl
  rw [hj]
  cases hq : os.getLast? with
  | none => rfl
  | some o =>
    obtain rfl := hall o (List.mem_of_getLast? hq)
    rfl
end
section
variable {K : Frag} {w : World}
theorem two_ite {a b1 b2 F1 F2 X : Prop} [Decidable a] [Decidable b1] [Decidable b2] (h1 : a → ¬ b1) (h2 : ¬ a → ¬ b2) (x : X) : if a then (if b1 then F1 else X) else (if b2 then F2 else X) := by
  by_cases z : a
  · rw [if_pos z, if_neg (h1 z)]
    exact x
  · rw [if_neg z, if_neg (h2 z)]
    exact x
theorem StsAt.push {H : Hp} {D p : Addr} {xs : List V} {l : List Stp} {j : Nat} {st : Stp} (hS : StsAt H xs (l.take j)) (hst : l[j]? = some st) (hp : H p = some (.tup [.int st.1, .int st.2.lv, .int st.2.pt])) (h2 : H D = some (.lst xs)) : StsAt (upd H D (.lst (xs ++ [.ref p]))) (xs ++ [.ref p]) (l.take (j + 1)) := by
  have hne : ∀ {b : Addr} {zs : List V}, H b = some (.tup zs) → upd H D (.lst (xs ++ [.ref p])) b = some (.tup zs) := fun {b zs} z => by
    rw [upd_ne (fun y => by rw [y, h2] at z; cases z)]
    exact z
  rw [List.take_add_one, hst]
  refine ⟨by rw [List.length_append, List.length_append, hS.1]; rfl, fun i v st' a b => ?_⟩
  rcases Nat.lt_or_ge i xs.length with z | z
  · rw [List.getElem?_append_left z] at a
    rw [List.getElem?_append_left (by rw [← hS.1]; exact z)] at b
    obtain ⟨p', e, hp'⟩ := hS.2 i v st' a b
    exact ⟨p', e, hne hp'⟩
  · rw [List.getElem?_append_right z] at a
    rw [List.getElem?_append_right (by rw [← hS.1]; exact z)] at b
    have hi : i - xs.length = 0 := by
      have := (List.getElem?_eq_some_iff.mp a).1
      simp at this
      omega
    rw [hi] at a
    rw [← hS.1, hi] at b
    cases a
    have b : some st = some st' := b
    cases b
    exact ⟨p, rfl, hne hp⟩
def sp__law_far_right (K : Frag) : Sp := fun vs H Q _ => ∃ (p l r rv : Addr) (start : Int), vs = [.ref p, .ref r, .ref rv, .int start] ∧ ∃ W B, PoolAt H p l ∧ r ≠ p ∧ r ≠ l ∧ rv ≠ p ∧ rv ≠ l ∧ RowsAt H r W ∧ ROk W ∧ VlAt H rv B ∧ 0 ≤ start ∧ ∀ H', SameP p l H H' → PoolAt H' p l → Q (.bl true) H'
def t__law_far_right (K : Frag) (w : World) : TS :=
  (tSeq (tAsg (tOp rCat (tOp rCat (tOp rCat (tSl (rSlL K) (tVar 2) tNoPart (tPart (tC (.int 1)))) (tLst (tCons (tC (.str "move")) tNil))) (tSl (rSlL K) (tVar 2) (tPart (tC (.int 2))) (tPart (tC (.int 5))))) (tLst (tCons (tC (.str "last")) tNil))) (gName 4))
  (tSeq (tPar 5 6 (tCons (tFn (sp__law_made_wheel K) E0 (tCons (tVar 1) tNil)) (tCons (tFn (sp__law_made_book K) E0 (tCons (tVar 4) tNil)) tNil)))
  (tSeq (tPar 7 8 (tCons (tOp oAdd (tOp oAdd (tOp rIxTH (tOp rIxLH (tVar 1) (tUn oNeg (tC (.int 1)))) (tC (.int 2))) (tOp oPow (tC (.int 10)) (tC (.int 26)))) (tFn (sp__law_draw K) E0 (tCons (tVar 0) (tCons (tOp oPow (tC (.int 10)) (tC (.int 28))) tNil)))) (tCons (tLst tNil) tNil)))
  (tSeq (TwZ.tForG (TwZ.tGenF (sp_journey K) (tCons (tVar 5) (tCons (tVar 6) (tCons (tVar 3) (tCons (tVar 7) tNil))))) (gName 9)
    (tSeq (tDrop (tBM K "list" rAppend (tVar 8) (tCons (tVar 9) tNil)))
  (tIfS (tAnd (tTest (tOp rEq (tCB rLenLH (tCons (tVar 8) tNil)) (tC (.int 8)))) (tTest (tOp oGt (tCB rLenLH (tCons (tVar 1) tNil)) (tC (.int 1))))) tBreak tNext)))
  (tSeq (tAsg (tFn (sp_place K) E0 (tCons (tVar 5) (tCons (tVar 6) (tCons (tVar 3) (tCons (tVar 7) tNil))))) (gName 10))
  (tSeq (tIfS (tOr (tTest (tOp (rNeD K) (tOp rIxLH (tVar 8) (tC (.int 0))) (tTup (tCons (tVar 3) (tCons (tOp rIxTH (tVar 10) (tC (.int 0))) (tCons (tOp rIxTH (tVar 10) (tC (.int 1))) tNil)))))) (tTest (tOp rNe (tCB rLenLH (tCons (tVar 8) tNil)) (tIf (tTest (tOp oGt (tCB rLenLH (tCons (tVar 1) tNil)) (tC (.int 1)))) (tC (.int 8)) (tC (.int 1)))))) (tRet (tC (.bl false))) tNext)
  (tSeq (tFor (RZ.iZipA K (tCons (tVar 8) (tCons (tSl (rSlL K) (tVar 8) (tPart (tC (.int 1))) tNoPart) tNil))) (gTup K 2 (gCons (gName 11) (gCons (gName 12) gNil)))
    (tIfS (tNot (tB (tFn (sp__law_next_right K) E0 (tCons (tVar 1) (tCons (tVar 4) (tCons (tVar 5) (tCons (tVar 6) (tCons (tOp rIxTH (tVar 10) (tC (.int 2))) (tCons (tVar 11) (tCons (tVar 12) tNil)))))))))) (tRet (tC (.bl false))) tNext))
  (tRet (tC (.bl true))))))))))
def n__law_far_right : List Str := ["_law_pool", "_law_rows", "_law_values", "_law_start", "_law_some", "_law_wheel", "_law_book", "_law_delay", "_law_steps", "_law_step", "_law_first", "_law_one", "_law_other"]
theorem rd__law_far_right (vs : List V) (H : Hp) (Q : VK) (E : XK) (h : sp__law_far_right K vs H Q E) : t__law_far_right K w { nx := fun _ H' => Q .non H', rt := Q } (L2.start n__law_far_right vs) H := by
  obtain ⟨p, l, r, rv, start, rfl, W, B, hp, n1, n2, n3, n4, hR, hRk, hV, h0, q⟩ := h
  have ok := hRk.ok
  have hl5 := ok.len
  have hpos := ok.pos
  have hV6 := hV.six
  unfold t__law_far_right n__law_far_right
  walk_at "st"
  refine ⟨_, rfl, 1, rfl, rv, _, rfl, SqL.of hV6, fun c1 hc1 => fun c2 hc2 => ?_⟩
  rw [show cutV [V.str (sUp B.up), V.str (sFire B.fire), V.str (sHigh B.high), V.str (sPut B.put), V.str (sZone B.zone), V.str (sBey B.bey)] none (some 1) = [V.str (sUp B.up)] from rfl]
  have m1 := Same.new (o := .lst [V.str (sUp B.up)]) hc1
  have k1 := upd_same (H := H) (a := c1) (o := .lst [V.str (sUp B.up)])
  rw [show cutV [V.str (sUp B.up), V.str (sFire B.fire), V.str (sHigh B.high), V.str (sPut B.put), V.str (sZone B.zone), V.str (sBey B.bey)] none (some 1) = [V.str (sUp B.up)] from rfl] at hc2
  generalize upd H c1 (.lst [V.str (sUp B.up)]) = H1 at *
  have m2 := Same.new (o := .lst [V.str "move"]) hc2
  have k2 := upd_same (H := H1) (a := c2) (o := .lst [V.str "move"])
  refine ⟨c1, c2, _, _, rfl, rfl, m2 _ _ k1, k2, by show 2 ≤ 16777216; decide, fun c3 hc3 => ?_⟩
  generalize upd H1 c2 (.lst [V.str "move"]) = H2 at *
  have m3 := Same.new (o := .lst [V.str (sUp B.up), V.str "move"]) hc3
  have k3 := upd_same (H := H2) (a := c3) (o := .lst [V.str (sUp B.up), V.str "move"])
  dsimp only [List.cons_append, List.nil_append]
  generalize upd H2 c3 (.lst [V.str (sUp B.up), V.str "move"]) = H3 at *
  refine ⟨_, rfl, 2, rfl, 5, rfl, rv, _, rfl, SqL.of (m3 _ _ (m2 _ _ (m1 _ _ hV6))), fun c4 hc4 => ?_⟩
  rw [show cutV [V.str (sUp B.up), V.str (sFire B.fire), V.str (sHigh B.high), V.str (sPut B.put), V.str (sZone B.zone), V.str (sBey B.bey)] (some 2) (some 5) = [V.str (sHigh B.high), V.str (sPut B.put), V.str (sZone B.zone)] from rfl]
  have m4 := Same.new (o := .lst [V.str (sHigh B.high), V.str (sPut B.put), V.str (sZone B.zone)]) hc4
  have k4 := upd_same (H := H3) (a := c4) (o := .lst [V.str (sHigh B.high), V.str (sPut B.put), V.str (sZone B.zone)])
  generalize upd H3 c4 (.lst [V.str (sHigh B.high), V.str (sPut B.put), V.str (sZone B.zone)]) = H4 at *
  refine ⟨c3, c4, _, _, rfl, rfl, m4 _ _ k3, k4, by show 5 ≤ 16777216; decide, fun c5 hc5 => fun c6 hc6 => ?_⟩
  dsimp only [List.cons_append, List.nil_append] at hc6 ⊢
  have m5 := Same.new (o := .lst [V.str (sUp B.up), V.str "move", V.str (sHigh B.high), V.str (sPut B.put), V.str (sZone B.zone)]) hc5
  have k5 := upd_same (H := H4) (a := c5) (o := .lst [V.str (sUp B.up), V.str "move", V.str (sHigh B.high), V.str (sPut B.put), V.str (sZone B.zone)])
  generalize upd H4 c5 (.lst [V.str (sUp B.up), V.str "move", V.str (sHigh B.high), V.str (sPut B.put), V.str (sZone B.zone)]) = H5 at *
  have m6 := Same.new (o := .lst [V.str "last"]) hc6
  have k6 := upd_same (H := H5) (a := c6) (o := .lst [V.str "last"])
  generalize upd H5 c6 (.lst [V.str "last"]) = H6 at *
  refine ⟨c5, c6, _, _, rfl, rfl, m6 _ _ k5, k6, by show 6 ≤ 16777216; decide, fun rv2 hc7 => ?_⟩
  have apv := (hp.same (m1.trans (m2.trans (m3.trans (m4.trans (m5.trans m6)))))).apart hc7
  have m7 := Same.new (o := .lst ([V.str (sUp B.up), V.str "move", V.str (sHigh B.high), V.str (sPut B.put), V.str (sZone B.zone)] ++ [V.str "last"])) hc7
  have k7 := upd_same (H := H6) (a := rv2) (o := .lst ([V.str (sUp B.up), V.str "move", V.str (sHigh B.high), V.str (sPut B.put), V.str (sZone B.zone)] ++ [V.str "last"]))
  generalize upd H6 rv2 (.lst ([V.str (sUp B.up), V.str "move", V.str (sHigh B.high), V.str (sPut B.put), V.str (sZone B.zone)] ++ [V.str "last"])) = H7 at *
  have m17 : Same H H7 := m1.trans (m2.trans (m3.trans (m4.trans (m5.trans (m6.trans m7)))))
  have hV7 : VlAt H7 rv2 { B with fire := false, bey := 1 } := ⟨k7, show 1 < 3 by decide⟩
  have hR7 := hR.same m17
  have hp7 := hp.same m17
  clear k1 k2 k3 k4 k5 k6 k7 m1 m2 m3 m4 m5 m6 m7 hc1 hc2 hc3 hc4 hc5 hc6 hc7 hV hV6 hR
  generalize hB' : ({ B with fire := false, bey := 1 } : Bk) = B' at *
  have hf : B'.fire = false := by rw [← hB']
  have hbey : B'.bey = 1 := by rw [← hB']
  clear hB'
  walk_at "st"
  refine ⟨r, W, rfl, hR7, hRk, fun aw H8 s8 hW => ?_⟩
  refine ⟨rv2, B', rfl, s8 _ _ hV7.at_, hV7.ok, fun ab H9 s9 hB => ?_⟩
  have s79 := s8.trans s9
  have hW9 := hW.same s9
  have hR9 := hR7.same s79
  have hV9 := hV7.same s79
  have hp9 := hp7.same s79
  have m19 := m17.trans s79
  clear hW hR7 hV7 hp7 m17 s8 s9 s79
  obtain ⟨xsr, tr, e1, e2, e3, e4⟩ := hR9.last hpos
  have c26 : CPow 10 26 := ⟨by decide, by decide, by decide⟩
  have c28 : CPow 10 28 := ⟨by decide, by decide, by decide⟩
  walk_at "st"
  refine draw (K := K) hp9 (by decide) (by decide) fun x H10 s10 hp10 x0 x1 => ?_
  refine ⟨x, rfl, fun S hS => ?_⟩
  have hR10 := RowsAt.sameP hp9 hR9 s10 n1 n2
  have hW10 := hW9.sameP hp9 s10
  have hB10 := hB.sameP hp9 s10
  have hV10 : VlAt H10 rv2 B' := ⟨s10 _ _ apv.1 apv.2 hV9.at_, hV9.ok⟩
  have sq10 := (Same.toP m19).trans s10
  have n11 := Same.new (o := .lst []) hS
  have hre : (lv W (W.length - 1)).p = reach W := rfl
  have hsm := hRk.small (i := W.length - 1) (by omega)
  have hall := ok.all (W.length - 1) (by omega)
  rw [hre] at hsm hall
  rw [show (lv W (W.length - 1)).p + 10 ^ Int.toNat 26 + x = reach W + 10 ^ 26 + x from rfl]
  have hd1 : reach W + 8 * Fm ≤ reach W + 10 ^ 26 + x := by unfold Fm; omega
  generalize reach W + 10 ^ 26 + x = d at *
  have hd0 : 0 ≤ d := by have : Fm = 100000 := rfl; omega
  have hbd : reach W ≤ d → B'.bey ≠ 0 := fun _ => by rw [hbey]; decide
  have hF : Fm = 100000 := rfl
  have hpl : placeM W B' start d = some (spotAt W B' start d (start + d)) := by
    unfold placeM
    rw [if_neg (by omega)]
    dsimp only
    rw [hbey, if_neg (show ¬ (1 > d) by omega), if_neg (by omega)]
  have hfar := spotAt_far ok (B := B') (now := start) (rest := d) (due := start + d) (by omega)
  have hn : (if 1 < W.length then 8 else 1) ≤ (jny W B' start d).length ∧ (¬ 1 < W.length → (jny W B' start d).length = 1) := by
    rw [jny_some hpl, List.length_cons]
    refine ⟨?_, fun h1 => ?_⟩
    · split
      · rename_i h1
        have := far_many ok hf h1 8 (sp := spotAt W B' start d (start + d)) (tick := start) (by rw [hfar]) (by rw [hfar]; show _ ≤ start + d - start; omega)
        omega
      · omega
    · rw [zero_one ok (by rw [hfar]; show W.length - 1 = 0; omega)]
      rfl
  have hnx := fun k a b => jny_nx ok (B := B') h0 hd0 hpl (k := k) (a := a) (b := b)
  have hj0 : (jny W B' start d)[0]? = some (start, spotAt W B' start d (start + d)) := by rw [jny_some hpl]; rfl
  clear hfar
  generalize spotAt W B' start d (start + d) = sp at *
  obtain ⟨_, _, gr, _, _, _⟩ := hR10.last hpos
  have hrS : r ≠ S := fun e => by rw [e, hS] at gr; cases gr
  clear gr
  generalize hjl : jny W B' start d = J at *
  generalize hm : (if 1 < W.length then 8 else 1) = m at *
  have hm8 : 1 < W.length → m = 8 := fun z => by rw [← hm, if_pos z]
  have hm1 : ¬ 1 < W.length → m = 1 := fun z => by rw [← hm, if_neg z]
  refine seqM (fun σ' H' => ∃ v9 xs, σ' = [some (.ref p), some (.ref r), some (.ref rv), some (.int start), some (.ref rv2), some (.ref aw), some (.ref ab), some (.int d), some (.ref S), v9, none, none, none] ∧ Same H10 H' ∧ H' S = some (.lst xs) ∧ StsAt H' xs (J.take m)) (fun R hI => ?_) ?_
  · unfold TwZ.tForG TwZ.tGenF
    walk_at "rsl"
    refine ⟨aw, ab, start, d, rfl, W, B', hW10.same n11, hB10.same n11, h0, hd0, hbd, J.length + 1, fun j Hs σ' H' => j ≤ J.length ∧ (1 < W.length → j < 8) ∧ TwZ.Frm Hs H' ∧ Same H10 H' ∧ ∃ v9 xs, σ' = [some (.ref p), some (.ref r), some (.ref rv), some (.int start), some (.ref rv2), some (.ref aw), some (.ref ab), some (.int d), some (.ref S), v9, none, none, none] ∧ H' S = some (.lst xs) ∧ StsAt H' xs (J.take j),
      ⟨Nat.zero_le _, fun _ => by decide, .refl _, n11, _, [], rfl, upd_same, by rw [List.take_zero]; exact ⟨rfl, fun i v st a => by simp at a⟩⟩, ?_⟩
    rintro j Hs σ' H2 ⟨hj, hjm, f2, s2, v9, xs, rfl, h2, hSt⟩
    have hxl : xs.length = j := by rw [hSt.1, List.length_take]; omega
    refine ⟨by omega, f2, fun H3 hf3 => ?_, fun y H3 hy => ?_⟩
    · obtain ⟨ej, s3⟩ := hf3
      rw [hjl] at ej
      by_cases h1 : 1 < W.length
      · have := hjm h1
        have := hm8 h1
        omega
      · have := hm1 h1
        have := hn.2 h1
        exact hI _ _ ⟨_, _, rfl, s2.trans s3, s3 _ _ h2, by rw [show m = j by omega]; exact hSt.same s3⟩
    · obtain ⟨hj2, ⟨st, pp, hst, rfl, hpp⟩, s3⟩ := hy
      rw [hjl] at hst
      have hj2' : j < J.length := by rw [← hjl]; exact hj2
      have h3 := s3 _ _ h2
      have hR3 := (hR10.same s2).same s3
      obtain ⟨xsr3, _, g1, g2, _, _⟩ := hR3.last hpos
      try dsimp only [List.set_cons_succ, List.set_cons_zero]
      rw [seq1]
      unfold tDrop tBM
      walk_at "rsl"
      refine ⟨.inl ⟨rfl, _, SqL.of h3⟩, S, _, _, rfl, rfl, h3, by rw [hxl]; show j < 16777216; omega, ?_⟩
      have hpush := hSt.same s3 |>.push hst hpp h3
      have hS4 := Same.updN (o := .lst (xs ++ [V.ref pp])) (s2.trans s3) hS
      have hf4 := (TwZ.Frm.refl H3).upd (u := .lst (xs ++ [V.ref pp])) h3 rfl
      have hal : (xs ++ [V.ref pp]).length = j + 1 := by rw [List.length_append, hxl]; rfl
      refine ⟨_, upd_same, ?_⟩
      rw [hal]
      by_cases c8 : ((j + 1 : Nat) : Int) = 8
      · rw [if_pos c8]
        refine ⟨_, (upd_ne hrS).trans g1, ?_⟩
        by_cases c1 : 1 < W.length
        · rw [if_pos (by omega)]
          exact hI _ _ ⟨_, _, rfl, hS4, upd_same, by rw [hm8 c1, show 8 = j + 1 by omega]; exact hpush⟩
        · rw [if_neg (by omega)]
          exact ⟨by omega, fun z => absurd z c1, hf4, hS4, _, upd_same, hpush⟩
      · rw [if_neg c8]
        exact ⟨by omega, fun z => by have := hjm z; omega, hf4, hS4, _, upd_same, hpush⟩
  · rintro σ' H2 ⟨v9, xs, rfl, s2, h2, hSt⟩
    have hR2 := hR10.same s2
    have hW2 := hW10.same s2
    have hB2 := hB10.same s2
    have hV2 := hV10.same s2
    have sq2 := sq10.trans (Same.toP s2)
    have hp2 := hp10.same s2
    clear hR10 hW10 hB10 hV10 sq10 hp10
    walk_at "st"
    refine ⟨aw, ab, start, d, rfl, W, B', hW2, hB2, h0, hd0, hbd, fun v H3 s3 hv => ?_⟩
    rw [hpl] at hv
    obtain ⟨p10, rfl, hS10⟩ := id hv
    unfold SpAt at hS10
    have h3 := s3 _ _ h2
    have hS3 := hSt.same s3
    have hml : (J.take m).length = m := by rw [List.length_take]; omega
    have hm0 : 1 ≤ m := by
      by_cases z : 1 < W.length
      · rw [hm8 z]; decide
      · rw [hm1 z]; decide
    have hxl : xs.length = m := by rw [hSt.1, hml]
    obtain ⟨x0', hx0⟩ : ∃ v, xs[0]? = some v := ⟨_, List.getElem?_eq_getElem (by omega)⟩
    obtain ⟨p0, rfl, hp0⟩ := hS3.2 0 x0' (start, sp) hx0 (by rw [List.getElem?_take, if_pos (by omega)]; exact hj0)
    obtain ⟨xsr3, _, g1, g2, _, _⟩ := (hR2.same s3).last hpos
    walk_at "st"
    refine ⟨_, atI_nat (j := 0) hx0, fun p11 hp11 => ?_⟩
    have n4 := Same.new (o := .tup [.int start, .int sp.lv, .int sp.pt]) hp11
    refine ne3 (n4 _ _ hp0) upd_same ⟨false, rfl, ?_⟩
    rw [if_neg (by decide)]
    refine ⟨_, n4 _ _ h3, _, n4 _ _ g1, ?_⟩
    rw [hxl]
    refine two_ite (fun z y => y (by have := hm8 (by omega); omega)) (fun z y => y (by have := hm1 (by omega); omega)) ?_
    have hWA := (hW2.same s3).same n4
    have hVA := (hV2.same s3).same n4
    have hRA := (hR2.same s3).same n4
    have hBA := (hB2.same s3).same n4
    have hpA := n4 _ _ hS10
    have sqA := (sq2.trans (Same.toP s3)).trans (Same.toP n4)
    have hppA := (hp2.same s3).same n4
    have hLA := n4 _ _ h3
    have hSA := hS3.same n4
    clear hW2 hV2 hR2 hB2 hp2 sq2 hx0 hp0 hS10 hv
    generalize upd H3 p11 (.tup [.int start, .int sp.lv, .int sp.pt]) = HA at *
    rw [seq1]
    refine zip_steps (K := K) (S := fun x y => [some (.ref p), some (.ref r), some (.ref rv), some (.int start), some (.ref rv2), some (.ref aw), some (.ref ab), some (.int d), some (.ref S), v9, some (.ref p10), x, y]) hLA hSA (fun R q => ⟨_, rfl, _, rfl, 1, rfl, S, _, rfl, SqL.of hLA, q⟩)
      (fun x y T u v H' R hT q => ⟨T, _, rfl, SqT.of hT, rfl, _, _, rfl, _, _, rfl, rfl, q⟩) (fun D' k u v a b H' s' ha hb hu hv hrt hnx' => ?_) (fun x y H' s' => ?_)
    · have hki : k < m ∧ k + 1 < m := by
        have := (List.getElem?_eq_some_iff.mp hb).1
        omega
      rw [List.getElem?_take, if_pos (by omega)] at ha hb
      have hpA' := s' _ _ hpA
      walk_at "rsl"
      refine ⟨r, rv2, aw, ab, sp.due, u, v, rfl, W, B', a, b, hRA.same s', ⟨ok⟩, hVA.same s', hWA.same s', hu, hv, hnx k a b ha hb, fun H'' s'' => ⟨true, rfl, ?_⟩⟩
      rw [if_neg (by decide)]
      exact hnx' _ s''
    · exact q H' (sqA.trans (Same.toP s')) (hppA.same s')
theorem pick2 {B : Bk} {a b : Int} {P : V → Prop} (h : ∀ d, (d = a ∧ B.bey = 0) ∨ (d = b ∧ B.bey ≠ 0) → P (V.int d)) : ∃ x, atI [V.int a, V.int b] (if ¬ V.str (sBey B.bey) = V.str (Str.ofString "refuse") then 1 else 0) = some x ∧ P x := by
  by_cases z : B.bey = 0
  · rw [if_neg (fun y => y (congrArg V.str ((sBey_refuse B.bey).mpr z)))]
    exact ⟨_, rfl, h a (.inl ⟨rfl, z⟩)⟩
  · rw [if_pos (fun y => z ((sBey_refuse B.bey).mp (V.str.inj y)))]
    exact ⟨_, rfl, h b (.inr ⟨rfl, z⟩)⟩
def sp_law (K : Frag) : Sp := fun vs H Q _ => ∃ (a : Addr) (ns : List Int), vs = [.ref a] ∧ SqL K H a (ns.map V.int) ∧ ns.length ≤ 63 ∧ ∀ H', Q (.bl true) H'
def t_law (K : Frag) (w : World) : TS :=
  (tSeq (tAsg (tFn (sp__law_begin K) E0 (tCons (tVar 0) tNil)) (gName 1))
  (tSeq (tFor (iRng1 (tCons (tC (.int 10)) tNil)) (gName 2)
    (tSeq (tPar 3 4 (tCons (tFn (sp__law_draw_rows K) E0 (tCons (tVar 1) (tCons (tC (.int 24)) (tCons (tC (.int 6)) (tCons (tC (.int 3)) tNil))))) (tCons (tFn (sp__law_draw_values K) E0 (tCons (tVar 1) tNil)) tNil)))
  (tSeq (tPar3 5 6 7 (tCons (tFn (sp__law_made_wheel K) E0 (tCons (tVar 3) tNil)) (tCons (tFn (sp__law_made_book K) E0 (tCons (tVar 4) tNil)) (tCons (tOp rIxTH (tOp rIxLH (tVar 3) (tUn oNeg (tC (.int 1)))) (tC (.int 2))) tNil))))
  (tSeq (tAsg (tOp rIxLH (tLst (tCons (tFn (sp__law_draw K) E0 (tCons (tVar 1) (tCons (tC (.int 100)) tNil))) (tCons (tFn (sp__law_draw K) E0 (tCons (tVar 1) (tCons (tOp oPow (tC (.int 10)) (tC (.int 30))) tNil))) tNil))) (tFn (sp__law_draw K) E0 (tCons (tVar 1) (tCons (tC (.int 2)) tNil)))) (gName 8))
  (tSeq (tAsg (tOp rIxLH (tLst (tCons (tOp oAdd (tC (.int 1)) (tFn (sp__law_draw K) E0 (tCons (tVar 1) (tCons (tOp oSub (tVar 7) (tC (.int 1))) tNil)))) (tCons (tOp oAdd (tC (.int 1)) (tFn (sp__law_draw K) E0 (tCons (tVar 1) (tCons (tOp oMul (tC (.int 3)) (tVar 7)) tNil)))) tNil))) (tCB oInt1 (tCons (tOp rNe (tOp rIxLH (tVar 4) (tC (.int 5))) (tC (.str "refuse"))) tNil))) (gName 9))
  (tSeq (tIfS (tAnd (tTest (tOp rEq (tVar 2) (tC (.int 0)))) (tNot (tB (tFn (sp__law_far_right K) E0 (tCons (tVar 1) (tCons (tVar 3) (tCons (tVar 4) (tCons (tVar 8) tNil)))))))) (tRet (tC (.bl false))) tNext)
  (tSeq (tAsg (TwZ.tLstG (TwZ.tGenF (sp_journey K) (tCons (tVar 5) (tCons (tVar 6) (tCons (tVar 8) (tCons (tVar 9) tNil)))))) (gName 10))
  (tSeq (tAsg (tFn (sp_place K) E0 (tCons (tVar 5) (tCons (tVar 6) (tCons (tVar 8) (tCons (tVar 9) tNil))))) (gName 11))
  (tSeq (tIfS (tOr (tTest (tOp (rNeD K) (tOp rIxLH (tVar 10) (tC (.int 0))) (tTup (tCons (tVar 8) (tCons (tOp rIxTH (tVar 11) (tC (.int 0))) (tCons (tOp rIxTH (tVar 11) (tC (.int 1))) tNil)))))) (tTest (tOp rNe (tCB rLenLH (tCons (tVar 10) tNil)) (tOp oAdd (tFn (sp_moves K) E0 (tCons (tVar 5) (tCons (tVar 6) (tCons (tVar 8) (tCons (tVar 9) tNil))))) (tC (.int 1)))))) (tRet (tC (.bl false))) tNext)
  (tSeq (tFor (RZ.iZipA K (tCons (tVar 10) (tCons (tSl (rSlL K) (tVar 10) (tPart (tC (.int 1))) tNoPart) tNil))) (gTup K 2 (gCons (gName 12) (gCons (gName 13) gNil)))
    (tIfS (tNot (tB (tFn (sp__law_next_right K) E0 (tCons (tVar 3) (tCons (tVar 4) (tCons (tVar 5) (tCons (tVar 6) (tCons (tOp rIxTH (tVar 11) (tC (.int 2))) (tCons (tVar 12) (tCons (tVar 13) tNil)))))))))) (tRet (tC (.bl false))) tNext))
  (tSeq (tAsg (tOp rIxLH (tVar 10) (tUn oNeg (tC (.int 1)))) (gTup K 3 (gCons (gName 14) (gCons (gName 15) (gCons (gName 16) gNil)))))
  (tSeq (tPar 17 18 (tCons (tFn (sp_fire_tick K) E0 (tCons (tVar 5) (tCons (tVar 6) (tCons (tVar 8) (tCons (tVar 9) tNil))))) (tCons (tOp rEq (tOp oMod (tVar 14) (tFn (sp_Level_grain K) E0 (tCons (tFn (sp_Wheel___getitem__ K) E0 (tCons (tVar 5) (tCons (tVar 15) tNil))) tNil))) (tC (.int 0))) tNil)))
  (tIfS (tAnd (tTest (tOp rNe (tVar 17) (tFn (sp_next_visit K) E0 (tCons (tFn (sp_Wheel___getitem__ K) E0 (tCons (tVar 5) (tCons (tVar 15) tNil))) (tCons (tVar 16) (tCons (tVar 14) tNil)))))) (tNot (tAnd (tTest (tOp rEq (tVar 17) (tVar 14))) (tAnd (tB (tVar 18)) (tTest (tOp oGt (tCB rLenLH (tCons (tVar 10) tNil)) (tC (.int 1)))))))) (tRet (tC (.bl false))) tNext)))))))))))))
  (tRet (tC (.bl true)))))
def n_law : List Str := ["_law_script", "_law_pool", "_law_turn", "_law_rows", "_law_values", "_law_wheel", "_law_book", "_law_reach", "_law_start", "_law_delay", "_law_steps", "_law_first", "_law_one", "_law_other", "_law_tick", "_law_level", "_law_point", "_law_told", "_law_same"]
theorem rd_law (vs : List V) (H : Hp) (Q : VK) (E : XK) (h : sp_law K vs H Q E) : t_law K w { nx := fun _ H' => Q .non H', rt := Q } (L2.start n_law vs) H := by
  obtain ⟨a, ns, rfl, ha, hl, q⟩ := h
  unfold t_law n_law
  rw [seq1]
  walk_at "rsl"
  refine ⟨a, ns, rfl, ha, hl, fun p l H0 hp0 _ => ?_⟩
  try dsimp only
  rw [seq1]
  refine ⟨_, rfl, by decide, by decide, for_range (fun _ σ' H' => ∃ v2 v3 v4 v5 v6 v7 v8 v9 v10 v11 v12 v13 v14 v15 v16 v17 v18, σ' = [some (.ref a), some (.ref p), v2, v3, v4, v5, v6, v7, v8, v9, v10, v11, v12, v13, v14, v15, v16, v17, v18] ∧ PoolAt H' p l) ⟨_, _, _, _, _, _, _, _, _, _, _, _, _, _, _, _, _, rfl, hp0⟩ ?_ (fun σ H' _ => q H')⟩
  rintro i σ H1 hi ⟨v2, v3, v4, v5, v6, v7, v8, v9, v10, v11, v12, v13, v14, v15, v16, v17, v18, rfl, hp1⟩
  rw [gName1]
  walk_at "st"
  refine ⟨p, l, 24, 6, 3, rfl, hp1, by decide, by decide, by decide, by decide, by decide, by decide, fun r W H2 s2 hp2 hr hR hRk hbd => ?_⟩
  refine ⟨p, l, rfl, hp2, fun rv B H3 s3 hp3 hrv hv hb3 => ?_⟩
  have apr := hp1.apart hr
  have apv := hp2.apart hrv
  have hR3 := RowsAt.sameP hp2 hR s3 apr.1 apr.2
  have ok := hRk.ok
  have hpos := ok.pos
  have hl5 := ok.len
  walk_at "st"
  refine ⟨r, W, rfl, hR3, hRk, fun aw H4 s4 hW => ?_⟩
  refine ⟨rv, B, rfl, s4 _ _ hv, hb3, fun ab H5 s5 hB => ?_⟩
  have hp5 := (hp3.same s4).same s5
  have hW5 := hW.same s5
  have hR5 := (hR3.same s4).same s5
  have hv5 := s5 _ _ (s4 _ _ hv)
  have hsm := hRk.small (i := W.length - 1) (by omega)
  have hall := ok.all (W.length - 1) (by omega)
  have hp4 : (lv W (W.length - 1)).p ≤ 600 := by
    have h1 := hRk.sp (W.length - 1) (by omega)
    have h2 := hbd.g (W.length - 1) (by omega)
    have h3 := hbd.s (W.length - 1) (by omega)
    have : 4 * (lv W (W.length - 1)).s * (lv W (W.length - 1)).g ≤ 24 * 24 := Int.mul_le_mul (by omega) h2 (by omega) (by omega)
    omega
  have hre : (lv W (W.length - 1)).p = reach W := rfl
  obtain ⟨xs5, t5, e51, e52, e53, e54⟩ := hR5.last hpos
  rw [hre] at e54 hp4 hsm hall
  clear hR3 hW hr hrv hv hR hp3 hp2 hp1
  try dsimp only
  walk_at "rsl"
  have c30 : CPow 10 30 := ⟨by decide, by decide, by decide⟩
  walk_at "st"
  refine draw (K := K) hp5 (by decide) (by decide) fun x6 H6 s6 hp6 x60 x61 => ?_
  refine draw (K := K) hp6 (by decide) (by decide) fun x7 H7 s7 hp7 x70 x71 => fun f8 hf8 => ?_
  refine drawAt hp7 hf8 (by decide) (by decide) rfl fun i8 w8 H8 s8 hp8 _ a8 b8 d8 => ?_
  have q58 := (s6.trans s7).trans s8
  have hR8 := RowsAt.sameP hp5 hR5 q58 apr.1 apr.2
  have hW8 := hW5.sameP hp5 q58
  have hB8 := hB.sameP hp5 q58
  have hv8 := q58 _ _ apv.1 apv.2 hv5
  obtain ⟨start, rfl, hs0⟩ : ∃ z : Int, w8 = .int z ∧ 0 ≤ z := by
    rcases (by omega : i8 = 0 ∨ i8 = 1) with rfl | rfl
    · exact ⟨_, (Option.some.inj d8).symm, by omega⟩
    · exact ⟨_, (Option.some.inj d8).symm, by omega⟩
  clear hR5 hW5 hB hv5 s6 s7 s8 q58 hp5 hp6 hp7 hf8 d8 x60 x61 x70 x71 a8 b8 e51 e52 e53 e54 c30
  have hV8 : VlAt H8 rv B := ⟨hv8, hb3⟩
  have hV86 := hV8.six
  walk_at "st"
  refine draw (K := K) hp8 (by omega) (log_small (by omega) (by omega)) fun x9 H9 s9 hp9 x90 x91 => ⟨x9, rfl, .inr ⟨by omega, by omega⟩, ?_⟩
  refine draw (K := K) hp9 (by omega) (log_small (by omega) (by omega)) fun x10 H10 s10 hp10 x100 x101 => ⟨x10, rfl, fun f11 hf11 => ?_⟩
  have q80 := s9.trans s10
  have hR10 := RowsAt.sameP hp8 hR8 q80 apr.1 apr.2
  have hW10 := hW8.sameP hp8 q80
  have hB10 := hB8.sameP hp8 q80
  have hv10 := q80 _ _ apv.1 apv.2 hv8
  have n11 := Same.new (o := .lst [V.int (1 + x9), V.int (1 + x10)]) hf11
  have hR11 := hR10.same n11
  have hW11 := hW10.same n11
  have hB11 := hB10.same n11
  have hV11 : VlAt (upd H10 f11 (.lst [V.int (1 + x9), V.int (1 + x10)])) rv B := ⟨n11 _ _ hv10, hb3⟩
  have hp11 := hp10.same n11
  refine ⟨_, hV11.six, _, at6_5 .., rfl, ?_⟩
  generalize upd H10 f11 (.lst [V.int (1 + x9), V.int (1 + x10)]) = H11 at *
  clear hR8 hW8 hB8 hv8 hV8 hV86 hR10 hW10 hB10 hv10 n11 q80 s9 s10 hp8 hp9 hp10 hf11
  refine pick2 fun d hdd => ?_
  have hd1 : 1 ≤ d := by rcases hdd with z | z <;> omega
  have hd2 : d ≤ 3 * reach W := by rcases hdd with z | z <;> omega
  have hdb : reach W ≤ d → B.bey ≠ 0 := fun z => by rcases hdd with y | y <;> omega
  clear hdd x90 x91 x100 x101
  have hd0 : 0 ≤ d := by omega
  refine seqM (fun σ' H' => σ' = [some (.ref a), some (.ref p), some (.int (0 + ↑i)), some (.ref r), some (.ref rv), some (.ref aw), some (.ref ab), some (.int (reach W)), some (.int start), some (.int d), v10, v11, v12, v13, v14, v15, v16, v17, v18] ∧ SameP p l H11 H' ∧ PoolAt H' p l) (fun R hI => ?_) ?_
  · walk_at "rsl"
    refine ite2 (fun z => ⟨p, l, r, rv, start, rfl, W, B, hp11, apr.1, apr.2, apv.1, apv.2, hR11, hRk, hV11, hs0, fun H' s hp' => ⟨true, rfl, ?_⟩⟩) (fun z => hI _ _ ⟨rfl, SameP.refl _ _ _, hp11⟩)
    rw [if_neg (by decide)]
    exact hI _ _ ⟨rfl, s, hp'⟩
  rintro σ' H12 ⟨rfl, s12, hp12⟩
  have hR12 := RowsAt.sameP hp11 hR11 s12 apr.1 apr.2
  have hW12 := hW11.sameP hp11 s12
  have hB12 := hB11.sameP hp11 s12
  have hV12 : VlAt H12 rv B := ⟨s12 _ _ apv.1 apv.2 hV11.at_, hb3⟩
  clear hR11 hW11 hB11 hV11 hp11 s12
  walk_at "st"
  obtain ⟨sp, hpl⟩ : ∃ sp, placeM W B start d = some sp := by
    unfold placeM
    rw [if_neg (by omega)]
    exact ⟨_, rfl⟩
  have hjl := jny_len ok (B := B) (now := start) (d := d) (M := 1800) hd0 (by omega)
  refine lst_jny (fun R q => ⟨_, rfl, _, rfl, _, rfl, _, rfl, q⟩) hW12 hB12 hs0 hd0 hdb (Nat.le_trans hjl (by decide)) fun S xs H13 s13 hL hSt => ?_
  have hnx := fun k a b => jny_nx ok (B := B) hs0 hd0 hpl (k := k) (a := a) (b := b)
  have hal := jny_pl ok (B := B) hs0 hd0 hpl
  obtain ⟨hf1, la, hla, hen⟩ := jny_fin ok (B := B) hs0 hd0 hpl
  have hj0 : (jny W B start d)[0]? = some (start, sp) := by rw [jny_some hpl]; rfl
  have hjg : jgo W B sp start ≠ [] → 1 < (jny W B start d).length := fun z => by
    rw [jny_some hpl, List.length_cons]
    have := List.length_pos_iff.mpr z
    omega
  generalize jgo W B sp start = G at *
  generalize jny W B start d = J at *
  have hR13 := hR12.same s13
  have hW13 := hW12.same s13
  have hB13 := hB12.same s13
  have hV13 := hV12.same s13
  have hp13 := hp12.same s13
  clear hR12 hW12 hB12 hV12 hp12 s13
  walk_at "st"
  refine ⟨aw, ab, start, d, rfl, W, B, hW13, hB13, hs0, hd0, hdb, fun v H14 s14 hv => ?_⟩
  rw [hpl] at hv
  obtain ⟨p10, rfl, hS10⟩ := id hv
  unfold SpAt at hS10
  have hL14 := s14 _ _ hL
  have hSt14 := hSt.same s14
  have hxl := hSt.1
  have hJ0 : 0 < J.length := (List.getElem?_eq_some_iff.mp hj0).1
  obtain ⟨x0', hx0⟩ : ∃ v, xs[0]? = some v := ⟨_, List.getElem?_eq_getElem (by omega)⟩
  obtain ⟨p0, rfl, hp0'⟩ := hSt14.2 0 x0' (start, sp) hx0 hj0
  walk_at "st"
  refine ⟨_, atI_nat (j := 0) hx0, fun p11 hp11 => ?_⟩
  have n15 := Same.new (o := .tup [.int start, .int sp.lv, .int sp.pt]) hp11
  refine ne3 (n15 _ _ hp0') upd_same ⟨false, rfl, ?_⟩
  rw [if_neg (by decide)]
  have sA := s14.trans n15
  have hRA := hR13.same sA
  have hWA := hW13.same sA
  have hBA := hB13.same sA
  have hVA := hV13.same sA
  have hpA := hp13.same sA
  have hLA := n15 _ _ hL14
  have hSA := hSt14.same n15
  have hSpA := n15 _ _ hS10
  clear hR13 hW13 hB13 hV13 hp13 hL14 hSt14 hS10 hp0' hv hL hSt s14 n15 sA hp11
  generalize upd H14 p11 (.tup [.int start, .int sp.lv, .int sp.pt]) = HA at *
  walk_at "rsl"
  refine ⟨aw, ab, start, d, rfl, W, B, hWA, hBA, hs0, hd0, hdb, fun HB sB => ⟨_, rfl, ?_⟩⟩
  rw [if_neg (fun z => z rfl)]
  have hf1' : Hid ((J.length : Int) = (fin W B start d).2 + 1) := hf1
  have hxl' : Hid (xs.length = J.length) := hxl
  have hSB := hSA.same sB
  have hLB := sB _ _ hLA
  have hRB := hRA.same sB
  have hWB := hWA.same sB
  have hBB := hBA.same sB
  have hVB := hVA.same sB
  have hpB := hpA.same sB
  have hSpB := sB _ _ hSpA
  clear hf1 hxl hSA hLA hRA hWA hBA hVA hpA hSpA sB
  rw [seq1]
  refine zip_steps (K := K) (S := fun x y => [some (.ref a), some (.ref p), some (.int ((0 : Int) + (i : Int))), some (.ref r), some (.ref rv), some (.ref aw), some (.ref ab), some (.int (reach W)), some (.int start), some (.int d), some (.ref S), some (.ref p10), x, y, v14, v15, v16, v17, v18]) hLB hSB (fun R q => ⟨_, rfl, _, rfl, 1, rfl, S, _, rfl, SqL.of hLB, q⟩)
    (fun x y T u v H' R hT q => ⟨T, _, rfl, SqT.of hT, rfl, _, _, rfl, _, _, rfl, rfl, q⟩) (fun D' k u v a b H' s' ha hb hu hv hrt hnx' => ?_) (fun x y HC sC => ?_)
  · have hSp' := s' _ _ hSpB
    walk_at "rsl"
    refine ⟨r, rv, aw, ab, sp.due, u, v, rfl, W, B, a, b, hRB.same s', ⟨ok⟩, hVB.same s', hWB.same s', hu, hv, hnx k a b ha hb, fun H'' s'' => ⟨true, rfl, ?_⟩⟩
    rw [if_neg (by decide)]
    exact hnx' _ s''
  have hWC := hWB.same sC
  have hBC := hBB.same sC
  have hpC := hpB.same sC
  have hLC := sC _ _ hLB
  have hSC := hSB.same sC
  clear hSB hLB hRB hWB hBB hVB hpB hSpB sC
  have hla2 : J[J.length - 1]? = some la := by rw [← List.getLast?_eq_getElem?]; exact hla
  obtain ⟨vl, hvl⟩ : ∃ v, xs[J.length - 1]? = some v := ⟨_, List.getElem?_eq_getElem (by have : xs.length = J.length := hxl'; omega)⟩
  obtain ⟨pl, rfl, hpl2⟩ := hSC.2 _ vl la hvl hla2
  have hgl : xs.getLast? = some (.ref pl) := by rw [List.getLast?_eq_getElem?, show xs.length = J.length from hxl']; exact hvl
  have hPl := hal la (List.mem_of_getLast? hla)
  obtain ⟨g1, g2, g3, g4, g5⟩ := hPl
  have hallL := ok.all la.2.lv g2
  walk_at "st"
  refine ⟨_, atI_m1 hgl, ?_⟩
  refine ⟨pl, rfl, _, SqT.of hpl2, rfl, _, _, rfl, _, _, rfl, _, _, rfl, rfl, ?_⟩
  walk_at "st"
  refine ⟨aw, ab, start, d, rfl, W, B, hWC, hBC, hs0, hd0, hdb, fun HD sD => ?_⟩
  have hWD := hWC.same sD
  have hpD := hpC.same sD
  have hLD := sD _ _ hLC
  clear hWC hBC hpC hLC hSC
  refine ⟨aw, la.2.lv, rfl, W, hWD, by omega, by omega, fun c hc => ?_⟩
  rw [Int.toNat_natCast] at hc
  have eL := @lv_ex K HD c (lv W la.2.lv) hc
  walk_at "rsl"
  refine ⟨by omega, aw, la.2.lv, rfl, W, hWD, by omega, by omega, fun c2 hc2 => ⟨c2, la.2.pt, la.1, rfl, lv W la.2.lv, by rw [Int.toNat_natCast] at hc2; exact hc2, g5, g4, rfl, ?_⟩⟩
  rcases hen with z | ⟨z1, z2, z3⟩
  · rw [if_neg (fun y => y (congrArg V.int z))]
    exact hpD
  · have hjl2 := hjg z2
    obtain ⟨m1, m2⟩ := isVis_tick (by omega) (by omega) z3
    by_cases c0 : V.int (fin W B start d).1 = V.int (va (lv W la.2.lv) la.2.pt la.1)
    · rw [if_neg (fun y => y c0)]
      exact hpD
    · rw [if_pos c0, if_pos z1, if_pos m1]
      refine ⟨_, hLD, ?_⟩
      rw [if_neg (fun y => y (by have : xs.length = J.length := hxl'; omega))]
      exact hpD
end
end Tw
/-! the defs as they stand -/
namespace Tw
open PySem PySem.Spec PyProof.Rows L2 He TwM Hd PySem.W
section
variable {K : Frag} {w : World} {mg : PySem.Str → Option Value} {base : Heap}
theorem kf (T : Tx K mg w) : Kf K w where
  cL := cls_Level T
  cW := cls_Wheel T
  cB := cls_Book T
  nLg := na_Level_kept_grain T
  nLs := na_Level_kept_slots T
  nLp := na_Level_kept_span T
  nWl := na_Wheel_kept_levels T
  nBv := na_Book_kept_values T
  iL := isi_Level T
  kL := kit_Level T
  sw := tup_SWITCHES T
  vd := fun x hx => by
    obtain ⟨es, n, D⟩ := T.says.tab 0 rfl
    exact ⟨es, n, _, D.at_, D.lit, val_VALUES T x hx, rfl⟩
  v0 := tup_VALUES_rounding T
  v1 := tup_VALUES_action T
  v2 := tup_VALUES_order T
  v3 := tup_VALUES_due T
  v4 := tup_VALUES_zero T
  v5 := tup_VALUES_beyond T
theorem klv (T : Tx K mg w) : Klv K w := ⟨cls_Level T, na_Level_kept_grain T, na_Level_kept_slots T, na_Level_kept_span T, isi_Level T, kit_Level T⟩
theorem kl (T : Tx K mg w) : Kl K w := ⟨klv T, cls_Wheel T, na_Wheel_kept_levels T⟩
theorem sc__law_begin : FnScope n__law_begin ["_law_script"] (defScope s__law_begin) := ⟨rfl, rfl, rfl, by decide +kernel, rfl, by decide +kernel, by decide +kernel⟩
theorem ln0__law_begin (vs : List V) (H : Hp) (Q : VK) (E : XK) (h : sp__law_begin K vs H Q E) : vs.length = 1 := by
  unfold sp__law_begin at h
  repeat (first | (exact (congrArg List.length h.1).trans rfl) | (obtain ⟨_, h⟩ := h))
theorem okk__law_begin (T : Tx K mg w) : FnOk (PySem.Challenge.rw_timerwheels_k32_whole_journeys).prog w K mg base CX0 2 (ga K "_law_begin") (d__law_begin T).choose ["_law_script"] (sp__law_begin K) :=
  FunD.ok (k := 1) (N := n__law_begin) (d__law_begin T).choose_spec sc__law_begin ln0__law_begin fun cdv A outer s H vs Q E hr h => ⟨t__law_begin K w, PSs.nox (pss_cons (ps_set (i := 1) sc__law_begin.nd rfl (Or.inl rfl) pe_int)
  (pss_cons (ps_for PassesOwn.never rfl (pi_list (pe_slice sl_list (pv 0) po_none (po_some pe_int))) (pg_name (i := 2) sc__law_begin.nd rfl (Or.inl rfl))
    (pss_one (ps_set (i := 1) sc__law_begin.nd rfl (Or.inl rfl) (pe_op op_mod (pe_op op_add (pe_op op_add (pe_op op_mul (pv 1) pe_int) (pe_op op_mod (pe_callTy call_int1 (by rfl) (free_int T) (by decide +kernel) (pa_cons (pv 2) pa_nil)) pe_int)) pe_int) pe_int))))
  (pss_one (ps_ret (pe_lst (pa_cons (pe_lc (own := [("_law_cell", 2)]) (g := (gName 2)) (tt := tYes) rfl sc__law_begin.nd (pi_list (pv 0)) (blkOk_by (own := [("_law_cell", 2)]) (N := ["_law_script", "_law_seed", "_law_cell"]) (sc := defScope s__law_begin) (by decide +kernel)) (fun _ _ _ _ _ => (pg_name (i := 2) sc__law_begin.nd rfl (Or.inl rfl))) (fun _ _ _ _ _ => pts_nil) (fun _ _ _ _ _ => (pe_callB call_abs (by rfl) (free_abs T) (by decide +kernel) (pa_cons (pe_callTy call_int1 (by rfl) (free_int T) (by decide +kernel) (pa_cons (pv 2) pa_nil)) pa_nil)))) (pa_cons pe_int (pa_cons pe_int (pa_cons (pv 1) (pa_cons pe_int pa_nil)))))))))), rd__law_begin vs H Q E h⟩
theorem ok__law_begin (T : Tx K mg w) : FnR (PySem.Challenge.rw_timerwheels_k32_whole_journeys).prog w K mg base CX0 2 (ga K "_law_begin") (sp__law_begin K) :=
  fnR_of (okk__law_begin T) ((d__law_begin T).choose_spec.bindsN fun _ _ _ _ _ _ us hl => match us, hl with | [_], _ => rfl)
theorem kp__law_begin (T : Tx K mg w) : keepIn K (.ref (ga K "_law_begin")) = true := (d__law_begin T).choose_spec.kp
theorem sc__law_mixed : FnScope n__law_mixed ["_law_pool", "_law_many"] (defScope s__law_mixed) := ⟨rfl, rfl, rfl, by decide +kernel, rfl, by decide +kernel, by decide +kernel⟩
theorem ln0__law_mixed (vs : List V) (H : Hp) (Q : VK) (E : XK) (h : sp__law_mixed K vs H Q E) : vs.length = 2 := by
  unfold sp__law_mixed at h
  repeat (first | (exact (congrArg List.length h.1).trans rfl) | (obtain ⟨_, h⟩ := h))
theorem okk__law_mixed (T : Tx K mg w) : FnOk (PySem.Challenge.rw_timerwheels_k32_whole_journeys).prog w K mg base CX0 2 (ga K "_law_mixed") (d__law_mixed T).choose ["_law_pool", "_law_many"] (sp__law_mixed K) :=
  FunD.ok (k := 1) (N := n__law_mixed) (d__law_mixed T).choose_spec sc__law_mixed ln0__law_mixed fun cdv A outer s H vs Q E hr h => ⟨t__law_mixed K w, PSs.nox (pss_cons (ps_asg (pe_op op_add (pe_ix ix_lstH (pv 0) pe_int (fun _ _ => rfl)) pe_int) (pg_sub (pv 0) pe_int set_list))
  (pss_cons (ps_set (i := 2) sc__law_mixed.nd rfl (Or.inl rfl) (pe_ix ix_lstH (pv 0) pe_int (fun _ _ => rfl)))
  (pss_cons (ps_for PassesOwn.never rfl (pi_range1 rfl (free_range T) (pa_cons (pe_op op_add pe_int (pe_op op_fdiv (pe_callB call_len_str (by rfl) (free_len T) (by decide +kernel) (pa_cons (pe_callTy call_str_int (by rfl) (free_str T) (by decide +kernel) (pa_cons (pv 1) pa_nil)) pa_nil)) pe_int)) pa_nil)) (pg_name (i := 3) sc__law_mixed.nd rfl (Or.inl rfl))
    (pss_cons (ps_asg (pe_op op_mod (pe_op op_add (pe_op op_add (pe_op op_mul (pe_ix ix_lstH (pv 0) pe_int (fun _ _ => rfl)) pe_int) (pe_op op_mul (pe_ix ix_lstH (pv 0) pe_int (fun _ _ => rfl)) pe_int)) pe_int) pe_int) (pg_sub (pv 0) pe_int set_list))
  (pss_one (ps_set (i := 2) sc__law_mixed.nd rfl (Or.inl rfl) (pe_op op_add (pe_op op_mul (pv 2) pe_int) (pe_op op_fdiv (pe_ix ix_lstH (pv 0) pe_int (fun _ _ => rfl)) pe_int))))))
  (pss_one (ps_ret (pe_op op_mod (pv 2) (pv 1))))))), rd__law_mixed vs H Q E h⟩
theorem ok__law_mixed (T : Tx K mg w) : FnR (PySem.Challenge.rw_timerwheels_k32_whole_journeys).prog w K mg base CX0 2 (ga K "_law_mixed") (sp__law_mixed K) :=
  fnR_of (okk__law_mixed T) ((d__law_mixed T).choose_spec.bindsN fun _ _ _ _ _ _ us hl => match us, hl with | [_, _], _ => rfl)
theorem kp__law_mixed (T : Tx K mg w) : keepIn K (.ref (ga K "_law_mixed")) = true := (d__law_mixed T).choose_spec.kp
theorem sc__law_draw : FnScope n__law_draw ["_law_pool", "_law_many"] (defScope s__law_draw) := ⟨rfl, rfl, rfl, by decide +kernel, rfl, by decide +kernel, by decide +kernel⟩
theorem ln0__law_draw (vs : List V) (H : Hp) (Q : VK) (E : XK) (h : sp__law_draw K vs H Q E) : vs.length = 2 := by
  unfold sp__law_draw at h
  repeat (first | (exact (congrArg List.length h.1).trans rfl) | (obtain ⟨_, h⟩ := h))
theorem okk__law_draw (T : Tx K mg w) : FnOk (PySem.Challenge.rw_timerwheels_k32_whole_journeys).prog w K mg base CX0 4 (ga K "_law_draw") (d__law_draw T).choose ["_law_pool", "_law_many"] (sp__law_draw K) :=
  FunD.ok (k := 3) (N := n__law_draw) (d__law_draw T).choose_spec sc__law_draw ln0__law_draw fun cdv A outer s H vs Q E hr h => ⟨t__law_draw K w, PSs.nox (pss_cons (ps_if (PW.pt (pw_or (pt_cmpR op_ge (pe_ix ix_lstH (pv 0) pe_int (fun _ _ => rfl)) (pe_callB call_lenL (by rfl) (free_len T) (by decide +kernel) (pa_cons (pe_ix ix_lstH (pv 0) pe_int (fun _ _ => rfl)) pa_nil)) (nomark _)) (pw_or1 (pt_cmpR op_eq (pv 1) pe_int (nomark _))))) (pss_one (ps_ret (pe_ifExp (pt_cmpR op_gt (pv 1) pe_int (nomark _)) (pe_fn (ok__law_mixed T) (hr.mono (by decide)) rfl (glo__law_mixed T) (kp__law_mixed T) pass0 (pa_cons (pv 0) (pa_cons (pv 1) pa_nil))) pe_int))) pss_nil)
  (pss_cons (ps_if (pt_cmpR op_lt (pe_ix ix_lstH (pe_ix ix_lstH (pv 0) pe_int (fun _ _ => rfl)) (pe_ix ix_lstH (pv 0) pe_int (fun _ _ => rfl)) (fun _ _ => rfl)) (pe_op op_pow pe_int pe_int) (nomark _)) (pss_cons (ps_asg (pe_op op_mod (pe_op op_add (pe_op op_add (pe_op op_add (pe_op op_mul (pe_ix ix_lstH (pv 0) pe_int (fun _ _ => rfl)) pe_int) (pe_ix ix_lstH (pe_ix ix_lstH (pv 0) pe_int (fun _ _ => rfl)) (pe_ix ix_lstH (pv 0) pe_int (fun _ _ => rfl)) (fun _ _ => rfl))) (pe_ix ix_lstH (pv 0) pe_int (fun _ _ => rfl))) pe_int) pe_int) (pg_sub (pv 0) pe_int set_list))
  (pss_cons (ps_asg (pe_op op_add (pe_ix ix_lstH (pv 0) pe_int (fun _ _ => rfl)) pe_int) (pg_sub (pv 0) pe_int set_list))
  (pss_cons (ps_if (pt_cmpR op_eq (pe_op op_mod (pe_ix ix_lstH (pv 0) pe_int (fun _ _ => rfl)) pe_int) pe_int (nomark _)) (pss_one (ps_asg (pe_op op_add (pe_ix ix_lstH (pv 0) pe_int (fun _ _ => rfl)) pe_int) (pg_sub (pv 0) pe_int set_list))) pss_nil)
  (pss_one (ps_ret (pe_fn (ok__law_mixed T) (hr.mono (by decide)) rfl (glo__law_mixed T) (kp__law_mixed T) pass0 (pa_cons (pv 0) (pa_cons (pv 1) pa_nil)))))))) pss_nil)
  (pss_cons (ps_set (i := 2) sc__law_draw.nd rfl (Or.inl rfl) (pe_op op_mod (pe_ix ix_lstH (pe_ix ix_lstH (pv 0) pe_int (fun _ _ => rfl)) (pe_ix ix_lstH (pv 0) pe_int (fun _ _ => rfl)) (fun _ _ => rfl)) (pv 1)))
  (pss_cons (ps_asg (pe_op op_fdivW (pe_ix ix_lstH (pe_ix ix_lstH (pv 0) pe_int (fun _ _ => rfl)) (pe_ix ix_lstH (pv 0) pe_int (fun _ _ => rfl)) (fun _ _ => rfl)) (pv 1)) (pg_sub (pe_ix ix_lstH (pv 0) pe_int (fun _ _ => rfl)) (pe_ix ix_lstH (pv 0) pe_int (fun _ _ => rfl)) set_list))
  (pss_cons (ps_if (pt_cmpR op_eq (pe_ix ix_lstH (pe_ix ix_lstH (pv 0) pe_int (fun _ _ => rfl)) (pe_ix ix_lstH (pv 0) pe_int (fun _ _ => rfl)) (fun _ _ => rfl)) pe_int (nomark _)) (pss_one (ps_asg (pe_op op_add (pe_ix ix_lstH (pv 0) pe_int (fun _ _ => rfl)) pe_int) (pg_sub (pv 0) pe_int set_list))) pss_nil)
  (pss_one (ps_ret (pv 2)))))))), rd__law_draw vs H Q E h⟩
theorem ok__law_draw (T : Tx K mg w) : FnR (PySem.Challenge.rw_timerwheels_k32_whole_journeys).prog w K mg base CX0 4 (ga K "_law_draw") (sp__law_draw K) :=
  fnR_of (okk__law_draw T) ((d__law_draw T).choose_spec.bindsN fun _ _ _ _ _ _ us hl => match us, hl with | [_, _], _ => rfl)
theorem kp__law_draw (T : Tx K mg w) : keepIn K (.ref (ga K "_law_draw")) = true := (d__law_draw T).choose_spec.kp
theorem sc__law_span : FnScope n__law_span ["_law_pool", "_law_grain", "_law_slots", "_law_low"] (defScope s__law_span) := ⟨rfl, rfl, rfl, by decide +kernel, rfl, by decide +kernel, by decide +kernel⟩
theorem ln0__law_span (vs : List V) (H : Hp) (Q : VK) (E : XK) (h : sp__law_span K vs H Q E) : vs.length = 4 := by
  unfold sp__law_span at h
  repeat (first | (exact (congrArg List.length h.1).trans rfl) | (obtain ⟨_, h⟩ := h))
theorem okk__law_span (T : Tx K mg w) : FnOk (PySem.Challenge.rw_timerwheels_k32_whole_journeys).prog w K mg base CX0 6 (ga K "_law_span") (d__law_span T).choose ["_law_pool", "_law_grain", "_law_slots", "_law_low"] (sp__law_span K) :=
  FunD.ok (k := 5) (N := n__law_span) (d__law_span T).choose_spec sc__law_span ln0__law_span fun cdv A outer s H vs Q E hr h => ⟨t__law_span K w, PSs.nox (pss_cons (ps_set (i := 4) sc__law_span.nd rfl (Or.inl rfl) (pe_op op_mul (pv 2) (pv 1)))
  (pss_cons (ps_set (i := 5) sc__law_span.nd rfl (Or.inl rfl) (pe_lst (pa_cons (pv 4) (pa_cons (pv 4) (pa_cons (pe_op op_add (pv 4) pe_int) (pa_cons (pe_op op_sub (pv 4) pe_int) (pa_cons (pe_op op_add (pe_op op_sub (pv 4) (pv 1)) pe_int) (pa_cons (pe_op op_add (pe_op op_sub (pv 4) (pv 1)) pe_int) (pa_cons (pe_op op_add (pe_op op_sub (pv 4) (pv 1)) pe_int) (pa_cons (pe_op op_mul pe_int (pv 4)) (pa_cons (pe_op op_add (pv 3) pe_int) pa_nil)))))))))))
  (pss_cons (ps_set (i := 5) sc__law_span.nd rfl (Or.inl rfl) (pe_op op_cat (pv 5) (pe_lst (pa_cons (pe_op op_add (pv 3) (pv 1)) (pa_cons (pe_op op_add (pe_op op_add (pv 3) pe_int) (pe_fn (ok__law_draw T) (hr.mono (by decide)) rfl (glo__law_draw T) (kp__law_draw T) pass0 (pa_cons (pv 0) (pa_cons (pe_op op_mul pe_int (pv 4)) pa_nil)))) pa_nil)))))
  (pss_cons (ps_set (i := 6) sc__law_span.nd rfl (Or.inl rfl) (pe_ix ix_lstH (pv 5) (pe_fn (ok__law_draw T) (hr.mono (by decide)) rfl (glo__law_draw T) (kp__law_draw T) pass0 (pa_cons (pv 0) (pa_cons pe_int pa_nil))) (fun _ _ => rfl)))
  (pss_one (ps_ret (pe_callB (call_max3Nu rfl) (by rfl) (free_max T) (by decide +kernel) (pa_cons (pe_callTy call_int1 (by rfl) (free_int T) (by decide +kernel) (pa_cons (pe_op op_add (pv 3) pe_int) pa_nil)) (pa_cons (pe_callTy call_int1 (by rfl) (free_int T) (by decide +kernel) (pa_cons (pe_callB (call_min2 rfl) (by rfl) (free_min T) (by decide +kernel) (pa_cons (pe_callTy call_int1 (by rfl) (free_int T) (by decide +kernel) (pa_cons (pe_op op_mul pe_int (pv 4)) pa_nil)) (pa_cons (pe_callTy call_int1 (by rfl) (free_int T) (by decide +kernel) (pa_cons (pv 6) pa_nil)) pa_nil))) pa_nil)) (pa_cons pe_int pa_nil)))))))))), rd__law_span vs H Q E h⟩
theorem ok__law_span (T : Tx K mg w) : FnR (PySem.Challenge.rw_timerwheels_k32_whole_journeys).prog w K mg base CX0 6 (ga K "_law_span") (sp__law_span K) :=
  fnR_of (okk__law_span T) ((d__law_span T).choose_spec.bindsN fun _ _ _ _ _ _ us hl => match us, hl with | [_, _, _, _], _ => rfl)
theorem kp__law_span (T : Tx K mg w) : keepIn K (.ref (ga K "_law_span")) = true := (d__law_span T).choose_spec.kp
theorem sc__law_draw_rows : FnScope n__law_draw_rows ["_law_pool", "_law_most_grain", "_law_most_slots", "_law_most_levels"] (defScope s__law_draw_rows) := ⟨rfl, rfl, rfl, by decide +kernel, rfl, by decide +kernel, by decide +kernel⟩
theorem ln0__law_draw_rows (vs : List V) (H : Hp) (Q : VK) (E : XK) (h : sp__law_draw_rows K vs H Q E) : vs.length = 4 := by
  unfold sp__law_draw_rows at h
  repeat (first | (exact (congrArg List.length h.1).trans rfl) | (obtain ⟨_, h⟩ := h))
theorem okk__law_draw_rows (T : Tx K mg w) : FnOk (PySem.Challenge.rw_timerwheels_k32_whole_journeys).prog w K mg base CX0 8 (ga K "_law_draw_rows") (d__law_draw_rows T).choose ["_law_pool", "_law_most_grain", "_law_most_slots", "_law_most_levels"] (sp__law_draw_rows K) :=
  FunD.ok (k := 7) (N := n__law_draw_rows) (d__law_draw_rows T).choose_spec sc__law_draw_rows ln0__law_draw_rows fun cdv A outer s H vs Q E hr h => ⟨t__law_draw_rows K w, PSs.nox (pss_cons (ps_par3 (i := 4) (j := 5) (l := 6) rfl sc__law_draw_rows.nd rfl rfl rfl (by decide) (by decide) (by decide) rfl rfl rfl (pa_cons (pe_lst pa_nil) (pa_cons pe_int (pa_cons pe_int pa_nil))) (by rfl))
  (pss_cons (ps_for PassesOwn.never rfl (pi_range1 rfl (free_range T) (pa_cons (pe_op op_add pe_int (pe_fn (ok__law_draw T) (hr.mono (by decide)) rfl (glo__law_draw T) (kp__law_draw T) pass0 (pa_cons (pv 0) (pa_cons (pv 3) pa_nil)))) pa_nil)) (pg_name (i := 7) sc__law_draw_rows.nd rfl (Or.inl rfl))
    (pss_cons (ps_if (pt_cmpR op_gt (pv 7) pe_int (nomark _)) (pss_one (ps_set (i := 5) sc__law_draw_rows.nd rfl (Or.inl rfl) (pe_op op_mul (pv 5) (pe_ix ix_lstH (pe_lst (pa_cons pe_int (pa_cons pe_int (pa_cons pe_int (pa_cons pe_int (pa_cons pe_int (pa_cons pe_int (pa_cons pe_int (pa_cons pe_int pa_nil))))))))) (pe_fn (ok__law_draw T) (hr.mono (by decide)) rfl (glo__law_draw T) (kp__law_draw T) pass0 (pa_cons (pv 0) (pa_cons pe_int pa_nil))) (fun _ _ => rfl))))) pss_nil)
  (pss_cons (ps_set (i := 8) sc__law_draw_rows.nd rfl (Or.inl rfl) (pe_op op_add pe_int (pe_fn (ok__law_draw T) (hr.mono (by decide)) rfl (glo__law_draw T) (kp__law_draw T) pass0 (pa_cons (pv 0) (pa_cons (pe_op op_sub (pv 2) pe_int) pa_nil)))))
  (pss_cons (ps_if (PW.pt (pw_or (pt_cmpR op_gt (pv 5) (pv 1) (nomark _)) (pw_or1 (pt_cmpR op_gt (pe_op op_add (pv 6) pe_int) (pe_op op_mul (pe_op op_mul pe_int (pv 8)) (pv 5)) (nomark _))))) (pss_one (ps_ret (pv 4))) pss_nil)
  (pss_cons (ps_set (i := 6) sc__law_draw_rows.nd rfl (Or.inl rfl) (pe_fn (ok__law_span T) (hr.mono (by decide)) rfl (glo__law_span T) (kp__law_span T) pass0 (pa_cons (pv 0) (pa_cons (pv 5) (pa_cons (pv 8) (pa_cons (pv 6) pa_nil))))))
  (pss_one (ps_expr (pe_bm PySem.F.plainAttrs_list PySem.F.slot_list_append PySem.F.type_list_append mt_append (pv 4) (pa_cons (pe_tup (pa_cons (pv 5) (pa_cons (pv 8) (pa_cons (pv 6) pa_nil)))) pa_nil)))))))))
  (pss_one (ps_ret (pv 4))))), rd__law_draw_rows vs H Q E h⟩
theorem ok__law_draw_rows (T : Tx K mg w) : FnR (PySem.Challenge.rw_timerwheels_k32_whole_journeys).prog w K mg base CX0 8 (ga K "_law_draw_rows") (sp__law_draw_rows K) :=
  fnR_of (okk__law_draw_rows T) ((d__law_draw_rows T).choose_spec.bindsN fun _ _ _ _ _ _ us hl => match us, hl with | [_, _, _, _], _ => rfl)
theorem kp__law_draw_rows (T : Tx K mg w) : keepIn K (.ref (ga K "_law_draw_rows")) = true := (d__law_draw_rows T).choose_spec.kp
theorem sc__law_draw_values : FnScope n__law_draw_values ["_law_pool"] (defScope s__law_draw_values) := ⟨rfl, rfl, rfl, by decide +kernel, rfl, by decide +kernel, by decide +kernel⟩
theorem ln0__law_draw_values (vs : List V) (H : Hp) (Q : VK) (E : XK) (h : sp__law_draw_values K vs H Q E) : vs.length = 1 := by
  unfold sp__law_draw_values at h
  repeat (first | (exact (congrArg List.length h.1).trans rfl) | (obtain ⟨_, h⟩ := h))
theorem okk__law_draw_values (T : Tx K mg w) : FnOk (PySem.Challenge.rw_timerwheels_k32_whole_journeys).prog w K mg base CX0 6 (ga K "_law_draw_values") (d__law_draw_values T).choose ["_law_pool"] (sp__law_draw_values K) :=
  FunD.ok (k := 5) (N := n__law_draw_values) (d__law_draw_values T).choose_spec sc__law_draw_values ln0__law_draw_values fun cdv A outer s H vs Q E hr h => ⟨t__law_draw_values K w, PSs.nox (pss_cons (ps_set (i := 1) sc__law_draw_values.nd rfl (Or.inl rfl) (pe_lst (pa_cons (pe_ix ix_lstH (pe_lst (pa_cons pe_str (pa_cons pe_str pa_nil))) (pe_fn (ok__law_draw T) (hr.mono (by decide)) rfl (glo__law_draw T) (kp__law_draw T) pass0 (pa_cons (pv 0) (pa_cons pe_int pa_nil))) (fun _ _ => rfl)) (pa_cons (pe_ix ix_lstH (pe_lst (pa_cons pe_str (pa_cons pe_str (pa_cons pe_str pa_nil)))) (pe_fn (ok__law_draw T) (hr.mono (by decide)) rfl (glo__law_draw T) (kp__law_draw T) pass0 (pa_cons (pv 0) (pa_cons pe_int pa_nil))) (fun _ _ => rfl)) pa_nil))))
  (pss_cons (ps_set (i := 1) sc__law_draw_values.nd rfl (Or.inl rfl) (pe_op op_cat (pv 1) (pe_lst (pa_cons (pe_ix ix_lstH (pe_lst (pa_cons pe_str (pa_cons pe_str pa_nil))) (pe_fn (ok__law_draw T) (hr.mono (by decide)) rfl (glo__law_draw T) (kp__law_draw T) pass0 (pa_cons (pv 0) (pa_cons pe_int pa_nil))) (fun _ _ => rfl)) (pa_cons (pe_ix ix_lstH (pe_lst (pa_cons pe_str (pa_cons pe_str pa_nil))) (pe_fn (ok__law_draw T) (hr.mono (by decide)) rfl (glo__law_draw T) (kp__law_draw T) pass0 (pa_cons (pv 0) (pa_cons pe_int pa_nil))) (fun _ _ => rfl)) pa_nil)))))
  (pss_one (ps_ret (pe_op op_cat (pv 1) (pe_lst (pa_cons (pe_ix ix_lstH (pe_lst (pa_cons pe_str (pa_cons pe_str pa_nil))) (pe_fn (ok__law_draw T) (hr.mono (by decide)) rfl (glo__law_draw T) (kp__law_draw T) pass0 (pa_cons (pv 0) (pa_cons pe_int pa_nil))) (fun _ _ => rfl)) (pa_cons (pe_ix ix_lstH (pe_lst (pa_cons pe_str (pa_cons pe_str (pa_cons pe_str pa_nil)))) (pe_fn (ok__law_draw T) (hr.mono (by decide)) rfl (glo__law_draw T) (kp__law_draw T) pass0 (pa_cons (pv 0) (pa_cons pe_int pa_nil))) (fun _ _ => rfl)) pa_nil)))))))), rd__law_draw_values vs H Q E h⟩
theorem ok__law_draw_values (T : Tx K mg w) : FnR (PySem.Challenge.rw_timerwheels_k32_whole_journeys).prog w K mg base CX0 6 (ga K "_law_draw_values") (sp__law_draw_values K) :=
  fnR_of (okk__law_draw_values T) ((d__law_draw_values T).choose_spec.bindsN fun _ _ _ _ _ _ us hl => match us, hl with | [_], _ => rfl)
theorem kp__law_draw_values (T : Tx K mg w) : keepIn K (.ref (ga K "_law_draw_values")) = true := (d__law_draw_values T).choose_spec.kp
theorem sc_Level_grain : FnScope n_Level_grain ["self"] (defScope s_Level_grain) := ⟨rfl, rfl, rfl, by decide +kernel, rfl, by decide +kernel, by decide +kernel⟩
theorem ln0_Level_grain (vs : List V) (H : Hp) (Q : VK) (E : XK) (h : sp_Level_grain K vs H Q E) : vs.length = 1 := by
  unfold sp_Level_grain at h
  repeat (first | (exact (congrArg List.length h.1).trans rfl) | (obtain ⟨_, h⟩ := h))
theorem okk_Level_grain (T : Tx K mg w) : FnOk (PySem.Challenge.rw_timerwheels_k32_whole_journeys).prog w K mg base CX0 2 (pa K (ga K "Level") "grain") (d_Level_grain T).choose ["self"] (sp_Level_grain K) :=
  FunD.ok (k := 1) (N := n_Level_grain) (d_Level_grain T).choose_spec sc_Level_grain ln0_Level_grain fun cdv A outer s H vs Q E hr h => ⟨t_Level_grain K w, PSs.nox (pss_one (ps_ret (pe_fld (pv 0) rfl))), rd_Level_grain (klv T) vs H Q E h⟩
theorem ok_Level_grain (T : Tx K mg w) : FnR (PySem.Challenge.rw_timerwheels_k32_whole_journeys).prog w K mg base CX0 2 (pa K (ga K "Level") "grain") (sp_Level_grain K) :=
  fnR_of (okk_Level_grain T) ((d_Level_grain T).choose_spec.bindsN fun _ _ _ _ _ _ us hl => match us, hl with | [_], _ => rfl)
theorem sc_Level_span : FnScope n_Level_span ["self"] (defScope s_Level_span) := ⟨rfl, rfl, rfl, by decide +kernel, rfl, by decide +kernel, by decide +kernel⟩
theorem ln0_Level_span (vs : List V) (H : Hp) (Q : VK) (E : XK) (h : sp_Level_span K vs H Q E) : vs.length = 1 := by
  unfold sp_Level_span at h
  repeat (first | (exact (congrArg List.length h.1).trans rfl) | (obtain ⟨_, h⟩ := h))
theorem okk_Level_span (T : Tx K mg w) : FnOk (PySem.Challenge.rw_timerwheels_k32_whole_journeys).prog w K mg base CX0 2 (pa K (ga K "Level") "span") (d_Level_span T).choose ["self"] (sp_Level_span K) :=
  FunD.ok (k := 1) (N := n_Level_span) (d_Level_span T).choose_spec sc_Level_span ln0_Level_span fun cdv A outer s H vs Q E hr h => ⟨t_Level_span K w, PSs.nox (pss_one (ps_ret (pe_fld (pv 0) rfl))), rd_Level_span (klv T) vs H Q E h⟩
theorem ok_Level_span (T : Tx K mg w) : FnR (PySem.Challenge.rw_timerwheels_k32_whole_journeys).prog w K mg base CX0 2 (pa K (ga K "Level") "span") (sp_Level_span K) :=
  fnR_of (okk_Level_span T) ((d_Level_span T).choose_spec.bindsN fun _ _ _ _ _ _ us hl => match us, hl with | [_], _ => rfl)
theorem sc_are_levels : FnScope n_are_levels ["levels"] (defScope s_are_levels) := ⟨rfl, rfl, rfl, by decide +kernel, rfl, by decide +kernel, by decide +kernel⟩
theorem ln0_are_levels (vs : List V) (H : Hp) (Q : VK) (E : XK) (h : sp_are_levels K vs H Q E) : vs.length = 1 := by
  unfold sp_are_levels at h
  repeat (first | (exact (congrArg List.length h.1).trans rfl) | (obtain ⟨_, h⟩ := h))
theorem okk_are_levels (T : Tx K mg w) : FnOk (PySem.Challenge.rw_timerwheels_k32_whole_journeys).prog w K mg base CX0 4 (ga K "are_levels") (d_are_levels T).choose ["levels"] (sp_are_levels K) :=
  FunD.ok (k := 3) (N := n_are_levels) (d_are_levels T).choose_spec sc_are_levels ln0_are_levels fun cdv A outer s H vs Q E hr h => ⟨t_are_levels K w, PSs.nox (pss_cons (ps_if (PW.pt (pw_or (pt_not (pt_chain op_le op_le pe_int (pe_callB call_lenT (by rfl) (free_len T) (by decide +kernel) (pa_cons (pv 0) pa_nil)) (pe_glob rfl (int_MOST_LEVELS T).choose_spec ⟨_, rfl⟩))) (pw_or1 (pt_not (pt_val (pe_callB (cr_all rfl) (by rfl) (free_all T) (by decide +kernel) (pa_cons (pe_lc (own := [("level", 1)]) (g := (gName 1)) (tt := tYes) rfl sc_are_levels.nd (pi_tup (pv 0)) (blkOk_by (own := [("level", 1)]) (N := ["levels", "level", "one", "other"]) (sc := defScope s_are_levels) (by decide +kernel)) (fun _ _ _ _ _ => (pg_name (i := 1) sc_are_levels.nd rfl (Or.inl rfl))) (fun _ _ _ _ _ => pts_nil) (fun _ _ _ _ _ => (pe_callB call_isi (by rfl) (free_isinstance T) (by decide +kernel) (pa_cons (pv 1) (pa_cons (pe_glob rfl (glo_Level T) rfl) pa_nil))))) pa_nil))))))) (pss_one (ps_ret pe_bl)) pss_nil)
  (pss_cons (ps_if (pt_cmpR op_ne (pe_propF (pe_ix ix_tupH (pv 0) pe_int (fun _ _ => rfl)) (cls_Level T) (pr_Level_grain T) (ok_Level_grain T) (hr.mono (by decide)) pass0 (in_Level_grain K)) pe_int (nomark _)) (pss_one (ps_ret pe_bl)) pss_nil)
  (pss_cons (ps_for PassesOwn.never rfl (RZ.pi_zipA rfl (free_zip T) (pa_cons (pv 0) (pa_cons (pe_slice sl_tup (pv 0) (po_some pe_int) po_none) pa_nil))) (pg_tup rfl (pgs_cons (pg_name (i := 2) sc_are_levels.nd rfl (Or.inl rfl)) (pgs_cons (pg_name (i := 3) sc_are_levels.nd rfl (Or.inl rfl)) pgs_nil)))
    (pss_one (ps_if (PW.pt (pw_or (pt_cmpR op_ne (pe_op op_mod (pe_propF (pv 3) (cls_Level T) (pr_Level_grain T) (ok_Level_grain T) (hr.mono (by decide)) pass0 (in_Level_grain K)) (pe_propF (pv 2) (cls_Level T) (pr_Level_grain T) (ok_Level_grain T) (hr.mono (by decide)) pass0 (in_Level_grain K))) pe_int (nomark _)) (pw_or1 (pt_cmpR op_le (pe_propF (pv 3) (cls_Level T) (pr_Level_span T) (ok_Level_span T) (hr.mono (by decide)) pass0 (in_Level_span K)) (pe_propF (pv 2) (cls_Level T) (pr_Level_span T) (ok_Level_span T) (hr.mono (by decide)) pass0 (in_Level_span K)) (nomark _))))) (pss_one (ps_ret pe_bl)) pss_nil)))
  (pss_one (ps_ret pe_bl))))), rd_are_levels (kl T) vs H Q E h⟩
theorem ok_are_levels (T : Tx K mg w) : FnR (PySem.Challenge.rw_timerwheels_k32_whole_journeys).prog w K mg base CX0 4 (ga K "are_levels") (sp_are_levels K) :=
  fnR_of (okk_are_levels T) ((d_are_levels T).choose_spec.bindsN fun _ _ _ _ _ _ us hl => match us, hl with | [_], _ => rfl)
theorem kp_are_levels (T : Tx K mg w) : keepIn K (.ref (ga K "are_levels")) = true := (d_are_levels T).choose_spec.kp
theorem sc_Wheel___init__ : FnScope n_Wheel___init__ ((["self"] : List PySem.Str) ++ (["levels"] : List PySem.Str)) (defScope s_Wheel___init__) := ⟨rfl, rfl, rfl, by decide +kernel, rfl, by decide +kernel, by decide +kernel⟩
theorem ok_Wheel___init__ (T : Tx K mg w) : FnR (PySem.Challenge.rw_timerwheels_k32_whole_journeys).prog w K mg base CX0 6 (ma K (ga K "Wheel") "__init__") (sp_Wheel___init__ K) := by
  obtain ⟨fd, F⟩ := d_Wheel___init__ T
  obtain ⟨oc, od, dV, kV, doc, pm, an, cdv, ct, osl, rfl, lk, hcd, hD, _⟩ := F.ex
  rcases hD with ⟨_, rfl⟩ | ⟨e, _⟩
  · exact StX.fn_star (k := 5) (N := n_Wheel___init__) (ps := ["self"]) (pv := "levels") (sp := sq_Wheel___init__ K) lk hcd sc_Wheel___init__ StX.cxUp_none (fun us rest hl => match us, hl, rest with | [_], _, [] => rfl | [_], _, _ :: _ => rfl) fun A outer s H vs Q E hr h => ⟨t_Wheel___init__ K w, PSs.nox (pss_cons (ps_if (pt_not (pt_val (pe_fn (ok_are_levels T) (hr.mono (by decide)) rfl (glo_are_levels T) (kp_are_levels T) pass0 (pa_cons (pv 1) pa_nil)))) (pss_one ps_never) pss_nil)
  (pss_one (ps_fld (pv 0) (pe_callTy call_tupleT (by rfl) (free_tuple T) (by decide +kernel) (pa_cons (pv 1) pa_nil)) rfl))), rd_Wheel___init__ (kl T) vs H Q E h⟩
  · exact absurd rfl e
theorem sc__law_wheel_of : FnScope n__law_wheel_of ["_law_some"] (defScope s__law_wheel_of) := ⟨rfl, rfl, rfl, by decide +kernel, rfl, by decide +kernel, by decide +kernel⟩
theorem ln0__law_wheel_of (vs : List V) (H : Hp) (Q : VK) (E : XK) (h : sp__law_wheel_of K vs H Q E) : vs.length = 1 := by
  unfold sp__law_wheel_of at h
  repeat (first | (exact (congrArg List.length h.1).trans rfl) | (obtain ⟨_, h⟩ := h))
theorem okk__law_wheel_of (T : Tx K mg w) : FnOk (PySem.Challenge.rw_timerwheels_k32_whole_journeys).prog w K mg base CX0 8 (ga K "_law_wheel_of") (d__law_wheel_of T).choose ["_law_some"] (sp__law_wheel_of K) :=
  FunD.ok (k := 7) (N := n__law_wheel_of) (d__law_wheel_of T).choose_spec sc__law_wheel_of ln0__law_wheel_of fun cdv A outer s H vs Q E hr h => ⟨t__law_wheel_of K w, PSs.nox (pss_cons (ps_if (pt_cmpR op_eq (pe_callB call_lenL (by rfl) (free_len T) (by decide +kernel) (pa_cons (pv 0) pa_nil)) pe_int (nomark _)) (pss_one (ps_ret (StX.pe_makeR (mk_Wheel T) (ok_Wheel___init__ T) (hr.mono (by decide)) rfl (glo_Wheel T) pass0 (pa_cons (pe_ix ix_lstH (pv 0) pe_int (fun _ _ => rfl)) pa_nil)))) pss_nil)
  (pss_cons (ps_if (pt_cmpR op_eq (pe_callB call_lenL (by rfl) (free_len T) (by decide +kernel) (pa_cons (pv 0) pa_nil)) pe_int (nomark _)) (pss_one (ps_ret (StX.pe_makeR (mk_Wheel T) (ok_Wheel___init__ T) (hr.mono (by decide)) rfl (glo_Wheel T) pass0 (pa_cons (pe_ix ix_lstH (pv 0) pe_int (fun _ _ => rfl)) (pa_cons (pe_ix ix_lstH (pv 0) pe_int (fun _ _ => rfl)) pa_nil))))) pss_nil)
  (pss_cons (ps_if (pt_cmpR op_eq (pe_callB call_lenL (by rfl) (free_len T) (by decide +kernel) (pa_cons (pv 0) pa_nil)) pe_int (nomark _)) (pss_one (ps_ret (StX.pe_makeR (mk_Wheel T) (ok_Wheel___init__ T) (hr.mono (by decide)) rfl (glo_Wheel T) pass0 (pa_cons (pe_ix ix_lstH (pv 0) pe_int (fun _ _ => rfl)) (pa_cons (pe_ix ix_lstH (pv 0) pe_int (fun _ _ => rfl)) (pa_cons (pe_ix ix_lstH (pv 0) pe_int (fun _ _ => rfl)) pa_nil)))))) pss_nil)
  (pss_cons (ps_if (pt_cmpR op_eq (pe_callB call_lenL (by rfl) (free_len T) (by decide +kernel) (pa_cons (pv 0) pa_nil)) pe_int (nomark _)) (pss_one (ps_ret (StX.pe_makeR (mk_Wheel T) (ok_Wheel___init__ T) (hr.mono (by decide)) rfl (glo_Wheel T) pass0 (pa_cons (pe_ix ix_lstH (pv 0) pe_int (fun _ _ => rfl)) (pa_cons (pe_ix ix_lstH (pv 0) pe_int (fun _ _ => rfl)) (pa_cons (pe_ix ix_lstH (pv 0) pe_int (fun _ _ => rfl)) (pa_cons (pe_ix ix_lstH (pv 0) pe_int (fun _ _ => rfl)) pa_nil))))))) pss_nil)
  (pss_cons (ps_if (pt_cmpR op_eq (pe_callB call_lenL (by rfl) (free_len T) (by decide +kernel) (pa_cons (pv 0) pa_nil)) pe_int (nomark _)) (pss_one (ps_ret (StX.pe_makeR (mk_Wheel T) (ok_Wheel___init__ T) (hr.mono (by decide)) rfl (glo_Wheel T) pass0 (pa_cons (pe_ix ix_lstH (pv 0) pe_int (fun _ _ => rfl)) (pa_cons (pe_ix ix_lstH (pv 0) pe_int (fun _ _ => rfl)) (pa_cons (pe_ix ix_lstH (pv 0) pe_int (fun _ _ => rfl)) (pa_cons (pe_ix ix_lstH (pv 0) pe_int (fun _ _ => rfl)) (pa_cons (pe_ix ix_lstH (pv 0) pe_int (fun _ _ => rfl)) pa_nil)))))))) pss_nil)
  (pss_one (ps_ret (pe_ifExp (pt_cmpR op_gt (pe_callB call_lenL (by rfl) (free_len T) (by decide +kernel) (pa_cons (pv 0) pa_nil)) pe_int (nomark _)) (StX.pe_makeR (mk_Wheel T) (ok_Wheel___init__ T) (hr.mono (by decide)) rfl (glo_Wheel T) pass0 (pa_cons (pe_ix ix_lstH (pv 0) pe_int (fun _ _ => rfl)) (pa_cons (pe_ix ix_lstH (pv 0) pe_int (fun _ _ => rfl)) (pa_cons (pe_ix ix_lstH (pv 0) pe_int (fun _ _ => rfl)) (pa_cons (pe_ix ix_lstH (pv 0) pe_int (fun _ _ => rfl)) (pa_cons (pe_ix ix_lstH (pv 0) pe_int (fun _ _ => rfl)) (pa_cons (pe_ix ix_lstH (pv 0) pe_int (fun _ _ => rfl)) pa_nil))))))) (Tw.pe_makeR0 (mk_Wheel T) (ok_Wheel___init__ T) (hr.mono (by decide)) rfl (glo_Wheel T) pass0))))))))), rd__law_wheel_of vs H Q E h⟩
theorem ok__law_wheel_of (T : Tx K mg w) : FnR (PySem.Challenge.rw_timerwheels_k32_whole_journeys).prog w K mg base CX0 8 (ga K "_law_wheel_of") (sp__law_wheel_of K) :=
  fnR_of (okk__law_wheel_of T) ((d__law_wheel_of T).choose_spec.bindsN fun _ _ _ _ _ _ us hl => match us, hl with | [_], _ => rfl)
theorem kp__law_wheel_of (T : Tx K mg w) : keepIn K (.ref (ga K "_law_wheel_of")) = true := (d__law_wheel_of T).choose_spec.kp
theorem sc_is_integer : FnScope n_is_integer ["value"] (defScope s_is_integer) := ⟨rfl, rfl, rfl, by decide +kernel, rfl, by decide +kernel, by decide +kernel⟩
theorem ln0_is_integer (vs : List V) (H : Hp) (Q : VK) (E : XK) (h : sp_is_integer K vs H Q E) : vs.length = 1 := by
  unfold sp_is_integer at h
  repeat (first | (exact (congrArg List.length h.1).trans rfl) | (obtain ⟨_, h⟩ := h))
theorem okk_is_integer (T : Tx K mg w) : FnOk (PySem.Challenge.rw_timerwheels_k32_whole_journeys).prog w K mg base CX0 2 (ga K "is_integer") (d_is_integer T).choose ["value"] (sp_is_integer K) :=
  FunD.ok (k := 1) (N := n_is_integer) (d_is_integer T).choose_spec sc_is_integer ln0_is_integer fun cdv A outer s H vs Q E hr h => ⟨t_is_integer K w, PSs.nox (pss_one (ps_ret (pe_and (pe_callB call_isi (by rfl) (free_isinstance T) (by decide +kernel) (pa_cons (pv 0) (pa_cons (pe_bltn (v := .ty "int") (by rfl) (free_int T) (by decide +kernel) rfl) pa_nil))) (pe_one (pe_not (pe_callB call_isi (by rfl) (free_isinstance T) (by decide +kernel) (pa_cons (pv 0) (pa_cons (pe_bltn (v := .ty "bool") (by rfl) (free_bool T) (by decide +kernel) rfl) pa_nil)))))))), rd_is_integer vs H Q E h⟩
theorem ok_is_integer (T : Tx K mg w) : FnR (PySem.Challenge.rw_timerwheels_k32_whole_journeys).prog w K mg base CX0 2 (ga K "is_integer") (sp_is_integer K) :=
  fnR_of (okk_is_integer T) ((d_is_integer T).choose_spec.bindsN fun _ _ _ _ _ _ us hl => match us, hl with | [_], _ => rfl)
theorem kp_is_integer (T : Tx K mg w) : keepIn K (.ref (ga K "is_integer")) = true := (d_is_integer T).choose_spec.kp
theorem sc_is_within : FnScope n_is_within ["value", "low", "high"] (defScope s_is_within) := ⟨rfl, rfl, rfl, by decide +kernel, rfl, by decide +kernel, by decide +kernel⟩
theorem ln0_is_within (vs : List V) (H : Hp) (Q : VK) (E : XK) (h : sp_is_within K vs H Q E) : vs.length = 3 := by
  unfold sp_is_within at h
  repeat (first | (exact (congrArg List.length h.1).trans rfl) | (obtain ⟨_, h⟩ := h))
theorem okk_is_within (T : Tx K mg w) : FnOk (PySem.Challenge.rw_timerwheels_k32_whole_journeys).prog w K mg base CX0 4 (ga K "is_within") (d_is_within T).choose ["value", "low", "high"] (sp_is_within K) :=
  FunD.ok (k := 3) (N := n_is_within) (d_is_within T).choose_spec sc_is_within ln0_is_within fun cdv A outer s H vs Q E hr h => ⟨t_is_within K w, PSs.nox (pss_one (ps_ret (pe_and (pe_fn (ok_is_integer T) (hr.mono (by decide)) rfl (glo_is_integer T) (kp_is_integer T) pass0 (pa_cons (pv 0) pa_nil)) (pe_one (pe_chain op_le op_le (pv 1) (pv 0) (pv 2)))))), rd_is_within vs H Q E h⟩
theorem ok_is_within (T : Tx K mg w) : FnR (PySem.Challenge.rw_timerwheels_k32_whole_journeys).prog w K mg base CX0 4 (ga K "is_within") (sp_is_within K) :=
  fnR_of (okk_is_within T) ((d_is_within T).choose_spec.bindsN fun _ _ _ _ _ _ us hl => match us, hl with | [_, _, _], _ => rfl)
theorem kp_is_within (T : Tx K mg w) : keepIn K (.ref (ga K "is_within")) = true := (d_is_within T).choose_spec.kp
theorem sc_Level___init__ : FnScope n_Level___init__ ["self", "grain", "slots", "span"] (defScope s_Level___init__) := ⟨rfl, rfl, rfl, by decide +kernel, rfl, by decide +kernel, by decide +kernel⟩
theorem ln0_Level___init__ (vs : List V) (H : Hp) (Q : VK) (E : XK) (h : sp_Level___init__ K vs H Q E) : vs.length = 4 := by
  unfold sp_Level___init__ at h
  repeat (first | (exact (congrArg List.length h.1).trans rfl) | (obtain ⟨_, h⟩ := h))
theorem okk_Level___init__ (T : Tx K mg w) : FnOk (PySem.Challenge.rw_timerwheels_k32_whole_journeys).prog w K mg base CX0 6 (ma K (ga K "Level") "__init__") (d_Level___init__ T).choose ["self", "grain", "slots", "span"] (sp_Level___init__ K) :=
  FunD.ok (k := 5) (N := n_Level___init__) (d_Level___init__ T).choose_spec sc_Level___init__ ln0_Level___init__ fun cdv A outer s H vs Q E hr h => ⟨t_Level___init__ K w, PSs.nox (pss_cons (ps_if (pt_not (pt_val (pe_fn (ok_is_within T) (hr.mono (by decide)) rfl (glo_is_within T) (kp_is_within T) pass0 (pa_cons (pv 1) (pa_cons pe_int (pa_cons (pe_glob rfl (int_MOST_GRAIN T).choose_spec ⟨_, rfl⟩) pa_nil)))))) (pss_one ps_never) pss_nil)
  (pss_cons (ps_if (pt_not (pt_val (pe_fn (ok_is_within T) (hr.mono (by decide)) rfl (glo_is_within T) (kp_is_within T) pass0 (pa_cons (pv 2) (pa_cons pe_int (pa_cons (pe_glob rfl (int_MOST_SLOTS T).choose_spec ⟨_, rfl⟩) pa_nil)))))) (pss_one ps_never) pss_nil)
  (pss_cons (ps_if (PW.pt (pw_and (pt_cmpR op_notN (pv 3) pe_non (nomark _)) (pw_and1 (pt_not (pt_val (pe_fn (ok_is_within T) (hr.mono (by decide)) rfl (glo_is_within T) (kp_is_within T) pass0 (pa_cons (pv 3) (pa_cons pe_int (pa_cons (pe_op op_mul (pe_op op_mul (pe_glob rfl (int_MOST_TURNS T).choose_spec ⟨_, rfl⟩) (pv 2)) (pv 1)) pa_nil))))))))) (pss_one ps_never) pss_nil)
  (pss_cons (ps_fld (pv 0) (pv 1) rfl)
  (pss_cons (ps_fld (pv 0) (pv 2) rfl)
  (pss_one (ps_fld (pv 0) (pe_ifExp (pt_cmpR op_isN (pv 3) pe_non (nomark _)) (pe_op op_mul (pv 2) (pv 1)) (pv 3)) rfl))))))), rd_Level___init__ (klv T) vs H Q E h⟩
theorem kb_Level_span (T : Tx K mg w) : ∃ g, KBn K (d_Level___init__ T).choose ["self", "grain", "slots", "span"] 3 ["span"] g gV_Level_span := by
  obtain ⟨mv, h⟩ := (d_Level___init__ T).choose_spec.kbinds0 (ps := ["self", "grain", "slots", "span"]) 3 ["span"] [] (fun us mv ws => us ++ ws) (fun z => by cases z) (fun q z => by cases z) (fun r _ z => r.append z) (fun D doc pm an cdv ct us mv ws l1 l2 l3 => match us, l1, mv, l2, ws, l3 with | [_, _, _], _, [], _, [_], _ => rfl)
  exact ⟨_, h⟩
theorem sc__law_made_wheel : FnScope n__law_made_wheel ["_law_rows"] (defScope s__law_made_wheel) := ⟨rfl, rfl, rfl, by decide +kernel, rfl, by decide +kernel, by decide +kernel⟩
theorem ln0__law_made_wheel (vs : List V) (H : Hp) (Q : VK) (E : XK) (h : sp__law_made_wheel K vs H Q E) : vs.length = 1 := by
  unfold sp__law_made_wheel at h
  repeat (first | (exact (congrArg List.length h.1).trans rfl) | (obtain ⟨_, h⟩ := h))
theorem okk__law_made_wheel (T : Tx K mg w) : FnOk (PySem.Challenge.rw_timerwheels_k32_whole_journeys).prog w K mg base CX0 10 (ga K "_law_made_wheel") (d__law_made_wheel T).choose ["_law_rows"] (sp__law_made_wheel K) :=
  FunD.ok (k := 9) (N := n__law_made_wheel) (d__law_made_wheel T).choose_spec sc__law_made_wheel ln0__law_made_wheel fun cdv A outer s H vs Q E hr h => ⟨t__law_made_wheel K w, PSs.nox (pss_one (ps_ret (pe_fn (ok__law_wheel_of T) (hr.mono (by decide)) rfl (glo__law_wheel_of T) (kp__law_wheel_of T) pass0 (pa_cons (pe_lc (own := [("_law_grain", 1), ("_law_slots", 2), ("_law_size", 3)]) (g := (gTup K 3 (gCons (gName 1) (gCons (gName 2) (gCons (gName 3) gNil))))) (tt := tYes) rfl sc__law_made_wheel.nd (pi_list (pv 0)) (blkOk_by (own := [("_law_grain", 1), ("_law_slots", 2), ("_law_size", 3)]) (N := ["_law_rows", "_law_grain", "_law_slots", "_law_size"]) (sc := defScope s__law_made_wheel) (by decide +kernel)) (fun _ _ _ _ _ => (pg_tup rfl (pgs_cons (pg_name (i := 1) sc__law_made_wheel.nd rfl (Or.inl rfl)) (pgs_cons (pg_name (i := 2) sc__law_made_wheel.nd rfl (Or.inl rfl)) (pgs_cons (pg_name (i := 3) sc__law_made_wheel.nd rfl (Or.inl rfl)) pgs_nil))))) (fun _ _ _ _ _ => pts_nil) (fun _ _ _ _ _ => (pe_makeK (n := 2) (ks := ["span"]) (mk_Level T) (okk_Level___init__ T) (hr.mono (by decide)) rfl (glo_Level T) (kb_Level_span T).choose_spec pass0 (pa_cons (pv 1) (pa_cons (pv 2) pa_nil)) (pk_cons (pv 3) pk_nil)))) pa_nil)))), rd__law_made_wheel vs H Q E h⟩
theorem ok__law_made_wheel (T : Tx K mg w) : FnR (PySem.Challenge.rw_timerwheels_k32_whole_journeys).prog w K mg base CX0 10 (ga K "_law_made_wheel") (sp__law_made_wheel K) :=
  fnR_of (okk__law_made_wheel T) ((d__law_made_wheel T).choose_spec.bindsN fun _ _ _ _ _ _ us hl => match us, hl with | [_], _ => rfl)
theorem kp__law_made_wheel (T : Tx K mg w) : keepIn K (.ref (ga K "_law_made_wheel")) = true := (d__law_made_wheel T).choose_spec.kp
theorem sc_is_value : FnScope n_is_value ["switch", "value"] (defScope s_is_value) := ⟨rfl, rfl, rfl, by decide +kernel, rfl, by decide +kernel, by decide +kernel⟩
theorem ln0_is_value (vs : List V) (H : Hp) (Q : VK) (E : XK) (h : sp_is_value K vs H Q E) : vs.length = 2 := by
  unfold sp_is_value at h
  repeat (first | (exact (congrArg List.length h.1).trans rfl) | (obtain ⟨_, h⟩ := h))
theorem okk_is_value (T : Tx K mg w) : FnOk (PySem.Challenge.rw_timerwheels_k32_whole_journeys).prog w K mg base CX0 2 (ga K "is_value") (d_is_value T).choose ["switch", "value"] (sp_is_value K) :=
  FunD.ok (k := 1) (N := n_is_value) (d_is_value T).choose_spec sc_is_value ln0_is_value fun cdv A outer s H vs Q E hr h => ⟨t_is_value K w, PSs.nox (pss_one (ps_ret (pe_and (pe_callB call_isi (by rfl) (free_isinstance T) (by decide +kernel) (pa_cons (pv 1) (pa_cons (pe_bltn (v := .ty "str") (by rfl) (free_str T) (by decide +kernel) rfl) pa_nil))) (pe_one (pe_cmpR op_in_seq (pv 1) (pe_ix ix_kdict (pe_glob rfl (glo_VALUES T) rfl) (pv 0) (fun _ _ => rfl)) (by rfl)))))), rd_is_value (kf T) vs H Q E h⟩
theorem ok_is_value (T : Tx K mg w) : FnR (PySem.Challenge.rw_timerwheels_k32_whole_journeys).prog w K mg base CX0 2 (ga K "is_value") (sp_is_value K) :=
  fnR_of (okk_is_value T) ((d_is_value T).choose_spec.bindsN fun _ _ _ _ _ _ us hl => match us, hl with | [_, _], _ => rfl)
theorem kp_is_value (T : Tx K mg w) : keepIn K (.ref (ga K "is_value")) = true := (d_is_value T).choose_spec.kp
theorem sc_Book___init__ : FnScope n_Book___init__ ["self", "rounding", "action", "order", "due", "zero", "beyond"] (defScope s_Book___init__) := ⟨rfl, rfl, rfl, by decide +kernel, rfl, by decide +kernel, by decide +kernel⟩
theorem ln0_Book___init__ (vs : List V) (H : Hp) (Q : VK) (E : XK) (h : sp_Book___init__ K vs H Q E) : vs.length = 7 := by
  unfold sp_Book___init__ at h
  repeat (first | (exact (congrArg List.length h.1).trans rfl) | (obtain ⟨_, h⟩ := h))
theorem okk_Book___init__ (T : Tx K mg w) : FnOk (PySem.Challenge.rw_timerwheels_k32_whole_journeys).prog w K mg base CX0 4 (ma K (ga K "Book") "__init__") (d_Book___init__ T).choose ["self", "rounding", "action", "order", "due", "zero", "beyond"] (sp_Book___init__ K) :=
  FunD.ok (k := 3) (N := n_Book___init__) (d_Book___init__ T).choose_spec sc_Book___init__ ln0_Book___init__ fun cdv A outer s H vs Q E hr h => ⟨t_Book___init__ K w, PSs.nox (pss_cons (ps_set (i := 7) sc_Book___init__.nd rfl (Or.inl rfl) (pe_tup (pa_cons (pv 1) (pa_cons (pv 2) (pa_cons (pv 3) (pa_cons (pv 4) (pa_cons (pv 5) (pa_cons (pv 6) pa_nil))))))))
  (pss_cons (ps_for PassesOwn.never rfl (RZ.pi_zipA rfl (free_zip T) (pa_cons (pe_glob rfl (glo_SWITCHES T) rfl) (pa_cons (pv 7) pa_nil))) (pg_tup rfl (pgs_cons (pg_name (i := 8) sc_Book___init__.nd rfl (Or.inl rfl)) (pgs_cons (pg_name (i := 9) sc_Book___init__.nd rfl (Or.inl rfl)) pgs_nil)))
    (pss_one (ps_if (pt_not (pt_val (pe_fn (ok_is_value T) (hr.mono (by decide)) rfl (glo_is_value T) (kp_is_value T) pass0 (pa_cons (pv 8) (pa_cons (pv 9) pa_nil))))) (pss_one ps_never) pss_nil)))
  (pss_one (ps_fld (pv 0) (pv 7) rfl)))), rd_Book___init__ (kf T) vs H Q E h⟩
theorem kb_Book_rounding_action_order_due_zero_beyond (T : Tx K mg w) : ∃ g, KBn K (d_Book___init__ T).choose ["self", "rounding", "action", "order", "due", "zero", "beyond"] 1 ["rounding", "action", "order", "due", "zero", "beyond"] g gV_Book_rounding_action_order_due_zero_beyond := by
  obtain ⟨mv, h⟩ := (d_Book___init__ T).choose_spec.kbinds0 (ps := ["self", "rounding", "action", "order", "due", "zero", "beyond"]) 1 ["rounding", "action", "order", "due", "zero", "beyond"] [] (fun us mv ws => us ++ ws) (fun z => by cases z) (fun q z => by cases z) (fun r _ z => r.append z) (fun D doc pm an cdv ct us mv ws l1 l2 l3 => match us, l1, mv, l2, ws, l3 with | [_], _, [], _, [_, _, _, _, _, _], _ => rfl)
  exact ⟨_, h⟩
theorem sc_book_of : FnScope n_book_of ["values"] (defScope s_book_of) := ⟨rfl, rfl, rfl, by decide +kernel, rfl, by decide +kernel, by decide +kernel⟩
theorem ln0_book_of (vs : List V) (H : Hp) (Q : VK) (E : XK) (h : sp_book_of K vs H Q E) : vs.length = 1 := by
  unfold sp_book_of at h
  repeat (first | (exact (congrArg List.length h.1).trans rfl) | (obtain ⟨_, h⟩ := h))
theorem okk_book_of (T : Tx K mg w) : FnOk (PySem.Challenge.rw_timerwheels_k32_whole_journeys).prog w K mg base CX0 6 (ga K "book_of") (d_book_of T).choose ["values"] (sp_book_of K) :=
  FunD.ok (k := 5) (N := n_book_of) (d_book_of T).choose_spec sc_book_of ln0_book_of fun cdv A outer s H vs Q E hr h => ⟨t_book_of K w, PSs.nox (pss_cons (ps_asg (pv 0) (pg_or (pg_unl rfl (pgs_cons (pg_name (i := 1) sc_book_of.nd rfl (Or.inl rfl)) (pgs_cons (pg_name (i := 2) sc_book_of.nd rfl (Or.inl rfl)) (pgs_cons (pg_name (i := 3) sc_book_of.nd rfl (Or.inl rfl)) (pgs_cons (pg_name (i := 4) sc_book_of.nd rfl (Or.inl rfl)) (pgs_cons (pg_name (i := 5) sc_book_of.nd rfl (Or.inl rfl)) (pgs_cons (pg_name (i := 6) sc_book_of.nd rfl (Or.inl rfl)) pgs_nil))))))) (pg_tup rfl (pgs_cons (pg_name (i := 1) sc_book_of.nd rfl (Or.inl rfl)) (pgs_cons (pg_name (i := 2) sc_book_of.nd rfl (Or.inl rfl)) (pgs_cons (pg_name (i := 3) sc_book_of.nd rfl (Or.inl rfl)) (pgs_cons (pg_name (i := 4) sc_book_of.nd rfl (Or.inl rfl)) (pgs_cons (pg_name (i := 5) sc_book_of.nd rfl (Or.inl rfl)) (pgs_cons (pg_name (i := 6) sc_book_of.nd rfl (Or.inl rfl)) pgs_nil)))))))))
  (pss_one (ps_ret (pe_makeK0 (ks := ["rounding", "action", "order", "due", "zero", "beyond"]) (mk_Book T) (okk_Book___init__ T) (hr.mono (by decide)) rfl (glo_Book T) (kb_Book_rounding_action_order_due_zero_beyond T).choose_spec pass0  (pk_cons (pv 1) (pk_cons (pv 2) (pk_cons (pv 3) (pk_cons (pv 4) (pk_cons (pv 5) (pk_cons (pv 6) pk_nil)))))))))), rd_book_of vs H Q E h⟩
theorem ok_book_of (T : Tx K mg w) : FnR (PySem.Challenge.rw_timerwheels_k32_whole_journeys).prog w K mg base CX0 6 (ga K "book_of") (sp_book_of K) :=
  fnR_of (okk_book_of T) ((d_book_of T).choose_spec.bindsN fun _ _ _ _ _ _ us hl => match us, hl with | [_], _ => rfl)
theorem kp_book_of (T : Tx K mg w) : keepIn K (.ref (ga K "book_of")) = true := (d_book_of T).choose_spec.kp
theorem sc_Book_from_text : FnScope n_Book_from_text ["cls", "text"] (defScope s_Book_from_text) := ⟨rfl, rfl, rfl, by decide +kernel, rfl, by decide +kernel, by decide +kernel⟩
theorem ln0_Book_from_text (vs : List V) (H : Hp) (Q : VK) (E : XK) (h : sp_Book_from_text K vs H Q E) : vs.length = 2 := by
  unfold sp_Book_from_text at h
  repeat (first | (exact (congrArg List.length h.1).trans rfl) | (obtain ⟨_, h⟩ := h))
theorem okk_Book_from_text (T : Tx K mg w) : FnOk (PySem.Challenge.rw_timerwheels_k32_whole_journeys).prog w K mg base CX0 8 (He5.wf K (ga K "Book") "classmethod" "from_text") (d_Book_from_text T).choose ["cls", "text"] (sp_Book_from_text K) :=
  FunD.ok (k := 7) (N := n_Book_from_text) (d_Book_from_text T).choose_spec sc_Book_from_text ln0_Book_from_text fun cdv A outer s H vs Q E hr h => ⟨t_Book_from_text K w, PSs.nox (pss_cons (ps_if (pt_not (pt_val (pe_callB call_isi (by rfl) (free_isinstance T) (by decide +kernel) (pa_cons (pv 1) (pa_cons (pe_bltn (v := .ty "str") (by rfl) (free_str T) (by decide +kernel) rfl) pa_nil))))) (pss_one ps_never) pss_nil)
  (pss_cons (ps_set (i := 2) sc_Book_from_text.nd rfl (Or.inl rfl) (pe_split (pv 1) pe_str))
  (pss_cons (ps_if (pt_cmpR op_ne (pe_callB call_lenL (by rfl) (free_len T) (by decide +kernel) (pa_cons (pv 2) pa_nil)) (pe_callB call_len_seq (by rfl) (free_len T) (by decide +kernel) (pa_cons (pe_glob rfl (glo_SWITCHES T) rfl) pa_nil)) (nomark _)) (pss_one ps_never) pss_nil)
  (pss_cons (ps_for PassesOwn.never rfl (pi_zm rfl (free_zip T) (pa_cons (pe_glob rfl (glo_SWITCHES T) rfl) (pa_cons (pv 2) pa_nil))) (pg_tup rfl (pgs_cons (pg_name (i := 3) sc_Book_from_text.nd rfl (Or.inl rfl)) (pgs_cons (pg_name (i := 4) sc_Book_from_text.nd rfl (Or.inl rfl)) pgs_nil)))
    (pss_one (ps_if (pt_not (pt_val (pe_fn (ok_is_value T) (hr.mono (by decide)) rfl (glo_is_value T) (kp_is_value T) pass0 (pa_cons (pv 3) (pa_cons (pv 4) pa_nil))))) (pss_one ps_never) pss_nil)))
  (pss_one (ps_ret (pe_fn (ok_book_of T) (hr.mono (by decide)) rfl (glo_book_of T) (kp_book_of T) pass0 (pa_cons (pv 2) pa_nil)))))))), rd_Book_from_text (kf T) vs H Q E h⟩
theorem ok_Book_from_text (T : Tx K mg w) : FnR (PySem.Challenge.rw_timerwheels_k32_whole_journeys).prog w K mg base CX0 8 (He5.wf K (ga K "Book") "classmethod" "from_text") (sp_Book_from_text K) :=
  fnR_of (okk_Book_from_text T) ((d_Book_from_text T).choose_spec.bindsN fun _ _ _ _ _ _ us hl => match us, hl with | [_, _], _ => rfl)
theorem sc__law_made_book : FnScope n__law_made_book ["_law_values"] (defScope s__law_made_book) := ⟨rfl, rfl, rfl, by decide +kernel, rfl, by decide +kernel, by decide +kernel⟩
theorem ln0__law_made_book (vs : List V) (H : Hp) (Q : VK) (E : XK) (h : sp__law_made_book K vs H Q E) : vs.length = 1 := by
  unfold sp__law_made_book at h
  repeat (first | (exact (congrArg List.length h.1).trans rfl) | (obtain ⟨_, h⟩ := h))
theorem okk__law_made_book (T : Tx K mg w) : FnOk (PySem.Challenge.rw_timerwheels_k32_whole_journeys).prog w K mg base CX0 10 (ga K "_law_made_book") (d__law_made_book T).choose ["_law_values"] (sp__law_made_book K) :=
  FunD.ok (k := 9) (N := n__law_made_book) (d__law_made_book T).choose_spec sc__law_made_book ln0__law_made_book fun cdv A outer s H vs Q E hr h => ⟨t__law_made_book K w, PSs.nox (pss_one (ps_ret (ClX.pe_cmeth (pe_glob rfl (glo_Book T) rfl) (cr_Book T) (cm_Book_from_text T) (ok_Book_from_text T) (hr.mono (by decide)) pass0 (pa_cons (pe_join pe_str (pv 0)) pa_nil)))), rd__law_made_book vs H Q E h⟩
theorem ok__law_made_book (T : Tx K mg w) : FnR (PySem.Challenge.rw_timerwheels_k32_whole_journeys).prog w K mg base CX0 10 (ga K "_law_made_book") (sp__law_made_book K) :=
  fnR_of (okk__law_made_book T) ((d__law_made_book T).choose_spec.bindsN fun _ _ _ _ _ _ us hl => match us, hl with | [_], _ => rfl)
theorem kp__law_made_book (T : Tx K mg w) : keepIn K (.ref (ga K "_law_made_book")) = true := (d__law_made_book T).choose_spec.kp
theorem sc_is_count : FnScope n_is_count ["value"] (defScope s_is_count) := ⟨rfl, rfl, rfl, by decide +kernel, rfl, by decide +kernel, by decide +kernel⟩
theorem ln0_is_count (vs : List V) (H : Hp) (Q : VK) (E : XK) (h : sp_is_count K vs H Q E) : vs.length = 1 := by
  unfold sp_is_count at h
  repeat (first | (exact (congrArg List.length h.1).trans rfl) | (obtain ⟨_, h⟩ := h))
theorem okk_is_count (T : Tx K mg w) : FnOk (PySem.Challenge.rw_timerwheels_k32_whole_journeys).prog w K mg base CX0 4 (ga K "is_count") (d_is_count T).choose ["value"] (sp_is_count K) :=
  FunD.ok (k := 3) (N := n_is_count) (d_is_count T).choose_spec sc_is_count ln0_is_count fun cdv A outer s H vs Q E hr h => ⟨t_is_count K w, PSs.nox (pss_one (ps_ret (pe_and (pe_fn (ok_is_integer T) (hr.mono (by decide)) rfl (glo_is_integer T) (kp_is_integer T) pass0 (pa_cons (pv 0) pa_nil)) (pe_one (pe_cmpR op_ge (pv 0) pe_int (nomark _)))))), rd_is_count vs H Q E h⟩
theorem ok_is_count (T : Tx K mg w) : FnR (PySem.Challenge.rw_timerwheels_k32_whole_journeys).prog w K mg base CX0 4 (ga K "is_count") (sp_is_count K) :=
  fnR_of (okk_is_count T) ((d_is_count T).choose_spec.bindsN fun _ _ _ _ _ _ us hl => match us, hl with | [_], _ => rfl)
theorem kp_is_count (T : Tx K mg w) : keepIn K (.ref (ga K "is_count")) = true := (d_is_count T).choose_spec.kp
theorem sc_Book_zero : FnScope n_Book_zero ["self"] (defScope s_Book_zero) := ⟨rfl, rfl, rfl, by decide +kernel, rfl, by decide +kernel, by decide +kernel⟩
theorem ln0_Book_zero (vs : List V) (H : Hp) (Q : VK) (E : XK) (h : sp_Book_zero K vs H Q E) : vs.length = 1 := by
  unfold sp_Book_zero at h
  repeat (first | (exact (congrArg List.length h.1).trans rfl) | (obtain ⟨_, h⟩ := h))
theorem okk_Book_zero (T : Tx K mg w) : FnOk (PySem.Challenge.rw_timerwheels_k32_whole_journeys).prog w K mg base CX0 2 (pa K (ga K "Book") "zero") (d_Book_zero T).choose ["self"] (sp_Book_zero K) :=
  FunD.ok (k := 1) (N := n_Book_zero) (d_Book_zero T).choose_spec sc_Book_zero ln0_Book_zero fun cdv A outer s H vs Q E hr h => ⟨t_Book_zero K w, PSs.nox (pss_one (ps_ret (pe_ix ix_tupH (pe_fld (pv 0) rfl) pe_int (fun _ _ => rfl)))), rd_Book_zero (kf T) vs H Q E h⟩
theorem ok_Book_zero (T : Tx K mg w) : FnR (PySem.Challenge.rw_timerwheels_k32_whole_journeys).prog w K mg base CX0 2 (pa K (ga K "Book") "zero") (sp_Book_zero K) :=
  fnR_of (okk_Book_zero T) ((d_Book_zero T).choose_spec.bindsN fun _ _ _ _ _ _ us hl => match us, hl with | [_], _ => rfl)
theorem sc_Wheel_reach : FnScope n_Wheel_reach ["self"] (defScope s_Wheel_reach) := ⟨rfl, rfl, rfl, by decide +kernel, rfl, by decide +kernel, by decide +kernel⟩
theorem ln0_Wheel_reach (vs : List V) (H : Hp) (Q : VK) (E : XK) (h : sp_Wheel_reach K vs H Q E) : vs.length = 1 := by
  unfold sp_Wheel_reach at h
  repeat (first | (exact (congrArg List.length h.1).trans rfl) | (obtain ⟨_, h⟩ := h))
theorem okk_Wheel_reach (T : Tx K mg w) : FnOk (PySem.Challenge.rw_timerwheels_k32_whole_journeys).prog w K mg base CX0 4 (pa K (ga K "Wheel") "reach") (d_Wheel_reach T).choose ["self"] (sp_Wheel_reach K) :=
  FunD.ok (k := 3) (N := n_Wheel_reach) (d_Wheel_reach T).choose_spec sc_Wheel_reach ln0_Wheel_reach fun cdv A outer s H vs Q E hr h => ⟨t_Wheel_reach K w, PSs.nox (pss_one (ps_ret (pe_propF (pe_ix ix_tupH (pe_fld (pv 0) rfl) (pe_un un_neg pe_int) (fun _ _ => rfl)) (cls_Level T) (pr_Level_span T) (ok_Level_span T) (hr.mono (by decide)) pass0 (in_Level_span K)))), rd_Wheel_reach (kl T) vs H Q E h⟩
theorem ok_Wheel_reach (T : Tx K mg w) : FnR (PySem.Challenge.rw_timerwheels_k32_whole_journeys).prog w K mg base CX0 4 (pa K (ga K "Wheel") "reach") (sp_Wheel_reach K) :=
  fnR_of (okk_Wheel_reach T) ((d_Wheel_reach T).choose_spec.bindsN fun _ _ _ _ _ _ us hl => match us, hl with | [_], _ => rfl)
theorem sc_Book_beyond : FnScope n_Book_beyond ["self"] (defScope s_Book_beyond) := ⟨rfl, rfl, rfl, by decide +kernel, rfl, by decide +kernel, by decide +kernel⟩
theorem ln0_Book_beyond (vs : List V) (H : Hp) (Q : VK) (E : XK) (h : sp_Book_beyond K vs H Q E) : vs.length = 1 := by
  unfold sp_Book_beyond at h
  repeat (first | (exact (congrArg List.length h.1).trans rfl) | (obtain ⟨_, h⟩ := h))
theorem okk_Book_beyond (T : Tx K mg w) : FnOk (PySem.Challenge.rw_timerwheels_k32_whole_journeys).prog w K mg base CX0 2 (pa K (ga K "Book") "beyond") (d_Book_beyond T).choose ["self"] (sp_Book_beyond K) :=
  FunD.ok (k := 1) (N := n_Book_beyond) (d_Book_beyond T).choose_spec sc_Book_beyond ln0_Book_beyond fun cdv A outer s H vs Q E hr h => ⟨t_Book_beyond K w, PSs.nox (pss_one (ps_ret (pe_ix ix_tupH (pe_fld (pv 0) rfl) pe_int (fun _ _ => rfl)))), rd_Book_beyond (kf T) vs H Q E h⟩
theorem ok_Book_beyond (T : Tx K mg w) : FnR (PySem.Challenge.rw_timerwheels_k32_whole_journeys).prog w K mg base CX0 2 (pa K (ga K "Book") "beyond") (sp_Book_beyond K) :=
  fnR_of (okk_Book_beyond T) ((d_Book_beyond T).choose_spec.bindsN fun _ _ _ _ _ _ us hl => match us, hl with | [_], _ => rfl)
theorem sc_Wheel_level_of : FnScope n_Wheel_level_of ["self", "delay"] (defScope s_Wheel_level_of) := ⟨rfl, rfl, rfl, by decide +kernel, rfl, by decide +kernel, by decide +kernel⟩
theorem ln0_Wheel_level_of (vs : List V) (H : Hp) (Q : VK) (E : XK) (h : sp_Wheel_level_of K vs H Q E) : vs.length = 2 := by
  unfold sp_Wheel_level_of at h
  repeat (first | (exact (congrArg List.length h.1).trans rfl) | (obtain ⟨_, h⟩ := h))
theorem okk_Wheel_level_of (T : Tx K mg w) : FnOk (PySem.Challenge.rw_timerwheels_k32_whole_journeys).prog w K mg base CX0 6 (ma K (ga K "Wheel") "level_of") (d_Wheel_level_of T).choose ["self", "delay"] (sp_Wheel_level_of K) :=
  FunD.ok (k := 5) (N := n_Wheel_level_of) (d_Wheel_level_of T).choose_spec sc_Wheel_level_of ln0_Wheel_level_of fun cdv A outer s H vs Q E hr h => ⟨t_Wheel_level_of K w, PSs.nox (pss_cons (ps_if (pt_not (pt_val (pe_fn (ok_is_count T) (hr.mono (by decide)) rfl (glo_is_count T) (kp_is_count T) pass0 (pa_cons (pv 1) pa_nil)))) (pss_one ps_never) pss_nil)
  (pss_cons (ps_for PassesOwn.never rfl (pi_enT rfl (free_enumerate T) (pa_cons (pe_fld (pv 0) rfl) pa_nil)) (pg_tup rfl (pgs_cons (pg_name (i := 2) sc_Wheel_level_of.nd rfl (Or.inl rfl)) (pgs_cons (pg_name (i := 3) sc_Wheel_level_of.nd rfl (Or.inl rfl)) pgs_nil)))
    (pss_one (ps_if (pt_cmpR op_lt (pv 1) (pe_propF (pv 3) (cls_Level T) (pr_Level_span T) (ok_Level_span T) (hr.mono (by decide)) pass0 (in_Level_span K)) (nomark _)) (pss_one (ps_ret (pv 2))) pss_nil)))
  (pss_one (ps_ret pe_non)))), rd_Wheel_level_of (kl T) vs H Q E h⟩
theorem ok_Wheel_level_of (T : Tx K mg w) : FnR (PySem.Challenge.rw_timerwheels_k32_whole_journeys).prog w K mg base CX0 6 (ma K (ga K "Wheel") "level_of") (sp_Wheel_level_of K) :=
  fnR_of (okk_Wheel_level_of T) ((d_Wheel_level_of T).choose_spec.bindsN fun _ _ _ _ _ _ us hl => match us, hl with | [_, _], _ => rfl)
theorem sc_Wheel___len__ : FnScope n_Wheel___len__ ["self"] (defScope s_Wheel___len__) := ⟨rfl, rfl, rfl, by decide +kernel, rfl, by decide +kernel, by decide +kernel⟩
theorem ln0_Wheel___len__ (vs : List V) (H : Hp) (Q : VK) (E : XK) (h : sp_Wheel___len__ K vs H Q E) : vs.length = 1 := by
  unfold sp_Wheel___len__ at h
  repeat (first | (exact (congrArg List.length h.1).trans rfl) | (obtain ⟨_, h⟩ := h))
theorem okk_Wheel___len__ (T : Tx K mg w) : FnOk (PySem.Challenge.rw_timerwheels_k32_whole_journeys).prog w K mg base CX0 2 (ma K (ga K "Wheel") "__len__") (d_Wheel___len__ T).choose ["self"] (sp_Wheel___len__ K) :=
  FunD.ok (k := 1) (N := n_Wheel___len__) (d_Wheel___len__ T).choose_spec sc_Wheel___len__ ln0_Wheel___len__ fun cdv A outer s H vs Q E hr h => ⟨t_Wheel___len__ K w, PSs.nox (pss_one (ps_ret (pe_callB call_lenT (by rfl) (free_len T) (by decide +kernel) (pa_cons (pe_fld (pv 0) rfl) pa_nil)))), rd_Wheel___len__ (kl T) vs H Q E h⟩
theorem ok_Wheel___len__ (T : Tx K mg w) : FnR (PySem.Challenge.rw_timerwheels_k32_whole_journeys).prog w K mg base CX0 2 (ma K (ga K "Wheel") "__len__") (sp_Wheel___len__ K) :=
  fnR_of (okk_Wheel___len__ T) ((d_Wheel___len__ T).choose_spec.bindsN fun _ _ _ _ _ _ us hl => match us, hl with | [_], _ => rfl)
theorem sc_rounded : FnScope n_rounded ["tick", "grain", "rounding"] (defScope s_rounded) := ⟨rfl, rfl, rfl, by decide +kernel, rfl, by decide +kernel, by decide +kernel⟩
theorem ln0_rounded (vs : List V) (H : Hp) (Q : VK) (E : XK) (h : sp_rounded K vs H Q E) : vs.length = 3 := by
  unfold sp_rounded at h
  repeat (first | (exact (congrArg List.length h.1).trans rfl) | (obtain ⟨_, h⟩ := h))
theorem okk_rounded (T : Tx K mg w) : FnOk (PySem.Challenge.rw_timerwheels_k32_whole_journeys).prog w K mg base CX0 2 (ga K "rounded") (d_rounded T).choose ["tick", "grain", "rounding"] (sp_rounded K) :=
  FunD.ok (k := 1) (N := n_rounded) (d_rounded T).choose_spec sc_rounded ln0_rounded fun cdv A outer s H vs Q E hr h => ⟨t_rounded K w, PSs.nox (pss_cons (ps_if (pt_cmpR op_eq (pv 2) pe_str (nomark _)) (pss_one (ps_ret (pe_un un_neg (pe_op op_fdiv (pe_un un_neg (pv 0)) (pv 1))))) pss_nil)
  (pss_one (ps_ret (pe_op op_fdiv (pv 0) (pv 1))))), rd_rounded vs H Q E h⟩
theorem ok_rounded (T : Tx K mg w) : FnR (PySem.Challenge.rw_timerwheels_k32_whole_journeys).prog w K mg base CX0 2 (ga K "rounded") (sp_rounded K) :=
  fnR_of (okk_rounded T) ((d_rounded T).choose_spec.bindsN fun _ _ _ _ _ _ us hl => match us, hl with | [_, _, _], _ => rfl)
theorem kp_rounded (T : Tx K mg w) : keepIn K (.ref (ga K "rounded")) = true := (d_rounded T).choose_spec.kp
theorem sc_Wheel___getitem__ : FnScope n_Wheel___getitem__ ["self", "index"] (defScope s_Wheel___getitem__) := ⟨rfl, rfl, rfl, by decide +kernel, rfl, by decide +kernel, by decide +kernel⟩
theorem ln0_Wheel___getitem__ (vs : List V) (H : Hp) (Q : VK) (E : XK) (h : sp_Wheel___getitem__ K vs H Q E) : vs.length = 2 := by
  unfold sp_Wheel___getitem__ at h
  repeat (first | (exact (congrArg List.length h.1).trans rfl) | (obtain ⟨_, h⟩ := h))
theorem okk_Wheel___getitem__ (T : Tx K mg w) : FnOk (PySem.Challenge.rw_timerwheels_k32_whole_journeys).prog w K mg base CX0 6 (ma K (ga K "Wheel") "__getitem__") (d_Wheel___getitem__ T).choose ["self", "index"] (sp_Wheel___getitem__ K) :=
  FunD.ok (k := 5) (N := n_Wheel___getitem__) (d_Wheel___getitem__ T).choose_spec sc_Wheel___getitem__ ln0_Wheel___getitem__ fun cdv A outer s H vs Q E hr h => ⟨t_Wheel___getitem__ K w, PSs.nox (pss_cons (ps_if (pt_not (pt_val (pe_fn (ok_is_within T) (hr.mono (by decide)) rfl (glo_is_within T) (kp_is_within T) pass0 (pa_cons (pv 1) (pa_cons pe_int (pa_cons (pe_op op_sub (pe_callB call_lenT (by rfl) (free_len T) (by decide +kernel) (pa_cons (pe_fld (pv 0) rfl) pa_nil)) pe_int) pa_nil)))))) (pss_one ps_never) pss_nil)
  (pss_one (ps_ret (pe_ix ix_tupH (pe_fld (pv 0) rfl) (pv 1) (fun _ _ => rfl))))), rd_Wheel___getitem__ (kl T) vs H Q E h⟩
theorem ok_Wheel___getitem__ (T : Tx K mg w) : FnR (PySem.Challenge.rw_timerwheels_k32_whole_journeys).prog w K mg base CX0 6 (ma K (ga K "Wheel") "__getitem__") (sp_Wheel___getitem__ K) :=
  fnR_of (okk_Wheel___getitem__ T) ((d_Wheel___getitem__ T).choose_spec.bindsN fun _ _ _ _ _ _ us hl => match us, hl with | [_, _], _ => rfl)
theorem sc_Book_rounding : FnScope n_Book_rounding ["self"] (defScope s_Book_rounding) := ⟨rfl, rfl, rfl, by decide +kernel, rfl, by decide +kernel, by decide +kernel⟩
theorem ln0_Book_rounding (vs : List V) (H : Hp) (Q : VK) (E : XK) (h : sp_Book_rounding K vs H Q E) : vs.length = 1 := by
  unfold sp_Book_rounding at h
  repeat (first | (exact (congrArg List.length h.1).trans rfl) | (obtain ⟨_, h⟩ := h))
theorem okk_Book_rounding (T : Tx K mg w) : FnOk (PySem.Challenge.rw_timerwheels_k32_whole_journeys).prog w K mg base CX0 2 (pa K (ga K "Book") "rounding") (d_Book_rounding T).choose ["self"] (sp_Book_rounding K) :=
  FunD.ok (k := 1) (N := n_Book_rounding) (d_Book_rounding T).choose_spec sc_Book_rounding ln0_Book_rounding fun cdv A outer s H vs Q E hr h => ⟨t_Book_rounding K w, PSs.nox (pss_one (ps_ret (pe_ix ix_tupH (pe_fld (pv 0) rfl) pe_int (fun _ _ => rfl)))), rd_Book_rounding (kf T) vs H Q E h⟩
theorem ok_Book_rounding (T : Tx K mg w) : FnR (PySem.Challenge.rw_timerwheels_k32_whole_journeys).prog w K mg base CX0 2 (pa K (ga K "Book") "rounding") (sp_Book_rounding K) :=
  fnR_of (okk_Book_rounding T) ((d_Book_rounding T).choose_spec.bindsN fun _ _ _ _ _ _ us hl => match us, hl with | [_], _ => rfl)
theorem sc_spot_at : FnScope n_spot_at ["wheel", "book", "now", "rest", "due"] (defScope s_spot_at) := ⟨rfl, rfl, rfl, by decide +kernel, rfl, by decide +kernel, by decide +kernel⟩
theorem ln0_spot_at (vs : List V) (H : Hp) (Q : VK) (E : XK) (h : sp_spot_at K vs H Q E) : vs.length = 5 := by
  unfold sp_spot_at at h
  repeat (first | (exact (congrArg List.length h.1).trans rfl) | (obtain ⟨_, h⟩ := h))
theorem okk_spot_at (T : Tx K mg w) : FnOk (PySem.Challenge.rw_timerwheels_k32_whole_journeys).prog w K mg base CX0 8 (ga K "spot_at") (d_spot_at T).choose ["wheel", "book", "now", "rest", "due"] (sp_spot_at K) :=
  FunD.ok (k := 7) (N := n_spot_at) (d_spot_at T).choose_spec sc_spot_at ln0_spot_at fun cdv A outer s H vs Q E hr h => ⟨t_spot_at K w, PSs.nox (pss_cons (ps_set (i := 5) sc_spot_at.nd rfl (Or.inl rfl) (pe_methR (pv 0) (cls_Wheel T) (me_Wheel_level_of T) (ok_Wheel_level_of T) (hr.mono (by decide)) pass0 (pa_cons (pv 3) pa_nil)))
  (pss_cons (ps_set (i := 6) sc_spot_at.nd rfl (Or.inl rfl) (pe_op op_add (pv 2) (pv 3)))
  (pss_cons (ps_if (pt_cmpR op_isN (pv 5) pe_non (nomark _)) (pss_cons (ps_set (i := 5) sc_spot_at.nd rfl (Or.inl rfl) (pe_op op_sub (pe_callB (call_lenF (me_Wheel___len__ T).at_ (fq_Wheel___len__ T).1 (ok_Wheel___len__ T) (hr.mono (by decide)) pass0 (in_Wheel___len__ K) (ln_Wheel___len__ K)) (by rfl) (free_len T) (by decide +kernel) (pa_cons (pv 0) pa_nil)) pe_int))
  (pss_one (ps_set (i := 6) sc_spot_at.nd rfl (Or.inl rfl) (pe_op op_sub (pe_op op_add (pv 2) (pe_propF (pv 0) (cls_Wheel T) (pr_Wheel_reach T) (ok_Wheel_reach T) (hr.mono (by decide)) pass0 (in_Wheel_reach K))) pe_int)))) pss_nil)
  (pss_one (ps_ret (pe_tup (pa_cons (pv 5) (pa_cons (pe_fn (ok_rounded T) (hr.mono (by decide)) rfl (glo_rounded T) (kp_rounded T) pass0 (pa_cons (pv 6) (pa_cons (pe_propF (pe_ixF (me_Wheel___getitem__ T).at_ (fq_Wheel___getitem__ T).1 (fq_Wheel___getitem__ T).2 (ok_Wheel___getitem__ T) (hr.mono (by decide)) pass0 (in_Wheel___getitem__ K) (pv 0) (pv 5)) (cls_Level T) (pr_Level_grain T) (ok_Level_grain T) (hr.mono (by decide)) pass0 (in_Level_grain K)) (pa_cons (pe_propF (pv 1) (cls_Book T) (pr_Book_rounding T) (ok_Book_rounding T) (hr.mono (by decide)) pass0 (in_Book_rounding K)) pa_nil)))) (pa_cons (pv 4) pa_nil))))))))), rd_spot_at vs H Q E h⟩
theorem ok_spot_at (T : Tx K mg w) : FnR (PySem.Challenge.rw_timerwheels_k32_whole_journeys).prog w K mg base CX0 8 (ga K "spot_at") (sp_spot_at K) :=
  fnR_of (okk_spot_at T) ((d_spot_at T).choose_spec.bindsN fun _ _ _ _ _ _ us hl => match us, hl with | [_, _, _, _, _], _ => rfl)
theorem kp_spot_at (T : Tx K mg w) : keepIn K (.ref (ga K "spot_at")) = true := (d_spot_at T).choose_spec.kp
theorem sc_place : FnScope n_place ["wheel", "book", "now", "delay"] (defScope s_place) := ⟨rfl, rfl, rfl, by decide +kernel, rfl, by decide +kernel, by decide +kernel⟩
theorem ln0_place (vs : List V) (H : Hp) (Q : VK) (E : XK) (h : sp_place K vs H Q E) : vs.length = 4 := by
  unfold sp_place at h
  repeat (first | (exact (congrArg List.length h.1).trans rfl) | (obtain ⟨_, h⟩ := h))
theorem okk_place (T : Tx K mg w) : FnOk (PySem.Challenge.rw_timerwheels_k32_whole_journeys).prog w K mg base CX0 10 (ga K "place") (d_place T).choose ["wheel", "book", "now", "delay"] (sp_place K) :=
  FunD.ok (k := 9) (N := n_place) (d_place T).choose_spec sc_place ln0_place fun cdv A outer s H vs Q E hr h => ⟨t_place K w, PSs.nox (pss_cons (ps_if (pt_not (pt_val (pe_fn (ok_is_count T) (hr.mono (by decide)) rfl (glo_is_count T) (kp_is_count T) pass0 (pa_cons (pv 2) pa_nil)))) (pss_one ps_never) pss_nil)
  (pss_cons (ps_if (pt_not (pt_val (pe_fn (ok_is_count T) (hr.mono (by decide)) rfl (glo_is_count T) (kp_is_count T) pass0 (pa_cons (pv 3) pa_nil)))) (pss_one ps_never) pss_nil)
  (pss_cons (ps_if (PW.pt (pw_and (pt_cmpR op_eq (pv 3) pe_int (nomark _)) (pw_and1 (pt_cmpR op_eq (pe_propF (pv 1) (cls_Book T) (pr_Book_zero T) (ok_Book_zero T) (hr.mono (by decide)) pass0 (in_Book_zero K)) pe_str (nomark _))))) (pss_one (ps_ret pe_non)) pss_nil)
  (pss_cons (ps_set (i := 4) sc_place.nd rfl (Or.inl rfl) (pe_callB (call_max2 rfl) (by rfl) (free_max T) (by decide +kernel) (pa_cons (pv 3) (pa_cons pe_int pa_nil))))
  (pss_cons (ps_if (PW.pt (pw_and (pt_cmpR op_ge (pv 4) (pe_propF (pv 0) (cls_Wheel T) (pr_Wheel_reach T) (ok_Wheel_reach T) (hr.mono (by decide)) pass0 (in_Wheel_reach K)) (nomark _)) (pw_and1 (pt_cmpR op_eq (pe_propF (pv 1) (cls_Book T) (pr_Book_beyond T) (ok_Book_beyond T) (hr.mono (by decide)) pass0 (in_Book_beyond K)) pe_str (nomark _))))) (pss_one ps_never) pss_nil)
  (pss_cons (ps_if (PW.pt (pw_and (pt_cmpR op_ge (pv 4) (pe_propF (pv 0) (cls_Wheel T) (pr_Wheel_reach T) (ok_Wheel_reach T) (hr.mono (by decide)) pass0 (in_Wheel_reach K)) (nomark _)) (pw_and1 (pt_cmpR op_eq (pe_propF (pv 1) (cls_Book T) (pr_Book_beyond T) (ok_Book_beyond T) (hr.mono (by decide)) pass0 (in_Book_beyond K)) pe_str (nomark _))))) (pss_one (ps_set (i := 4) sc_place.nd rfl (Or.inl rfl) (pe_op op_sub (pe_propF (pv 0) (cls_Wheel T) (pr_Wheel_reach T) (ok_Wheel_reach T) (hr.mono (by decide)) pass0 (in_Wheel_reach K)) pe_int))) pss_nil)
  (pss_one (ps_ret (pe_fn (ok_spot_at T) (hr.mono (by decide)) rfl (glo_spot_at T) (kp_spot_at T) pass0 (pa_cons (pv 0) (pa_cons (pv 1) (pa_cons (pv 2) (pa_cons (pv 4) (pa_cons (pe_op op_add (pv 2) (pv 4)) pa_nil)))))))))))))), rd_place vs H Q E h⟩
theorem ok_place (T : Tx K mg w) : FnR (PySem.Challenge.rw_timerwheels_k32_whole_journeys).prog w K mg base CX0 10 (ga K "place") (sp_place K) :=
  fnR_of (okk_place T) ((d_place T).choose_spec.bindsN fun _ _ _ _ _ _ us hl => match us, hl with | [_, _, _, _], _ => rfl)
theorem kp_place (T : Tx K mg w) : keepIn K (.ref (ga K "place")) = true := (d_place T).choose_spec.kp
theorem sc_Level_slots : FnScope n_Level_slots ["self"] (defScope s_Level_slots) := ⟨rfl, rfl, rfl, by decide +kernel, rfl, by decide +kernel, by decide +kernel⟩
theorem ln0_Level_slots (vs : List V) (H : Hp) (Q : VK) (E : XK) (h : sp_Level_slots K vs H Q E) : vs.length = 1 := by
  unfold sp_Level_slots at h
  repeat (first | (exact (congrArg List.length h.1).trans rfl) | (obtain ⟨_, h⟩ := h))
theorem okk_Level_slots (T : Tx K mg w) : FnOk (PySem.Challenge.rw_timerwheels_k32_whole_journeys).prog w K mg base CX0 2 (pa K (ga K "Level") "slots") (d_Level_slots T).choose ["self"] (sp_Level_slots K) :=
  FunD.ok (k := 1) (N := n_Level_slots) (d_Level_slots T).choose_spec sc_Level_slots ln0_Level_slots fun cdv A outer s H vs Q E hr h => ⟨t_Level_slots K w, PSs.nox (pss_one (ps_ret (pe_fld (pv 0) rfl))), rd_Level_slots (klv T) vs H Q E h⟩
theorem ok_Level_slots (T : Tx K mg w) : FnR (PySem.Challenge.rw_timerwheels_k32_whole_journeys).prog w K mg base CX0 2 (pa K (ga K "Level") "slots") (sp_Level_slots K) :=
  fnR_of (okk_Level_slots T) ((d_Level_slots T).choose_spec.bindsN fun _ _ _ _ _ _ us hl => match us, hl with | [_], _ => rfl)
theorem sc_visit_after : FnScope n_visit_after ["level", "point", "now"] (defScope s_visit_after) := ⟨rfl, rfl, rfl, by decide +kernel, rfl, by decide +kernel, by decide +kernel⟩
theorem ln0_visit_after (vs : List V) (H : Hp) (Q : VK) (E : XK) (h : sp_visit_after K vs H Q E) : vs.length = 3 := by
  unfold sp_visit_after at h
  repeat (first | (exact (congrArg List.length h.1).trans rfl) | (obtain ⟨_, h⟩ := h))
theorem okk_visit_after (T : Tx K mg w) : FnOk (PySem.Challenge.rw_timerwheels_k32_whole_journeys).prog w K mg base CX0 4 (ga K "visit_after") (d_visit_after T).choose ["level", "point", "now"] (sp_visit_after K) :=
  FunD.ok (k := 3) (N := n_visit_after) (d_visit_after T).choose_spec sc_visit_after ln0_visit_after fun cdv A outer s H vs Q E hr h => ⟨t_visit_after K w, PSs.nox (pss_cons (ps_set (i := 3) sc_visit_after.nd rfl (Or.inl rfl) (pe_op op_fdiv (pv 2) (pe_propF (pv 0) (cls_Level T) (pr_Level_grain T) (ok_Level_grain T) (hr.mono (by decide)) pass0 (in_Level_grain K))))
  (pss_one (ps_ret (pe_op op_mul (pe_op op_add (pe_op op_add (pv 3) pe_int) (pe_op op_mod (pe_op op_sub (pe_op op_sub (pv 1) (pv 3)) pe_int) (pe_propF (pv 0) (cls_Level T) (pr_Level_slots T) (ok_Level_slots T) (hr.mono (by decide)) pass0 (in_Level_slots K)))) (pe_propF (pv 0) (cls_Level T) (pr_Level_grain T) (ok_Level_grain T) (hr.mono (by decide)) pass0 (in_Level_grain K)))))), rd_visit_after vs H Q E h⟩
theorem ok_visit_after (T : Tx K mg w) : FnR (PySem.Challenge.rw_timerwheels_k32_whole_journeys).prog w K mg base CX0 4 (ga K "visit_after") (sp_visit_after K) :=
  fnR_of (okk_visit_after T) ((d_visit_after T).choose_spec.bindsN fun _ _ _ _ _ _ us hl => match us, hl with | [_, _, _], _ => rfl)
theorem kp_visit_after (T : Tx K mg w) : keepIn K (.ref (ga K "visit_after")) = true := (d_visit_after T).choose_spec.kp
theorem sc_Book_order : FnScope n_Book_order ["self"] (defScope s_Book_order) := ⟨rfl, rfl, rfl, by decide +kernel, rfl, by decide +kernel, by decide +kernel⟩
theorem ln0_Book_order (vs : List V) (H : Hp) (Q : VK) (E : XK) (h : sp_Book_order K vs H Q E) : vs.length = 1 := by
  unfold sp_Book_order at h
  repeat (first | (exact (congrArg List.length h.1).trans rfl) | (obtain ⟨_, h⟩ := h))
theorem okk_Book_order (T : Tx K mg w) : FnOk (PySem.Challenge.rw_timerwheels_k32_whole_journeys).prog w K mg base CX0 2 (pa K (ga K "Book") "order") (d_Book_order T).choose ["self"] (sp_Book_order K) :=
  FunD.ok (k := 1) (N := n_Book_order) (d_Book_order T).choose_spec sc_Book_order ln0_Book_order fun cdv A outer s H vs Q E hr h => ⟨t_Book_order K w, PSs.nox (pss_one (ps_ret (pe_ix ix_tupH (pe_fld (pv 0) rfl) pe_int (fun _ _ => rfl)))), rd_Book_order (kf T) vs H Q E h⟩
theorem ok_Book_order (T : Tx K mg w) : FnR (PySem.Challenge.rw_timerwheels_k32_whole_journeys).prog w K mg base CX0 2 (pa K (ga K "Book") "order") (sp_Book_order K) :=
  fnR_of (okk_Book_order T) ((d_Book_order T).choose_spec.bindsN fun _ _ _ _ _ _ us hl => match us, hl with | [_], _ => rfl)
theorem sc_level_order : FnScope n_level_order ["wheel", "book"] (defScope s_level_order) := ⟨rfl, rfl, rfl, by decide +kernel, rfl, by decide +kernel, by decide +kernel⟩
theorem ln0_level_order (vs : List V) (H : Hp) (Q : VK) (E : XK) (h : sp_level_order K vs H Q E) : vs.length = 2 := by
  unfold sp_level_order at h
  repeat (first | (exact (congrArg List.length h.1).trans rfl) | (obtain ⟨_, h⟩ := h))
theorem okk_level_order (T : Tx K mg w) : FnOk (PySem.Challenge.rw_timerwheels_k32_whole_journeys).prog w K mg base CX0 4 (ga K "level_order") (d_level_order T).choose ["wheel", "book"] (sp_level_order K) :=
  FunD.ok (k := 3) (N := n_level_order) (d_level_order T).choose_spec sc_level_order ln0_level_order fun cdv A outer s H vs Q E hr h => ⟨t_level_order K w, PSs.nox (pss_cons (ps_set (i := 2) sc_level_order.nd rfl (Or.inl rfl) (pe_listRg rfl rfl (free_list T) (prg_1 rfl (free_range T) (pe_callB (call_lenF (me_Wheel___len__ T).at_ (fq_Wheel___len__ T).1 (ok_Wheel___len__ T) (hr.mono (by decide)) pass0 (in_Wheel___len__ K) (ln_Wheel___len__ K)) (by rfl) (free_len T) (by decide +kernel) (pa_cons (pv 0) pa_nil)))))
  (pss_cons (ps_if (pt_cmpR op_eq (pe_propF (pv 1) (cls_Book T) (pr_Book_order T) (ok_Book_order T) (hr.mono (by decide)) pass0 (in_Book_order K)) pe_str (nomark _)) (pss_one (ps_ret (pe_revL (pv 2)))) pss_nil)
  (pss_one (ps_ret (pv 2))))), rd_level_order vs H Q E h⟩
theorem ok_level_order (T : Tx K mg w) : FnR (PySem.Challenge.rw_timerwheels_k32_whole_journeys).prog w K mg base CX0 4 (ga K "level_order") (sp_level_order K) :=
  fnR_of (okk_level_order T) ((d_level_order T).choose_spec.bindsN fun _ _ _ _ _ _ us hl => match us, hl with | [_, _], _ => rfl)
theorem kp_level_order (T : Tx K mg w) : keepIn K (.ref (ga K "level_order")) = true := (d_level_order T).choose_spec.kp
theorem sc_is_visited : FnScope n_is_visited ["level", "point", "before", "now"] (defScope s_is_visited) := ⟨rfl, rfl, rfl, by decide +kernel, rfl, by decide +kernel, by decide +kernel⟩
theorem ln0_is_visited (vs : List V) (H : Hp) (Q : VK) (E : XK) (h : sp_is_visited K vs H Q E) : vs.length = 4 := by
  unfold sp_is_visited at h
  repeat (first | (exact (congrArg List.length h.1).trans rfl) | (obtain ⟨_, h⟩ := h))
theorem okk_is_visited (T : Tx K mg w) : FnOk (PySem.Challenge.rw_timerwheels_k32_whole_journeys).prog w K mg base CX0 4 (ga K "is_visited") (d_is_visited T).choose ["level", "point", "before", "now"] (sp_is_visited K) :=
  FunD.ok (k := 3) (N := n_is_visited) (d_is_visited T).choose_spec sc_is_visited ln0_is_visited fun cdv A outer s H vs Q E hr h => ⟨t_is_visited K w, PSs.nox (pss_cons (ps_set (i := 4) sc_is_visited.nd rfl (Or.inl rfl) (pe_op op_fdiv (pv 2) (pe_propF (pv 0) (cls_Level T) (pr_Level_grain T) (ok_Level_grain T) (hr.mono (by decide)) pass0 (in_Level_grain K))))
  (pss_cons (ps_set (i := 5) sc_is_visited.nd rfl (Or.inl rfl) (pe_op op_sub (pe_op op_fdiv (pv 3) (pe_propF (pv 0) (cls_Level T) (pr_Level_grain T) (ok_Level_grain T) (hr.mono (by decide)) pass0 (in_Level_grain K))) (pv 4)))
  (pss_one (ps_ret (pe_cmpR op_lt (pe_op op_mod (pe_op op_sub (pe_op op_sub (pv 1) (pv 4)) pe_int) (pe_propF (pv 0) (cls_Level T) (pr_Level_slots T) (ok_Level_slots T) (hr.mono (by decide)) pass0 (in_Level_slots K))) (pv 5) (nomark _)))))), rd_is_visited vs H Q E h⟩
theorem ok_is_visited (T : Tx K mg w) : FnR (PySem.Challenge.rw_timerwheels_k32_whole_journeys).prog w K mg base CX0 4 (ga K "is_visited") (sp_is_visited K) :=
  fnR_of (okk_is_visited T) ((d_is_visited T).choose_spec.bindsN fun _ _ _ _ _ _ us hl => match us, hl with | [_, _, _, _], _ => rfl)
theorem kp_is_visited (T : Tx K mg w) : keepIn K (.ref (ga K "is_visited")) = true := (d_is_visited T).choose_spec.kp
theorem sc_Book_action : FnScope n_Book_action ["self"] (defScope s_Book_action) := ⟨rfl, rfl, rfl, by decide +kernel, rfl, by decide +kernel, by decide +kernel⟩
theorem ln0_Book_action (vs : List V) (H : Hp) (Q : VK) (E : XK) (h : sp_Book_action K vs H Q E) : vs.length = 1 := by
  unfold sp_Book_action at h
  repeat (first | (exact (congrArg List.length h.1).trans rfl) | (obtain ⟨_, h⟩ := h))
theorem okk_Book_action (T : Tx K mg w) : FnOk (PySem.Challenge.rw_timerwheels_k32_whole_journeys).prog w K mg base CX0 2 (pa K (ga K "Book") "action") (d_Book_action T).choose ["self"] (sp_Book_action K) :=
  FunD.ok (k := 1) (N := n_Book_action) (d_Book_action T).choose_spec sc_Book_action ln0_Book_action fun cdv A outer s H vs Q E hr h => ⟨t_Book_action K w, PSs.nox (pss_one (ps_ret (pe_ix ix_tupH (pe_fld (pv 0) rfl) pe_int (fun _ _ => rfl)))), rd_Book_action (kf T) vs H Q E h⟩
theorem ok_Book_action (T : Tx K mg w) : FnR (PySem.Challenge.rw_timerwheels_k32_whole_journeys).prog w K mg base CX0 2 (pa K (ga K "Book") "action") (sp_Book_action K) :=
  fnR_of (okk_Book_action T) ((d_Book_action T).choose_spec.bindsN fun _ _ _ _ _ _ us hl => match us, hl with | [_], _ => rfl)
theorem sc_Book_due : FnScope n_Book_due ["self"] (defScope s_Book_due) := ⟨rfl, rfl, rfl, by decide +kernel, rfl, by decide +kernel, by decide +kernel⟩
theorem ln0_Book_due (vs : List V) (H : Hp) (Q : VK) (E : XK) (h : sp_Book_due K vs H Q E) : vs.length = 1 := by
  unfold sp_Book_due at h
  repeat (first | (exact (congrArg List.length h.1).trans rfl) | (obtain ⟨_, h⟩ := h))
theorem okk_Book_due (T : Tx K mg w) : FnOk (PySem.Challenge.rw_timerwheels_k32_whole_journeys).prog w K mg base CX0 2 (pa K (ga K "Book") "due") (d_Book_due T).choose ["self"] (sp_Book_due K) :=
  FunD.ok (k := 1) (N := n_Book_due) (d_Book_due T).choose_spec sc_Book_due ln0_Book_due fun cdv A outer s H vs Q E hr h => ⟨t_Book_due K w, PSs.nox (pss_one (ps_ret (pe_ix ix_tupH (pe_fld (pv 0) rfl) pe_int (fun _ _ => rfl)))), rd_Book_due (kf T) vs H Q E h⟩
theorem ok_Book_due (T : Tx K mg w) : FnR (PySem.Challenge.rw_timerwheels_k32_whole_journeys).prog w K mg base CX0 2 (pa K (ga K "Book") "due") (sp_Book_due K) :=
  fnR_of (okk_Book_due T) ((d_Book_due T).choose_spec.bindsN fun _ _ _ _ _ _ us hl => match us, hl with | [_], _ => rfl)
theorem sc_taken_out : FnScope n_taken_out ["wheel", "book", "spot", "tick"] (defScope s_taken_out) := ⟨rfl, rfl, rfl, by decide +kernel, rfl, by decide +kernel, by decide +kernel⟩
theorem ln0_taken_out (vs : List V) (H : Hp) (Q : VK) (E : XK) (h : sp_taken_out K vs H Q E) : vs.length = 4 := by
  unfold sp_taken_out at h
  repeat (first | (exact (congrArg List.length h.1).trans rfl) | (obtain ⟨_, h⟩ := h))
theorem okk_taken_out (T : Tx K mg w) : FnOk (PySem.Challenge.rw_timerwheels_k32_whole_journeys).prog w K mg base CX0 10 (ga K "taken_out") (d_taken_out T).choose ["wheel", "book", "spot", "tick"] (sp_taken_out K) :=
  FunD.ok (k := 9) (N := n_taken_out) (d_taken_out T).choose_spec sc_taken_out ln0_taken_out fun cdv A outer s H vs Q E hr h => ⟨t_taken_out K w, PSs.nox (pss_cons (ps_if (PW.pt (pw_or (pt_cmpR op_eq (pe_ix ix_tupH (pv 2) pe_int (fun _ _ => rfl)) pe_int (nomark _)) (pw_or1 (pt_cmpR op_eq (pe_propF (pv 1) (cls_Book T) (pr_Book_action T) (ok_Book_action T) (hr.mono (by decide)) pass0 (in_Book_action K)) pe_str (nomark _))))) (pss_one (ps_ret pe_non)) pss_nil)
  (pss_cons (ps_set (i := 4) sc_taken_out.nd rfl (Or.inl rfl) (pe_ix ix_tupH (pv 2) pe_int (fun _ _ => rfl)))
  (pss_cons (ps_if (pt_cmpR op_gt (pv 4) (pv 3) (nomark _)) (pss_one (ps_ret (pe_fn (ok_spot_at T) (hr.mono (by decide)) rfl (glo_spot_at T) (kp_spot_at T) pass0 (pa_cons (pv 0) (pa_cons (pv 1) (pa_cons (pv 3) (pa_cons (pe_op op_sub (pv 4) (pv 3)) (pa_cons (pv 4) pa_nil)))))))) pss_nil)
  (pss_cons (ps_if (pt_cmpR op_eq (pe_propF (pv 1) (cls_Book T) (pr_Book_due T) (ok_Book_due T) (hr.mono (by decide)) pass0 (in_Book_due K)) pe_str (nomark _)) (pss_one (ps_ret (pe_tup (pa_cons pe_int (pa_cons (pv 3) (pa_cons (pv 4) pa_nil)))))) pss_nil)
  (pss_one (ps_ret pe_non)))))), rd_taken_out vs H Q E h⟩
theorem ok_taken_out (T : Tx K mg w) : FnR (PySem.Challenge.rw_timerwheels_k32_whole_journeys).prog w K mg base CX0 10 (ga K "taken_out") (sp_taken_out K) :=
  fnR_of (okk_taken_out T) ((d_taken_out T).choose_spec.bindsN fun _ _ _ _ _ _ us hl => match us, hl with | [_, _, _, _], _ => rfl)
theorem kp_taken_out (T : Tx K mg w) : keepIn K (.ref (ga K "taken_out")) = true := (d_taken_out T).choose_spec.kp
theorem sc_visited : FnScope n_visited ["wheel", "book", "spot", "before", "now"] (defScope s_visited) := ⟨rfl, rfl, rfl, by decide +kernel, rfl, by decide +kernel, by decide +kernel⟩
theorem ln0_visited (vs : List V) (H : Hp) (Q : VK) (E : XK) (h : sp_visited K vs H Q E) : vs.length = 5 := by
  unfold sp_visited at h
  repeat (first | (exact (congrArg List.length h.1).trans rfl) | (obtain ⟨_, h⟩ := h))
theorem okk_visited (T : Tx K mg w) : FnOk (PySem.Challenge.rw_timerwheels_k32_whole_journeys).prog w K mg base CX0 12 (ga K "visited") (d_visited T).choose ["wheel", "book", "spot", "before", "now"] (sp_visited K) :=
  FunD.ok (k := 11) (N := n_visited) (d_visited T).choose_spec sc_visited ln0_visited fun cdv A outer s H vs Q E hr h => ⟨t_visited K w, PSs.nox (pss_cons (ps_set (i := 5) sc_visited.nd rfl (Or.inl rfl) (pe_lst pa_nil))
  (pss_cons (ps_for PassesOwn.never rfl (pi_list (pe_fn (ok_level_order T) (hr.mono (by decide)) rfl (glo_level_order T) (kp_level_order T) pass0 (pa_cons (pv 0) (pa_cons (pv 1) pa_nil)))) (pg_name (i := 6) sc_visited.nd rfl (Or.inl rfl))
    (pss_one (ps_if (PW.pt (pw_and (pt_cmpR op_eq (pe_ix ix_tupH (pv 2) pe_int (fun _ _ => rfl)) (pv 6) (nomark _)) (pw_and1 (pt_val (pe_fn (ok_is_visited T) (hr.mono (by decide)) rfl (glo_is_visited T) (kp_is_visited T) pass0 (pa_cons (pe_ixF (me_Wheel___getitem__ T).at_ (fq_Wheel___getitem__ T).1 (fq_Wheel___getitem__ T).2 (ok_Wheel___getitem__ T) (hr.mono (by decide)) pass0 (in_Wheel___getitem__ K) (pv 0) (pv 6)) (pa_cons (pe_ix ix_tupH (pv 2) pe_int (fun _ _ => rfl)) (pa_cons (pv 3) (pa_cons (pv 4) pa_nil))))))))) (pss_cons (ps_set (i := 2) sc_visited.nd rfl (Or.inl rfl) (pe_fn (ok_taken_out T) (hr.mono (by decide)) rfl (glo_taken_out T) (kp_taken_out T) pass0 (pa_cons (pv 0) (pa_cons (pv 1) (pa_cons (pv 2) (pa_cons (pv 4) pa_nil))))))
  (pss_cons (ps_expr (pe_bm PySem.F.plainAttrs_list PySem.F.slot_list_append PySem.F.type_list_append mt_append (pv 5) (pa_cons (pv 2) pa_nil)))
  (pss_one (ps_if (pt_cmpR op_isN (pv 2) pe_non (nomark _)) (pss_one (ps_ret (pv 5))) pss_nil)))) pss_nil)))
  (pss_one (ps_ret (pv 5))))), rd_visited vs H Q E h⟩
theorem ok_visited (T : Tx K mg w) : FnR (PySem.Challenge.rw_timerwheels_k32_whole_journeys).prog w K mg base CX0 12 (ga K "visited") (sp_visited K) :=
  fnR_of (okk_visited T) ((d_visited T).choose_spec.bindsN fun _ _ _ _ _ _ us hl => match us, hl with | [_, _, _, _, _], _ => rfl)
theorem kp_visited (T : Tx K mg w) : keepIn K (.ref (ga K "visited")) = true := (d_visited T).choose_spec.kp
theorem sc_journey : GScope n_journey ["wheel", "book", "start", "delay"] (defScope s_journey) := ⟨rfl, rfl, rfl, by decide +kernel, rfl, by decide +kernel, by decide +kernel⟩
theorem ln0_journey (vs : List V) (H : Hp) (R : TwZ.Gt → Hp → Prop) (h : sp_journey K vs H R) : vs.length = 4 := by
  unfold sp_journey at h
  repeat (first | (exact (congrArg List.length h.1).trans rfl) | (obtain ⟨_, h⟩ := h))
theorem okz_journey (T : Tx K mg w) : TwZ.GFr (PySem.Challenge.rw_timerwheels_k32_whole_journeys).prog w K mg base 14 (ga K "journey") (sp_journey K) :=
  TwZ.gfr_of (k := 13) (N := n_journey) (d_journey T).choose_spec sc_journey (fun _ => rfl) (by decide +kernel) ((d_journey T).choose_spec.bindsN fun _ _ _ _ _ _ us hl => match us, hl with | [_, _, _, _], _ => rfl) ln0_journey fun cdv outer s H vs R h => by
    obtain ⟨J, hR, hJ⟩ := rd_journey vs H R h
    exact ⟨J, hR, fun A hr => ⟨t_journey K w J, (TwZ.gzs_cons (TwZ.gz_ps fun _ => (ps_set (i := 4) sc_journey.nd rfl (Or.inl rfl) (pe_fn (ok_place T) (hr.mono (by decide)) rfl (glo_place T) (kp_place T) pass0 (pa_cons (pv 0) (pa_cons (pv 1) (pa_cons (pv 2) (pa_cons (pv 3) pa_nil)))))))
  (TwZ.gzs_cons (TwZ.gz_ps fun _ => (ps_if (pt_cmpR op_isN (pv 4) pe_non (nomark _)) (pss_one ps_retN) pss_nil))
  (TwZ.gzs_cons (TwZ.gz_yield fun _ => (pe_tup (pa_cons (pv 2) (pa_cons (pe_ix ix_tupH (pv 4) pe_int (fun _ _ => rfl)) (pa_cons (pe_ix ix_tupH (pv 4) pe_int (fun _ _ => rfl)) pa_nil)))))
  (TwZ.gzs_cons (TwZ.gz_ps fun _ => (ps_set (i := 5) sc_journey.nd rfl (Or.inl rfl) (pv 2)))
  (TwZ.gzs_one (TwZ.gz_while (fun _ => (pt_cmpR op_notN (pv 4) pe_non (nomark _)))
    (TwZ.gzs_cons (TwZ.gz_ps fun _ => (ps_set (i := 5) sc_journey.nd rfl (Or.inl rfl) (pe_fn (ok_visit_after T) (hr.mono (by decide)) rfl (glo_visit_after T) (kp_visit_after T) pass0 (pa_cons (pe_ixF (me_Wheel___getitem__ T).at_ (fq_Wheel___getitem__ T).1 (fq_Wheel___getitem__ T).2 (ok_Wheel___getitem__ T) (hr.mono (by decide)) pass0 (in_Wheel___getitem__ K) (pv 0) (pe_ix ix_tupH (pv 4) pe_int (fun _ _ => rfl))) (pa_cons (pe_ix ix_tupH (pv 4) pe_int (fun _ _ => rfl)) (pa_cons (pv 5) pa_nil))))))
  (TwZ.gzs_one (TwZ.gz_for (fun _ => (pi_list (TwZ.pe_frz (pe_fn (ok_visited T) (hr.mono (by decide)) rfl (glo_visited T) (kp_visited T) pass0 (pa_cons (pv 0) (pa_cons (pv 1) (pa_cons (pv 4) (pa_cons (pe_op op_sub (pv 5) pe_int) (pa_cons (pv 5) pa_nil))))))))) (fun _ => (pg_name (i := 6) sc_journey.nd rfl (Or.inl rfl)))
    (TwZ.gzs_cons (TwZ.gz_ps fun _ => (ps_set (i := 4) sc_journey.nd rfl (Or.inl rfl) (pv 6)))
  (TwZ.gzs_one (TwZ.gz_if (fun _ => (pt_cmpR op_notN (pv 6) pe_non (nomark _)))
    (TwZ.gzs_one (TwZ.gz_yield fun _ => (pe_tup (pa_cons (pv 5) (pa_cons (pe_ix ix_tupH (pv 6) pe_int (fun _ _ => rfl)) (pa_cons (pe_ix ix_tupH (pv 6) pe_int (fun _ _ => rfl)) pa_nil)))))) TwZ.gzs_nil)))))))))))), hJ⟩⟩
theorem kp_journey (T : Tx K mg w) : keepIn K (.ref (ga K "journey")) = true := (d_journey T).choose_spec.kp
theorem sc_next_visit : FnScope n_next_visit ["level", "point", "now"] (defScope s_next_visit) := ⟨rfl, rfl, rfl, by decide +kernel, rfl, by decide +kernel, by decide +kernel⟩
theorem ln0_next_visit (vs : List V) (H : Hp) (Q : VK) (E : XK) (h : sp_next_visit K vs H Q E) : vs.length = 3 := by
  unfold sp_next_visit at h
  repeat (first | (exact (congrArg List.length h.1).trans rfl) | (obtain ⟨_, h⟩ := h))
theorem okk_next_visit (T : Tx K mg w) : FnOk (PySem.Challenge.rw_timerwheels_k32_whole_journeys).prog w K mg base CX0 6 (ga K "next_visit") (d_next_visit T).choose ["level", "point", "now"] (sp_next_visit K) :=
  FunD.ok (k := 5) (N := n_next_visit) (d_next_visit T).choose_spec sc_next_visit ln0_next_visit fun cdv A outer s H vs Q E hr h => ⟨t_next_visit K w, PSs.nox (pss_cons (ps_if (pt_not (pt_val (pe_fn (ok_is_count T) (hr.mono (by decide)) rfl (glo_is_count T) (kp_is_count T) pass0 (pa_cons (pv 1) pa_nil)))) (pss_one ps_never) pss_nil)
  (pss_cons (ps_if (pt_not (pt_val (pe_fn (ok_is_count T) (hr.mono (by decide)) rfl (glo_is_count T) (kp_is_count T) pass0 (pa_cons (pv 2) pa_nil)))) (pss_one ps_never) pss_nil)
  (pss_one (ps_ret (pe_fn (ok_visit_after T) (hr.mono (by decide)) rfl (glo_visit_after T) (kp_visit_after T) pass0 (pa_cons (pv 0) (pa_cons (pv 1) (pa_cons (pv 2) pa_nil)))))))), rd_next_visit vs H Q E h⟩
theorem ok_next_visit (T : Tx K mg w) : FnR (PySem.Challenge.rw_timerwheels_k32_whole_journeys).prog w K mg base CX0 6 (ga K "next_visit") (sp_next_visit K) :=
  fnR_of (okk_next_visit T) ((d_next_visit T).choose_spec.bindsN fun _ _ _ _ _ _ us hl => match us, hl with | [_, _, _], _ => rfl)
theorem kp_next_visit (T : Tx K mg w) : keepIn K (.ref (ga K "next_visit")) = true := (d_next_visit T).choose_spec.kp
theorem sc__law_belongs : FnScope n__law_belongs ["_law_rows", "_law_delay"] (defScope s__law_belongs) := ⟨rfl, rfl, rfl, by decide +kernel, rfl, by decide +kernel, by decide +kernel⟩
theorem ln0__law_belongs (vs : List V) (H : Hp) (Q : VK) (E : XK) (h : sp__law_belongs K vs H Q E) : vs.length = 2 := by
  unfold sp__law_belongs at h
  repeat (first | (exact (congrArg List.length h.1).trans rfl) | (obtain ⟨_, h⟩ := h))
theorem okk__law_belongs (T : Tx K mg w) : FnOk (PySem.Challenge.rw_timerwheels_k32_whole_journeys).prog w K mg base CX0 2 (ga K "_law_belongs") (d__law_belongs T).choose ["_law_rows", "_law_delay"] (sp__law_belongs K) :=
  FunD.ok (k := 1) (N := n__law_belongs) (d__law_belongs T).choose_spec sc__law_belongs ln0__law_belongs fun cdv A outer s H vs Q E hr h => ⟨t__law_belongs K w, PSs.nox (pss_cons (ps_for PassesOwn.never rfl (pi_enum rfl (free_enumerate T) (pa_cons (pv 0) pa_nil)) (pg_tup rfl (pgs_cons (pg_name (i := 2) sc__law_belongs.nd rfl (Or.inl rfl)) (pgs_cons (pg_name (i := 3) sc__law_belongs.nd rfl (Or.inl rfl)) pgs_nil)))
    (pss_one (ps_if (pt_cmpR op_lt (pv 1) (pe_ix ix_tupH (pv 3) pe_int (fun _ _ => rfl)) (nomark _)) (pss_one (ps_ret (pv 2))) pss_nil)))
  (pss_one (ps_ret pe_non))), rd__law_belongs vs H Q E h⟩
theorem ok__law_belongs (T : Tx K mg w) : FnR (PySem.Challenge.rw_timerwheels_k32_whole_journeys).prog w K mg base CX0 2 (ga K "_law_belongs") (sp__law_belongs K) :=
  fnR_of (okk__law_belongs T) ((d__law_belongs T).choose_spec.bindsN fun _ _ _ _ _ _ us hl => match us, hl with | [_, _], _ => rfl)
theorem kp__law_belongs (T : Tx K mg w) : keepIn K (.ref (ga K "_law_belongs")) = true := (d__law_belongs T).choose_spec.kp
theorem sc__law_turned : FnScope n__law_turned ["_law_tick", "_law_grain", "_law_way"] (defScope s__law_turned) := ⟨rfl, rfl, rfl, by decide +kernel, rfl, by decide +kernel, by decide +kernel⟩
theorem ln0__law_turned (vs : List V) (H : Hp) (Q : VK) (E : XK) (h : sp__law_turned K vs H Q E) : vs.length = 3 := by
  unfold sp__law_turned at h
  repeat (first | (exact (congrArg List.length h.1).trans rfl) | (obtain ⟨_, h⟩ := h))
theorem okk__law_turned (T : Tx K mg w) : FnOk (PySem.Challenge.rw_timerwheels_k32_whole_journeys).prog w K mg base CX0 2 (ga K "_law_turned") (d__law_turned T).choose ["_law_tick", "_law_grain", "_law_way"] (sp__law_turned K) :=
  FunD.ok (k := 1) (N := n__law_turned) (d__law_turned T).choose_spec sc__law_turned ln0__law_turned fun cdv A outer s H vs Q E hr h => ⟨t__law_turned K w, PSs.nox (pss_one (ps_ret (pe_ifExp (pt_cmpR op_eq (pv 2) pe_str (nomark _)) (pe_op op_fdiv (pe_op op_sub (pe_op op_add (pv 0) (pv 1)) pe_int) (pv 1)) (pe_op op_fdiv (pv 0) (pv 1))))), rd__law_turned vs H Q E h⟩
theorem ok__law_turned (T : Tx K mg w) : FnR (PySem.Challenge.rw_timerwheels_k32_whole_journeys).prog w K mg base CX0 2 (ga K "_law_turned") (sp__law_turned K) :=
  fnR_of (okk__law_turned T) ((d__law_turned T).choose_spec.bindsN fun _ _ _ _ _ _ us hl => match us, hl with | [_, _, _], _ => rfl)
theorem kp__law_turned (T : Tx K mg w) : keepIn K (.ref (ga K "_law_turned")) = true := (d__law_turned T).choose_spec.kp
theorem sc__law_spot_at : FnScope n__law_spot_at ["_law_rows", "_law_values", "_law_here", "_law_rest", "_law_due"] (defScope s__law_spot_at) := ⟨rfl, rfl, rfl, by decide +kernel, rfl, by decide +kernel, by decide +kernel⟩
theorem ln0__law_spot_at (vs : List V) (H : Hp) (Q : VK) (E : XK) (h : sp__law_spot_at K vs H Q E) : vs.length = 5 := by
  unfold sp__law_spot_at at h
  repeat (first | (exact (congrArg List.length h.1).trans rfl) | (obtain ⟨_, h⟩ := h))
theorem okk__law_spot_at (T : Tx K mg w) : FnOk (PySem.Challenge.rw_timerwheels_k32_whole_journeys).prog w K mg base CX0 4 (ga K "_law_spot_at") (d__law_spot_at T).choose ["_law_rows", "_law_values", "_law_here", "_law_rest", "_law_due"] (sp__law_spot_at K) :=
  FunD.ok (k := 3) (N := n__law_spot_at) (d__law_spot_at T).choose_spec sc__law_spot_at ln0__law_spot_at fun cdv A outer s H vs Q E hr h => ⟨t__law_spot_at K w, PSs.nox (pss_cons (ps_set (i := 5) sc__law_spot_at.nd rfl (Or.inl rfl) (pe_fn (ok__law_belongs T) (hr.mono (by decide)) rfl (glo__law_belongs T) (kp__law_belongs T) pass0 (pa_cons (pv 0) (pa_cons (pv 3) pa_nil))))
  (pss_cons (ps_set (i := 6) sc__law_spot_at.nd rfl (Or.inl rfl) (pe_op op_add (pv 2) (pv 3)))
  (pss_cons (ps_if (pt_cmpR op_isN (pv 5) pe_non (nomark _)) (pss_one (ps_par (i := 5) (j := 6) (by rfl) sc__law_spot_at.nd rfl rfl (by decide) rfl rfl (pa_cons (pe_op op_sub (pe_callB call_lenL (by rfl) (free_len T) (by decide +kernel) (pa_cons (pv 0) pa_nil)) pe_int) (pa_cons (pe_op op_sub (pe_op op_add (pv 2) (pe_ix ix_tupH (pe_ix ix_lstH (pv 0) (pe_un un_neg pe_int) (fun _ _ => rfl)) pe_int (fun _ _ => rfl))) pe_int) pa_nil)) (by rfl))) pss_nil)
  (pss_one (ps_ret (pe_tup (pa_cons (pv 5) (pa_cons (pe_fn (ok__law_turned T) (hr.mono (by decide)) rfl (glo__law_turned T) (kp__law_turned T) pass0 (pa_cons (pv 6) (pa_cons (pe_ix ix_tupH (pe_ix ix_lstH (pv 0) (pv 5) (fun _ _ => rfl)) pe_int (fun _ _ => rfl)) (pa_cons (pe_ix ix_lstH (pv 1) pe_int (fun _ _ => rfl)) pa_nil)))) (pa_cons (pv 4) pa_nil))))))))), rd__law_spot_at vs H Q E h⟩
theorem ok__law_spot_at (T : Tx K mg w) : FnR (PySem.Challenge.rw_timerwheels_k32_whole_journeys).prog w K mg base CX0 4 (ga K "_law_spot_at") (sp__law_spot_at K) :=
  fnR_of (okk__law_spot_at T) ((d__law_spot_at T).choose_spec.bindsN fun _ _ _ _ _ _ us hl => match us, hl with | [_, _, _, _, _], _ => rfl)
theorem kp__law_spot_at (T : Tx K mg w) : keepIn K (.ref (ga K "_law_spot_at")) = true := (d__law_spot_at T).choose_spec.kp
theorem sc__law_next_right : FnScope n__law_next_right ["_law_rows", "_law_values", "_law_wheel", "_law_book", "_law_due", "_law_one", "_law_other"] (defScope s__law_next_right) := ⟨rfl, rfl, rfl, by decide +kernel, rfl, by decide +kernel, by decide +kernel⟩
theorem ln0__law_next_right (vs : List V) (H : Hp) (Q : VK) (E : XK) (h : sp__law_next_right K vs H Q E) : vs.length = 7 := by
  unfold sp__law_next_right at h
  repeat (first | (exact (congrArg List.length h.1).trans rfl) | (obtain ⟨_, h⟩ := h))
theorem okk__law_next_right (T : Tx K mg w) : FnOk (PySem.Challenge.rw_timerwheels_k32_whole_journeys).prog w K mg base CX0 8 (ga K "_law_next_right") (d__law_next_right T).choose ["_law_rows", "_law_values", "_law_wheel", "_law_book", "_law_due", "_law_one", "_law_other"] (sp__law_next_right K) :=
  FunD.ok (k := 7) (N := n__law_next_right) (d__law_next_right T).choose_spec sc__law_next_right ln0__law_next_right fun cdv A outer s H vs Q E hr h => ⟨t__law_next_right K w, PSs.nox (pss_cons (ps_asg (pv 6) (pg_tup rfl (pgs_cons (pg_name (i := 7) sc__law_next_right.nd rfl (Or.inl rfl)) (pgs_cons (pg_name (i := 8) sc__law_next_right.nd rfl (Or.inl rfl)) (pgs_cons (pg_name (i := 9) sc__law_next_right.nd rfl (Or.inl rfl)) pgs_nil)))))
  (pss_cons (ps_set (i := 10) sc__law_next_right.nd rfl (Or.inl rfl) (pe_fn (ok_next_visit T) (hr.mono (by decide)) rfl (glo_next_visit T) (kp_next_visit T) pass0 (pa_cons (pe_ixF (me_Wheel___getitem__ T).at_ (fq_Wheel___getitem__ T).1 (fq_Wheel___getitem__ T).2 (ok_Wheel___getitem__ T) (hr.mono (by decide)) pass0 (in_Wheel___getitem__ K) (pv 2) (pe_ix ix_tupH (pv 5) pe_int (fun _ _ => rfl))) (pa_cons (pe_ix ix_tupH (pv 5) pe_int (fun _ _ => rfl)) (pa_cons (pe_ix ix_tupH (pv 5) pe_int (fun _ _ => rfl)) pa_nil)))))
  (pss_cons (ps_if (PW.pt (pw_and (pt_cmpR op_ne (pv 7) (pv 10) (nomark _)) (pw_and1 (pt_cmpR op_ne (pv 7) (pe_ix ix_tupH (pv 5) pe_int (fun _ _ => rfl)) (nomark _))))) (pss_one (ps_ret pe_bl)) pss_nil)
  (pss_cons (ps_if (pt_cmpR op_eq (pv 7) (pe_ix ix_tupH (pv 5) pe_int (fun _ _ => rfl)) (nomark _)) (pss_cons (ps_set (i := 11) sc__law_next_right.nd rfl (Or.inl rfl) (pe_ixF (me_Wheel___getitem__ T).at_ (fq_Wheel___getitem__ T).1 (fq_Wheel___getitem__ T).2 (ok_Wheel___getitem__ T) (hr.mono (by decide)) pass0 (in_Wheel___getitem__ K) (pv 2) (pe_ix ix_tupH (pv 5) pe_int (fun _ _ => rfl))))
  (pss_cons (ps_if (PW.pt (pw_or (pt_cmpR op_ne (pe_ix ix_lstH (pv 1) pe_int (fun _ _ => rfl)) pe_str (nomark _)) (pw_or (pt_cmpR op_lt (pe_ix ix_tupH (pv 5) pe_int (fun _ _ => rfl)) (pv 8) (nomark _)) (pw_or1 (pt_cmpR op_ne (pe_op op_mod (pv 7) (pe_propF (pv 11) (cls_Level T) (pr_Level_grain T) (ok_Level_grain T) (hr.mono (by decide)) pass0 (in_Level_grain K))) pe_int (nomark _)))))) (pss_one (ps_ret pe_bl)) pss_nil)
  (pss_one (ps_if (pt_cmpR op_ne (pe_op op_mod (pe_op op_sub (pe_op op_fdiv (pv 7) (pe_propF (pv 11) (cls_Level T) (pr_Level_grain T) (ok_Level_grain T) (hr.mono (by decide)) pass0 (in_Level_grain K))) (pe_ix ix_tupH (pv 5) pe_int (fun _ _ => rfl))) (pe_propF (pv 11) (cls_Level T) (pr_Level_slots T) (ok_Level_slots T) (hr.mono (by decide)) pass0 (in_Level_slots K))) pe_int (nomark _)) (pss_one (ps_ret pe_bl)) pss_nil)))) pss_nil)
  (pss_cons (ps_if (PW.pt (pw_or (pt_cmpR op_eq (pe_ix ix_lstH (pv 1) pe_int (fun _ _ => rfl)) pe_str (nomark _)) (pw_or1 (pt_cmpR op_eq (pe_ix ix_tupH (pv 5) pe_int (fun _ _ => rfl)) pe_int (nomark _))))) (pss_one (ps_ret pe_bl)) pss_nil)
  (pss_cons (ps_if (pt_cmpR op_gt (pv 4) (pv 7) (nomark _)) (pss_one (ps_ret (pe_cmpR (op_eqD (ul hr)) (pe_tup (pa_cons (pv 8) (pa_cons (pv 9) (pa_cons (pv 4) pa_nil)))) (pe_fn (ok__law_spot_at T) (hr.mono (by decide)) rfl (glo__law_spot_at T) (kp__law_spot_at T) pass0 (pa_cons (pv 0) (pa_cons (pv 1) (pa_cons (pv 7) (pa_cons (pe_op op_sub (pv 4) (pv 7)) (pa_cons (pv 4) pa_nil)))))) (nomark _)))) pss_nil)
  (pss_one (ps_ret (pe_and (pe_cmpR op_eq (pe_ix ix_lstH (pv 1) pe_int (fun _ _ => rfl)) pe_str (nomark _)) (pe_and (pe_cmpR op_eq (pv 8) pe_int (nomark _)) (pe_one (pe_cmpR op_eq (pv 9) (pv 7) (nomark _))))))))))))), rd__law_next_right vs H Q E h⟩
theorem ok__law_next_right (T : Tx K mg w) : FnR (PySem.Challenge.rw_timerwheels_k32_whole_journeys).prog w K mg base CX0 8 (ga K "_law_next_right") (sp__law_next_right K) :=
  fnR_of (okk__law_next_right T) ((d__law_next_right T).choose_spec.bindsN fun _ _ _ _ _ _ us hl => match us, hl with | [_, _, _, _, _, _, _], _ => rfl)
theorem kp__law_next_right (T : Tx K mg w) : keepIn K (.ref (ga K "_law_next_right")) = true := (d__law_next_right T).choose_spec.kp
theorem sc__law_far_right : FnScope n__law_far_right ["_law_pool", "_law_rows", "_law_values", "_law_start"] (defScope s__law_far_right) := ⟨rfl, rfl, rfl, by decide +kernel, rfl, by decide +kernel, by decide +kernel⟩
theorem ln0__law_far_right (vs : List V) (H : Hp) (Q : VK) (E : XK) (h : sp__law_far_right K vs H Q E) : vs.length = 4 := by
  unfold sp__law_far_right at h
  repeat (first | (exact (congrArg List.length h.1).trans rfl) | (obtain ⟨_, h⟩ := h))
theorem okk__law_far_right (T : Tx K mg w) : FnOk (PySem.Challenge.rw_timerwheels_k32_whole_journeys).prog w K mg base CX0 16 (ga K "_law_far_right") (d__law_far_right T).choose ["_law_pool", "_law_rows", "_law_values", "_law_start"] (sp__law_far_right K) :=
  FunD.ok (k := 15) (N := n__law_far_right) (d__law_far_right T).choose_spec sc__law_far_right ln0__law_far_right fun cdv A outer s H vs Q E hr h => ⟨t__law_far_right K w, PSs.nox (pss_cons (ps_set (i := 4) sc__law_far_right.nd rfl (Or.inl rfl) (pe_op op_cat (pe_op op_cat (pe_op op_cat (pe_slice sl_list (pv 2) po_none (po_some pe_int)) (pe_lst (pa_cons pe_str pa_nil))) (pe_slice sl_list (pv 2) (po_some pe_int) (po_some pe_int))) (pe_lst (pa_cons pe_str pa_nil))))
  (pss_cons (ps_par (i := 5) (j := 6) (by rfl) sc__law_far_right.nd rfl rfl (by decide) rfl rfl (pa_cons (pe_fn (ok__law_made_wheel T) (hr.mono (by decide)) rfl (glo__law_made_wheel T) (kp__law_made_wheel T) pass0 (pa_cons (pv 1) pa_nil)) (pa_cons (pe_fn (ok__law_made_book T) (hr.mono (by decide)) rfl (glo__law_made_book T) (kp__law_made_book T) pass0 (pa_cons (pv 4) pa_nil)) pa_nil)) (by rfl))
  (pss_cons (ps_par (i := 7) (j := 8) (by rfl) sc__law_far_right.nd rfl rfl (by decide) rfl rfl (pa_cons (pe_op op_add (pe_op op_add (pe_ix ix_tupH (pe_ix ix_lstH (pv 1) (pe_un un_neg pe_int) (fun _ _ => rfl)) pe_int (fun _ _ => rfl)) (pe_op op_pow pe_int pe_int)) (pe_fn (ok__law_draw T) (hr.mono (by decide)) rfl (glo__law_draw T) (kp__law_draw T) pass0 (pa_cons (pv 0) (pa_cons (pe_op op_pow pe_int pe_int) pa_nil)))) (pa_cons (pe_lst pa_nil) pa_nil)) (by rfl))
  (pss_cons (TwZ.ps_forG PassesOwn.never (TwZ.mild_nox fun _ _ z => z) rfl (hr.mono (Nat.zero_le _)) (TwZ.pig_callR (okz_journey T) (hr.mono (by decide)) rfl (glo_journey T) (kp_journey T) (pa_cons (pv 5) (pa_cons (pv 6) (pa_cons (pv 3) (pa_cons (pv 7) pa_nil))))) (pg_name (i := 9) sc__law_far_right.nd rfl (Or.inl rfl))
    (pss_cons (ps_expr (pe_bm PySem.F.plainAttrs_list PySem.F.slot_list_append PySem.F.type_list_append mt_append (pv 8) (pa_cons (pv 9) pa_nil)))
  (pss_one (ps_if (PW.pt (pw_and (pt_cmpR op_eq (pe_callB call_lenL (by rfl) (free_len T) (by decide +kernel) (pa_cons (pv 8) pa_nil)) pe_int (nomark _)) (pw_and1 (pt_cmpR op_gt (pe_callB call_lenL (by rfl) (free_len T) (by decide +kernel) (pa_cons (pv 1) pa_nil)) pe_int (nomark _))))) (pss_one ps_break) pss_nil))))
  (pss_cons (ps_set (i := 10) sc__law_far_right.nd rfl (Or.inl rfl) (pe_fn (ok_place T) (hr.mono (by decide)) rfl (glo_place T) (kp_place T) pass0 (pa_cons (pv 5) (pa_cons (pv 6) (pa_cons (pv 3) (pa_cons (pv 7) pa_nil))))))
  (pss_cons (ps_if (PW.pt (pw_or (pt_cmpR (op_neD (ul hr)) (pe_ix ix_lstH (pv 8) pe_int (fun _ _ => rfl)) (pe_tup (pa_cons (pv 3) (pa_cons (pe_ix ix_tupH (pv 10) pe_int (fun _ _ => rfl)) (pa_cons (pe_ix ix_tupH (pv 10) pe_int (fun _ _ => rfl)) pa_nil)))) (nomark _)) (pw_or1 (pt_cmpR op_ne (pe_callB call_lenL (by rfl) (free_len T) (by decide +kernel) (pa_cons (pv 8) pa_nil)) (pe_ifExp (pt_cmpR op_gt (pe_callB call_lenL (by rfl) (free_len T) (by decide +kernel) (pa_cons (pv 1) pa_nil)) pe_int (nomark _)) pe_int pe_int) (nomark _))))) (pss_one (ps_ret pe_bl)) pss_nil)
  (pss_cons (ps_for PassesOwn.never rfl (RZ.pi_zipA rfl (free_zip T) (pa_cons (pv 8) (pa_cons (pe_slice sl_list (pv 8) (po_some pe_int) po_none) pa_nil))) (pg_tup rfl (pgs_cons (pg_name (i := 11) sc__law_far_right.nd rfl (Or.inl rfl)) (pgs_cons (pg_name (i := 12) sc__law_far_right.nd rfl (Or.inl rfl)) pgs_nil)))
    (pss_one (ps_if (pt_not (pt_val (pe_fn (ok__law_next_right T) (hr.mono (by decide)) rfl (glo__law_next_right T) (kp__law_next_right T) pass0 (pa_cons (pv 1) (pa_cons (pv 4) (pa_cons (pv 5) (pa_cons (pv 6) (pa_cons (pe_ix ix_tupH (pv 10) pe_int (fun _ _ => rfl)) (pa_cons (pv 11) (pa_cons (pv 12) pa_nil)))))))))) (pss_one (ps_ret pe_bl)) pss_nil)))
  (pss_one (ps_ret pe_bl))))))))), rd__law_far_right vs H Q E h⟩
theorem ok__law_far_right (T : Tx K mg w) : FnR (PySem.Challenge.rw_timerwheels_k32_whole_journeys).prog w K mg base CX0 16 (ga K "_law_far_right") (sp__law_far_right K) :=
  fnR_of (okk__law_far_right T) ((d__law_far_right T).choose_spec.bindsN fun _ _ _ _ _ _ us hl => match us, hl with | [_, _, _, _], _ => rfl)
theorem kp__law_far_right (T : Tx K mg w) : keepIn K (.ref (ga K "_law_far_right")) = true := (d__law_far_right T).choose_spec.kp
theorem sc_skipped : FnScope n_skipped ["wheel", "spot", "tick", "limit"] (defScope s_skipped) := ⟨rfl, rfl, rfl, by decide +kernel, rfl, by decide +kernel, by decide +kernel⟩
theorem ln0_skipped (vs : List V) (H : Hp) (Q : VK) (E : XK) (h : sp_skipped K vs H Q E) : vs.length = 4 := by
  unfold sp_skipped at h
  repeat (first | (exact (congrArg List.length h.1).trans rfl) | (obtain ⟨_, h⟩ := h))
theorem okk_skipped (T : Tx K mg w) : FnOk (PySem.Challenge.rw_timerwheels_k32_whole_journeys).prog w K mg base CX0 8 (ga K "skipped") (d_skipped T).choose ["wheel", "spot", "tick", "limit"] (sp_skipped K) :=
  FunD.ok (k := 7) (N := n_skipped) (d_skipped T).choose_spec sc_skipped ln0_skipped fun cdv A outer s H vs Q E hr h => ⟨t_skipped K w, PSs.nox (pss_cons (ps_set (i := 4) sc_skipped.nd rfl (Or.inl rfl) (pe_op op_sub (pe_ix ix_tupH (pv 1) pe_int (fun _ _ => rfl)) (pv 2)))
  (pss_cons (ps_if (PW.pt (pw_or (pt_cmpR op_ne (pe_ix ix_tupH (pv 1) pe_int (fun _ _ => rfl)) (pe_op op_sub (pe_callB (call_lenF (me_Wheel___len__ T).at_ (fq_Wheel___len__ T).1 (ok_Wheel___len__ T) (hr.mono (by decide)) pass0 (in_Wheel___len__ K) (ln_Wheel___len__ K)) (by rfl) (free_len T) (by decide +kernel) (pa_cons (pv 0) pa_nil)) pe_int) (nomark _)) (pw_or1 (pt_cmpR op_lt (pv 4) (pe_propF (pv 0) (cls_Wheel T) (pr_Wheel_reach T) (ok_Wheel_reach T) (hr.mono (by decide)) pass0 (in_Wheel_reach K)) (nomark _))))) (pss_one (ps_ret (pe_tup (pa_cons pe_int (pa_cons pe_int pa_nil))))) pss_nil)
  (pss_cons (ps_set (i := 5) sc_skipped.nd rfl (Or.inl rfl) (pe_op op_sub (pe_fn (ok_visit_after T) (hr.mono (by decide)) rfl (glo_visit_after T) (kp_visit_after T) pass0 (pa_cons (pe_ixF (me_Wheel___getitem__ T).at_ (fq_Wheel___getitem__ T).1 (fq_Wheel___getitem__ T).2 (ok_Wheel___getitem__ T) (hr.mono (by decide)) pass0 (in_Wheel___getitem__ K) (pv 0) (pe_ix ix_tupH (pv 1) pe_int (fun _ _ => rfl))) (pa_cons (pe_ix ix_tupH (pv 1) pe_int (fun _ _ => rfl)) (pa_cons (pv 2) pa_nil)))) (pv 2)))
  (pss_cons (ps_set (i := 6) sc_skipped.nd rfl (Or.inl rfl) (pe_op op_fdiv (pe_op op_sub (pv 4) (pe_propF (pv 0) (cls_Wheel T) (pr_Wheel_reach T) (ok_Wheel_reach T) (hr.mono (by decide)) pass0 (in_Wheel_reach K))) (pv 5)))
  (pss_cons (ps_if (pt_cmpR op_notN (pv 3) pe_non (nomark _)) (pss_one (ps_set (i := 6) sc_skipped.nd rfl (Or.inl rfl) (pe_callB (call_min2 rfl) (by rfl) (free_min T) (by decide +kernel) (pa_cons (pe_callTy call_int1 (by rfl) (free_int T) (by decide +kernel) (pa_cons (pv 6) pa_nil)) (pa_cons (pe_callTy call_int1 (by rfl) (free_int T) (by decide +kernel) (pa_cons (pe_op op_fdiv (pe_op op_sub (pv 3) (pv 2)) (pv 5)) pa_nil)) pa_nil))))) pss_nil)
  (pss_one (ps_ret (pe_tup (pa_cons (pv 6) (pa_cons (pv 5) pa_nil)))))))))), rd_skipped vs H Q E h⟩
theorem ok_skipped (T : Tx K mg w) : FnR (PySem.Challenge.rw_timerwheels_k32_whole_journeys).prog w K mg base CX0 8 (ga K "skipped") (sp_skipped K) :=
  fnR_of (okk_skipped T) ((d_skipped T).choose_spec.bindsN fun _ _ _ _ _ _ us hl => match us, hl with | [_, _, _, _], _ => rfl)
theorem kp_skipped (T : Tx K mg w) : keepIn K (.ref (ga K "skipped")) = true := (d_skipped T).choose_spec.kp
theorem sc_shifted : FnScope n_shifted ["wheel", "book", "spot", "tick"] (defScope s_shifted) := ⟨rfl, rfl, rfl, by decide +kernel, rfl, by decide +kernel, by decide +kernel⟩
theorem ln0_shifted (vs : List V) (H : Hp) (Q : VK) (E : XK) (h : sp_shifted K vs H Q E) : vs.length = 4 := by
  unfold sp_shifted at h
  repeat (first | (exact (congrArg List.length h.1).trans rfl) | (obtain ⟨_, h⟩ := h))
theorem okk_shifted (T : Tx K mg w) : FnOk (PySem.Challenge.rw_timerwheels_k32_whole_journeys).prog w K mg base CX0 10 (ga K "shifted") (d_shifted T).choose ["wheel", "book", "spot", "tick"] (sp_shifted K) :=
  FunD.ok (k := 9) (N := n_shifted) (d_shifted T).choose_spec sc_shifted ln0_shifted fun cdv A outer s H vs Q E hr h => ⟨t_shifted K w, PSs.nox (pss_one (ps_ret (pe_fn (ok_spot_at T) (hr.mono (by decide)) rfl (glo_spot_at T) (kp_spot_at T) pass0 (pa_cons (pv 0) (pa_cons (pv 1) (pa_cons (pv 3) (pa_cons (pe_op op_sub (pe_ix ix_tupH (pv 2) pe_int (fun _ _ => rfl)) (pv 3)) (pa_cons (pe_ix ix_tupH (pv 2) pe_int (fun _ _ => rfl)) pa_nil)))))))), rd_shifted vs H Q E h⟩
theorem ok_shifted (T : Tx K mg w) : FnR (PySem.Challenge.rw_timerwheels_k32_whole_journeys).prog w K mg base CX0 10 (ga K "shifted") (sp_shifted K) :=
  fnR_of (okk_shifted T) ((d_shifted T).choose_spec.bindsN fun _ _ _ _ _ _ us hl => match us, hl with | [_, _, _, _], _ => rfl)
theorem kp_shifted (T : Tx K mg w) : keepIn K (.ref (ga K "shifted")) = true := (d_shifted T).choose_spec.kp
theorem sc_followed : FnScope n_followed ["wheel", "book", "spot", "before", "limit"] (defScope s_followed) := ⟨rfl, rfl, rfl, by decide +kernel, rfl, by decide +kernel, by decide +kernel⟩
theorem ln0_followed (vs : List V) (H : Hp) (Q : VK) (E : XK) (h : sp_followed K vs H Q E) : vs.length = 5 := by
  unfold sp_followed at h
  repeat (first | (exact (congrArg List.length h.1).trans rfl) | (obtain ⟨_, h⟩ := h))
theorem okk_followed (T : Tx K mg w) : FnOk (PySem.Challenge.rw_timerwheels_k32_whole_journeys).prog w K mg base CX0 14 (ga K "followed") (d_followed T).choose ["wheel", "book", "spot", "before", "limit"] (sp_followed K) :=
  FunD.ok (k := 13) (N := n_followed) (d_followed T).choose_spec sc_followed ln0_followed fun cdv A outer s H vs Q E hr h => ⟨t_followed K w, PSs.nox (pss_cons (ps_set (i := 5) sc_followed.nd rfl (Or.inl rfl) (pv 3))
  (pss_cons (ps_set (i := 6) sc_followed.nd rfl (Or.inl rfl) pe_int)
  (pss_one (ps_while PassesOwn.never (pt_val pe_bl)
    (pss_cons (ps_set (i := 7) sc_followed.nd rfl (Or.inl rfl) (pe_fn (ok_visit_after T) (hr.mono (by decide)) rfl (glo_visit_after T) (kp_visit_after T) pass0 (pa_cons (pe_ixF (me_Wheel___getitem__ T).at_ (fq_Wheel___getitem__ T).1 (fq_Wheel___getitem__ T).2 (ok_Wheel___getitem__ T) (hr.mono (by decide)) pass0 (in_Wheel___getitem__ K) (pv 0) (pe_ix ix_tupH (pv 2) pe_int (fun _ _ => rfl))) (pa_cons (pe_ix ix_tupH (pv 2) pe_int (fun _ _ => rfl)) (pa_cons (pv 5) pa_nil)))))
  (pss_cons (ps_if (PW.pt (pw_and (pt_cmpR op_notN (pv 4) pe_non (nomark _)) (pw_and1 (pt_cmpR op_gt (pv 7) (pv 4) (nomark _))))) (pss_one (ps_ret (pe_tup (pa_cons (pv 2) (pa_cons (pv 5) (pa_cons (pv 6) pa_nil)))))) pss_nil)
  (pss_cons (ps_set (i := 8) sc_followed.nd rfl (Or.inl rfl) (pe_fn (ok_visited T) (hr.mono (by decide)) rfl (glo_visited T) (kp_visited T) pass0 (pa_cons (pv 0) (pa_cons (pv 1) (pa_cons (pv 2) (pa_cons (pe_op op_sub (pv 7) pe_int) (pa_cons (pv 7) pa_nil)))))))
  (pss_cons (ps_set (i := 5) sc_followed.nd rfl (Or.inl rfl) (pv 7))
  (pss_cons (ps_if (pt_cmpR op_isN (pe_ix ix_lstH (pv 8) (pe_un un_neg pe_int) (fun _ _ => rfl)) pe_non (nomark _)) (pss_one (ps_ret (pe_tup (pa_cons pe_non (pa_cons (pv 5) (pa_cons (pe_op op_sub (pe_op op_add (pv 6) (pe_callB call_lenL (by rfl) (free_len T) (by decide +kernel) (pa_cons (pv 8) pa_nil))) pe_int) pa_nil)))))) pss_nil)
  (pss_cons (ps_set (i := 2) sc_followed.nd rfl (Or.inl rfl) (pe_ix ix_lstH (pv 8) (pe_un un_neg pe_int) (fun _ _ => rfl)))
  (pss_cons (ps_set (i := 6) sc_followed.nd rfl (Or.inl rfl) (pe_op op_add (pv 6) (pe_callB call_lenL (by rfl) (free_len T) (by decide +kernel) (pa_cons (pv 8) pa_nil))))
  (pss_cons (ps_asg (pe_fn (ok_skipped T) (hr.mono (by decide)) rfl (glo_skipped T) (kp_skipped T) pass0 (pa_cons (pv 0) (pa_cons (pv 2) (pa_cons (pv 5) (pa_cons (pv 4) pa_nil))))) (pg_tup rfl (pgs_cons (pg_name (i := 9) sc_followed.nd rfl (Or.inl rfl)) (pgs_cons (pg_name (i := 10) sc_followed.nd rfl (Or.inl rfl)) pgs_nil))))
  (pss_one (ps_if (pt_cmpR op_gt (pv 9) pe_int (nomark _)) (pss_cons (ps_set (i := 5) sc_followed.nd rfl (Or.inl rfl) (pe_op op_add (pv 5) (pe_op op_mul (pv 9) (pv 10))))
  (pss_cons (ps_set (i := 2) sc_followed.nd rfl (Or.inl rfl) (pe_fn (ok_shifted T) (hr.mono (by decide)) rfl (glo_shifted T) (kp_shifted T) pass0 (pa_cons (pv 0) (pa_cons (pv 1) (pa_cons (pv 2) (pa_cons (pv 5) pa_nil))))))
  (pss_one (ps_set (i := 6) sc_followed.nd rfl (Or.inl rfl) (pe_op op_add (pv 6) (pv 9)))))) pss_nil)))))))))))))), rd_followed vs H Q E h⟩
theorem ok_followed (T : Tx K mg w) : FnR (PySem.Challenge.rw_timerwheels_k32_whole_journeys).prog w K mg base CX0 14 (ga K "followed") (sp_followed K) :=
  fnR_of (okk_followed T) ((d_followed T).choose_spec.bindsN fun _ _ _ _ _ _ us hl => match us, hl with | [_, _, _, _, _], _ => rfl)
theorem kp_followed (T : Tx K mg w) : keepIn K (.ref (ga K "followed")) = true := (d_followed T).choose_spec.kp
theorem sc_moves : FnScope n_moves ["wheel", "book", "start", "delay"] (defScope s_moves) := ⟨rfl, rfl, rfl, by decide +kernel, rfl, by decide +kernel, by decide +kernel⟩
theorem ln0_moves (vs : List V) (H : Hp) (Q : VK) (E : XK) (h : sp_moves K vs H Q E) : vs.length = 4 := by
  unfold sp_moves at h
  repeat (first | (exact (congrArg List.length h.1).trans rfl) | (obtain ⟨_, h⟩ := h))
theorem okk_moves (T : Tx K mg w) : FnOk (PySem.Challenge.rw_timerwheels_k32_whole_journeys).prog w K mg base CX0 16 (ga K "moves") (d_moves T).choose ["wheel", "book", "start", "delay"] (sp_moves K) :=
  FunD.ok (k := 15) (N := n_moves) (d_moves T).choose_spec sc_moves ln0_moves fun cdv A outer s H vs Q E hr h => ⟨t_moves K w, PSs.nox (pss_cons (ps_set (i := 4) sc_moves.nd rfl (Or.inl rfl) (pe_fn (ok_place T) (hr.mono (by decide)) rfl (glo_place T) (kp_place T) pass0 (pa_cons (pv 0) (pa_cons (pv 1) (pa_cons (pv 2) (pa_cons (pv 3) pa_nil))))))
  (pss_cons (ps_if (pt_cmpR op_isN (pv 4) pe_non (nomark _)) (pss_one (ps_ret pe_int)) pss_nil)
  (pss_one (ps_ret (pe_ix ix_tupH (pe_fn (ok_followed T) (hr.mono (by decide)) rfl (glo_followed T) (kp_followed T) pass0 (pa_cons (pv 0) (pa_cons (pv 1) (pa_cons (pv 4) (pa_cons (pv 2) (pa_cons pe_non pa_nil)))))) pe_int (fun _ _ => rfl)))))), rd_moves vs H Q E h⟩
theorem ok_moves (T : Tx K mg w) : FnR (PySem.Challenge.rw_timerwheels_k32_whole_journeys).prog w K mg base CX0 16 (ga K "moves") (sp_moves K) :=
  fnR_of (okk_moves T) ((d_moves T).choose_spec.bindsN fun _ _ _ _ _ _ us hl => match us, hl with | [_, _, _, _], _ => rfl)
theorem kp_moves (T : Tx K mg w) : keepIn K (.ref (ga K "moves")) = true := (d_moves T).choose_spec.kp
theorem sc_fire_tick : FnScope n_fire_tick ["wheel", "book", "start", "delay"] (defScope s_fire_tick) := ⟨rfl, rfl, rfl, by decide +kernel, rfl, by decide +kernel, by decide +kernel⟩
theorem ln0_fire_tick (vs : List V) (H : Hp) (Q : VK) (E : XK) (h : sp_fire_tick K vs H Q E) : vs.length = 4 := by
  unfold sp_fire_tick at h
  repeat (first | (exact (congrArg List.length h.1).trans rfl) | (obtain ⟨_, h⟩ := h))
theorem okk_fire_tick (T : Tx K mg w) : FnOk (PySem.Challenge.rw_timerwheels_k32_whole_journeys).prog w K mg base CX0 16 (ga K "fire_tick") (d_fire_tick T).choose ["wheel", "book", "start", "delay"] (sp_fire_tick K) :=
  FunD.ok (k := 15) (N := n_fire_tick) (d_fire_tick T).choose_spec sc_fire_tick ln0_fire_tick fun cdv A outer s H vs Q E hr h => ⟨t_fire_tick K w, PSs.nox (pss_cons (ps_set (i := 4) sc_fire_tick.nd rfl (Or.inl rfl) (pe_fn (ok_place T) (hr.mono (by decide)) rfl (glo_place T) (kp_place T) pass0 (pa_cons (pv 0) (pa_cons (pv 1) (pa_cons (pv 2) (pa_cons (pv 3) pa_nil))))))
  (pss_cons (ps_if (pt_cmpR op_isN (pv 4) pe_non (nomark _)) (pss_one (ps_ret (pv 2))) pss_nil)
  (pss_one (ps_ret (pe_ix ix_tupH (pe_fn (ok_followed T) (hr.mono (by decide)) rfl (glo_followed T) (kp_followed T) pass0 (pa_cons (pv 0) (pa_cons (pv 1) (pa_cons (pv 4) (pa_cons (pv 2) (pa_cons pe_non pa_nil)))))) pe_int (fun _ _ => rfl)))))), rd_fire_tick vs H Q E h⟩
theorem ok_fire_tick (T : Tx K mg w) : FnR (PySem.Challenge.rw_timerwheels_k32_whole_journeys).prog w K mg base CX0 16 (ga K "fire_tick") (sp_fire_tick K) :=
  fnR_of (okk_fire_tick T) ((d_fire_tick T).choose_spec.bindsN fun _ _ _ _ _ _ us hl => match us, hl with | [_, _, _, _], _ => rfl)
theorem kp_fire_tick (T : Tx K mg w) : keepIn K (.ref (ga K "fire_tick")) = true := (d_fire_tick T).choose_spec.kp
theorem sc_law : FnScope n_law ["_law_script"] (defScope s_law) := ⟨rfl, rfl, rfl, by decide +kernel, rfl, by decide +kernel, by decide +kernel⟩
theorem ln0_law (vs : List V) (H : Hp) (Q : VK) (E : XK) (h : sp_law K vs H Q E) : vs.length = 1 := by
  unfold sp_law at h
  repeat (first | (exact (congrArg List.length h.1).trans rfl) | (obtain ⟨_, h⟩ := h))
theorem okL (T : Tx K mg w) {fd : FuncData} (D : FunD K "law" "law" (defArgs s_law) (defBody s_law) (defScope s_law) [] [] (ga K "law") fd) : FnOk (PySem.Challenge.rw_timerwheels_k32_whole_journeys).prog w K mg base CX0 18 (ga K "law") fd ["_law_script"] (Hd.spLaw K) :=
  FunD.ok (k := 17) (N := n_law) D sc_law ln0_law fun cdv A outer s H vs Q E hr h => ⟨t_law K w, PSs.nox (pss_cons (ps_set (i := 1) sc_law.nd rfl (Or.inl rfl) (pe_fn (ok__law_begin T) (hr.mono (by decide)) rfl (glo__law_begin T) (kp__law_begin T) pass0 (pa_cons (pv 0) pa_nil)))
  (pss_cons (ps_for PassesOwn.never rfl (pi_range1 rfl (free_range T) (pa_cons pe_int pa_nil)) (pg_name (i := 2) sc_law.nd rfl (Or.inl rfl))
    (pss_cons (ps_par (i := 3) (j := 4) (by rfl) sc_law.nd rfl rfl (by decide) rfl rfl (pa_cons (pe_fn (ok__law_draw_rows T) (hr.mono (by decide)) rfl (glo__law_draw_rows T) (kp__law_draw_rows T) pass0 (pa_cons (pv 1) (pa_cons pe_int (pa_cons pe_int (pa_cons pe_int pa_nil))))) (pa_cons (pe_fn (ok__law_draw_values T) (hr.mono (by decide)) rfl (glo__law_draw_values T) (kp__law_draw_values T) pass0 (pa_cons (pv 1) pa_nil)) pa_nil)) (by rfl))
  (pss_cons (ps_par3 (i := 5) (j := 6) (l := 7) rfl sc_law.nd rfl rfl rfl (by decide) (by decide) (by decide) rfl rfl rfl (pa_cons (pe_fn (ok__law_made_wheel T) (hr.mono (by decide)) rfl (glo__law_made_wheel T) (kp__law_made_wheel T) pass0 (pa_cons (pv 3) pa_nil)) (pa_cons (pe_fn (ok__law_made_book T) (hr.mono (by decide)) rfl (glo__law_made_book T) (kp__law_made_book T) pass0 (pa_cons (pv 4) pa_nil)) (pa_cons (pe_ix ix_tupH (pe_ix ix_lstH (pv 3) (pe_un un_neg pe_int) (fun _ _ => rfl)) pe_int (fun _ _ => rfl)) pa_nil))) (by rfl))
  (pss_cons (ps_set (i := 8) sc_law.nd rfl (Or.inl rfl) (pe_ix ix_lstH (pe_lst (pa_cons (pe_fn (ok__law_draw T) (hr.mono (by decide)) rfl (glo__law_draw T) (kp__law_draw T) pass0 (pa_cons (pv 1) (pa_cons pe_int pa_nil))) (pa_cons (pe_fn (ok__law_draw T) (hr.mono (by decide)) rfl (glo__law_draw T) (kp__law_draw T) pass0 (pa_cons (pv 1) (pa_cons (pe_op op_pow pe_int pe_int) pa_nil))) pa_nil))) (pe_fn (ok__law_draw T) (hr.mono (by decide)) rfl (glo__law_draw T) (kp__law_draw T) pass0 (pa_cons (pv 1) (pa_cons pe_int pa_nil))) (fun _ _ => rfl)))
  (pss_cons (ps_set (i := 9) sc_law.nd rfl (Or.inl rfl) (pe_ix ix_lstH (pe_lst (pa_cons (pe_op op_add pe_int (pe_fn (ok__law_draw T) (hr.mono (by decide)) rfl (glo__law_draw T) (kp__law_draw T) pass0 (pa_cons (pv 1) (pa_cons (pe_op op_sub (pv 7) pe_int) pa_nil)))) (pa_cons (pe_op op_add pe_int (pe_fn (ok__law_draw T) (hr.mono (by decide)) rfl (glo__law_draw T) (kp__law_draw T) pass0 (pa_cons (pv 1) (pa_cons (pe_op op_mul pe_int (pv 7)) pa_nil)))) pa_nil))) (pe_callTy call_int1 (by rfl) (free_int T) (by decide +kernel) (pa_cons (pe_cmpR op_ne (pe_ix ix_lstH (pv 4) pe_int (fun _ _ => rfl)) pe_str (nomark _)) pa_nil)) (fun _ _ => rfl)))
  (pss_cons (ps_if (PW.pt (pw_and (pt_cmpR op_eq (pv 2) pe_int (nomark _)) (pw_and1 (pt_not (pt_val (pe_fn (ok__law_far_right T) (hr.mono (by decide)) rfl (glo__law_far_right T) (kp__law_far_right T) pass0 (pa_cons (pv 1) (pa_cons (pv 3) (pa_cons (pv 4) (pa_cons (pv 8) pa_nil)))))))))) (pss_one (ps_ret pe_bl)) pss_nil)
  (pss_cons (ps_set (i := 10) sc_law.nd rfl (Or.inl rfl) (TwZ.pe_listG rfl hr rfl (free_list T) (TwZ.pigw_callR (okz_journey T) (hr.mono (by decide)) rfl (glo_journey T) (kp_journey T) (pa_cons (pv 5) (pa_cons (pv 6) (pa_cons (pv 8) (pa_cons (pv 9) pa_nil)))))))
  (pss_cons (ps_set (i := 11) sc_law.nd rfl (Or.inl rfl) (pe_fn (ok_place T) (hr.mono (by decide)) rfl (glo_place T) (kp_place T) pass0 (pa_cons (pv 5) (pa_cons (pv 6) (pa_cons (pv 8) (pa_cons (pv 9) pa_nil))))))
  (pss_cons (ps_if (PW.pt (pw_or (pt_cmpR (op_neD (ul hr)) (pe_ix ix_lstH (pv 10) pe_int (fun _ _ => rfl)) (pe_tup (pa_cons (pv 8) (pa_cons (pe_ix ix_tupH (pv 11) pe_int (fun _ _ => rfl)) (pa_cons (pe_ix ix_tupH (pv 11) pe_int (fun _ _ => rfl)) pa_nil)))) (nomark _)) (pw_or1 (pt_cmpR op_ne (pe_callB call_lenL (by rfl) (free_len T) (by decide +kernel) (pa_cons (pv 10) pa_nil)) (pe_op op_add (pe_fn (ok_moves T) (hr.mono (by decide)) rfl (glo_moves T) (kp_moves T) pass0 (pa_cons (pv 5) (pa_cons (pv 6) (pa_cons (pv 8) (pa_cons (pv 9) pa_nil))))) pe_int) (nomark _))))) (pss_one (ps_ret pe_bl)) pss_nil)
  (pss_cons (ps_for PassesOwn.never rfl (RZ.pi_zipA rfl (free_zip T) (pa_cons (pv 10) (pa_cons (pe_slice sl_list (pv 10) (po_some pe_int) po_none) pa_nil))) (pg_tup rfl (pgs_cons (pg_name (i := 12) sc_law.nd rfl (Or.inl rfl)) (pgs_cons (pg_name (i := 13) sc_law.nd rfl (Or.inl rfl)) pgs_nil)))
    (pss_one (ps_if (pt_not (pt_val (pe_fn (ok__law_next_right T) (hr.mono (by decide)) rfl (glo__law_next_right T) (kp__law_next_right T) pass0 (pa_cons (pv 3) (pa_cons (pv 4) (pa_cons (pv 5) (pa_cons (pv 6) (pa_cons (pe_ix ix_tupH (pv 11) pe_int (fun _ _ => rfl)) (pa_cons (pv 12) (pa_cons (pv 13) pa_nil)))))))))) (pss_one (ps_ret pe_bl)) pss_nil)))
  (pss_cons (ps_asg (pe_ix ix_lstH (pv 10) (pe_un un_neg pe_int) (fun _ _ => rfl)) (pg_tup rfl (pgs_cons (pg_name (i := 14) sc_law.nd rfl (Or.inl rfl)) (pgs_cons (pg_name (i := 15) sc_law.nd rfl (Or.inl rfl)) (pgs_cons (pg_name (i := 16) sc_law.nd rfl (Or.inl rfl)) pgs_nil)))))
  (pss_cons (ps_par (i := 17) (j := 18) (by rfl) sc_law.nd rfl rfl (by decide) rfl rfl (pa_cons (pe_fn (ok_fire_tick T) (hr.mono (by decide)) rfl (glo_fire_tick T) (kp_fire_tick T) pass0 (pa_cons (pv 5) (pa_cons (pv 6) (pa_cons (pv 8) (pa_cons (pv 9) pa_nil))))) (pa_cons (pe_cmpR op_eq (pe_op op_mod (pv 14) (pe_propF (pe_ixF (me_Wheel___getitem__ T).at_ (fq_Wheel___getitem__ T).1 (fq_Wheel___getitem__ T).2 (ok_Wheel___getitem__ T) (hr.mono (by decide)) pass0 (in_Wheel___getitem__ K) (pv 5) (pv 15)) (cls_Level T) (pr_Level_grain T) (ok_Level_grain T) (hr.mono (by decide)) pass0 (in_Level_grain K))) pe_int (nomark _)) pa_nil)) (by rfl))
  (pss_one (ps_if (PW.pt (pw_and (pt_cmpR op_ne (pv 17) (pe_fn (ok_next_visit T) (hr.mono (by decide)) rfl (glo_next_visit T) (kp_next_visit T) pass0 (pa_cons (pe_ixF (me_Wheel___getitem__ T).at_ (fq_Wheel___getitem__ T).1 (fq_Wheel___getitem__ T).2 (ok_Wheel___getitem__ T) (hr.mono (by decide)) pass0 (in_Wheel___getitem__ K) (pv 5) (pv 15)) (pa_cons (pv 16) (pa_cons (pv 14) pa_nil)))) (nomark _)) (pw_and1 (pt_not (PW.pt (pw_and (pt_cmpR op_eq (pv 17) (pv 14) (nomark _)) (pw_and (pt_val (pv 18)) (pw_and1 (pt_cmpR op_gt (pe_callB call_lenL (by rfl) (free_len T) (by decide +kernel) (pa_cons (pv 10) pa_nil)) pe_int (nomark _)))))))))) (pss_one (ps_ret pe_bl)) pss_nil))))))))))))))
  (pss_one (ps_ret pe_bl)))), rd_law vs H Q E h⟩
end
end Tw
theorem PySem.Challenge.cw_timerwheels_k32_whole_journeys_holds : PySem.Challenge.rw_timerwheels_k32_whole_journeys.Holds := by
  exact Hd.holds (k := 18) (CX := L2.CX0) (fun _ _ _ _ z => z) ⟨rfl, by decide, by decide⟩ fun K mg w base fd T D => Tw.okL T D
