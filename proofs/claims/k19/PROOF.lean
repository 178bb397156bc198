import PyProof.Rows.All
import Wide.All
import OpenK.AllK
import Wide.FinOn
import HandS.ForMost
import HandS.ForExc
import HandS.Defaults
import HandS.Property
import HandS.ClsMeth
import HandS.IsInst
import HandS.Head0
import HandS.Head1
import HandS.Head2
import HandS.HeadEnd
import HandS.HeadHook1
import HandS.HeadHook2
import HandS.HeadHook3
import HandS.HeadNt
import HandS.Wide
import HandS.Flt
import HandS.Flow
import HandS.MakeKwOnly
import HandS.Star
import HandS.Zip
import HandS.Conv
import HandS.Style
import HandS.SlotsOwn
import HandS.NoneIn
import HandS.More
import HandS.RaiseMore
import PyProof.ReprRoads
import HandS.ExcInit
import HandS.ExcField
import HandS.Nested
import KE.KExcSuper
import KE.KSuper
import KE.KExcInit
import PyProof.ExcBaseAll.OverflowError
import PyProof.ExcBaseAll.LookupError
import HandS.TryMany
import HandS.HotCalls
import HandS.Codes
import HandS.Lambda
import HandS.ExcIs
import KE.GoesMore
import KE.GoesZip
import KE.GoesEnum
import PyProof.Draws
import HandS.Walk
import PyProof.ListRange
import PyProof.LongRange
import HandS.FStrTup
import PyProof.FitsInt
import HandS.EndTab
import HandS.NestedK
import PySem.Challenge.RW_timerwheels_k19_lateness
set_option Elab.async false
set_option linter.all false
set_option maxRecDepth 100000
set_option maxHeartbeats 4000000
/-! Tw: a Hook of our own: facts by names, facts by Bools, defs at any address, tables with text keys -/
namespace Tw
open PySem PySem.Spec PyProof.Rows L2 He PySem.W

/-! ### addresses -/
/-- the getter of a property -/
def pa (K : Frag) (C : Addr) (f : PySem.Str) : Addr := match recIn K (ma K C f) "property" with
  | some (.ref g :: _) => g
  | _ => 0
/-- an item of a written dict -/
def dva (K : Frag) (d : Addr) (x : PySem.Str) : Addr := match nsIn K d x with
  | some (some (.ref a)) => a
  | _ => 0
/-! ### facts by Bools -/
def bProp (x f : PySem.Str) (K : Frag) : Bool := eqO (findIn K (.ref (ga K x)) f) (some (some (.ref (ma K (ga K x) f)))) &&
  (eqO (specialIn K (.ref (ma K (ga K x) f)) "__get__") (some (some (.builtin "property.__get__"))) && (decide (takesIn K (.ref (ma K (ga K x) f)) = some true) &&
    (match recIn K (ma K (ga K x) f) "property" with
      | some (.ref _ :: _) => true
      | _ => false)))
theorem prop_ok {K : Frag} {x f : PySem.Str} (h : bProp x f K = true) : PropOf K (ga K x) f (ma K (ga K x) f) (pa K (ga K x) f) := by
  obtain ⟨h1, h⟩ := ba h
  obtain ⟨h2, h⟩ := ba h
  obtain ⟨h3, h4⟩ := ba h
  refine ⟨eqO_ok h1, eqO_ok h2, of_decide_eq_true h3, ?_⟩
  unfold pa
  split at h4
  · rename_i g r e
    exact ⟨r, by rw [e]⟩
  · cases h4
def bFn (p : Frag → Addr) (K : Frag) : Bool := isFn K (.ref (p K)) && fnIn K (p K)
/-- what isinstance asks of a class -/
def bIsi (x : PySem.Str) (K : Frag) : Bool := eqO (findIn K (.ref (ga K x)) "__class__") (some (some (.builtin "object.__class__"))) &&
  (eqO (specialIn K (.builtin "object.__class__") "__get__") (some (some (.builtin "getset_descriptor.__get__"))) && (decide (takesIn K (.builtin "object.__class__") = some true) && decide (mroIn K (ga K x) (.type "object") = some true)))
structure IsiC (K : Frag) (C : Addr) : Prop where
  ca : findIn K (.ref C) "__class__" = some (some (.builtin "object.__class__"))
  cn : specialIn K (.builtin "object.__class__") "__get__" = some (some (.builtin "getset_descriptor.__get__"))
  ct : takesIn K (.builtin "object.__class__") = some true
  cm : mroIn K C (.type "object") = some true
theorem isi_ok {K : Frag} {x : PySem.Str} (h : bIsi x K = true) : IsiC K (ga K x) := by
  obtain ⟨h1, h⟩ := ba h
  obtain ⟨h2, h⟩ := ba h
  obtain ⟨h3, h4⟩ := ba h
  exact ⟨eqO_ok h1, eqO_ok h2, of_decide_eq_true h3, of_decide_eq_true h4⟩
/-- isinstance(an instance of x, y): what it answers -/
def bKit (t c : Frag → Value) (b : Bool) (K : Frag) : Bool := decide (kitOne K (t K) (c K) = some b)
theorem kit_ok {t c : Frag → Value} {b : Bool} {K : Frag} (h : bKit t c b K = true) : kitOne K (t K) (c K) = some b := of_decide_eq_true h
/-- a classmethod -/
def bCm (x m : PySem.Str) (K : Frag) : Bool := He5.wrapB K (ga K x) "classmethod" "classmethod.__get__" m && fnIn K (He5.wf K (ga K x) "classmethod" m)
theorem cm_ok {K : Frag} {x m : PySem.Str} (h : bCm x m K = true) : ClX.CMet K (ga K x) (.type "type") m (ma K (ga K x) m) (He5.wf K (ga K x) "classmethod" m) := by
  obtain ⟨h1, h2⟩ := ba h
  exact He5.cmet_of h1 h2
def bCread (x : PySem.Str) (K : Frag) : Bool := readsIn K (ga K x) (.type "type") && eqO (specialIn K (.ref (ga K x)) "__getattribute__") (some (some (.builtin "type.__getattribute__")))
theorem cread_ok {K : Frag} {x : PySem.Str} (h : bCread x K = true) : ClX.CRead K (ga K x) (.type "type") := by
  obtain ⟨h1, h2⟩ := ba h
  exact ⟨h1, eqO_ok h2⟩
/-- a tuple of texts, ints .. at an address -/
def bTup (p : Frag → Addr) (vs : List Dv) (K : Frag) : Bool := match K.lookup (p K) with
  | some ⟨.type c, _, .seq its _, _⟩ => decide (c = "tuple") && (decide (its.size ≤ sizeLine) && relAll (vs.map (Dv.v K)) its.toList)
  | _ => false
theorem tup_ok {K : Frag} {p : Frag → Addr} {vs : List Dv} (h : bTup p vs K = true) (H : Hp) : SqT K H (p K) (vs.map (Dv.v K)) := by
  unfold bTup at h
  split at h
  · rename_i c od its n sl q
    obtain ⟨h1, h2⟩ := ba h
    obtain ⟨h3, h4⟩ := ba h2
    exact .inr ⟨_, its, n, q, congrArg Value.type (of_decide_eq_true h1), rfl, of_decide_eq_true h3, relAll_ok h4⟩
  · cases h
/-- the written dict at p has at each of these keys an object -/
def bVal (p : Frag → Addr) (ks : List PySem.Str) (K : Frag) : Bool := ks.all fun x => eqO (nsIn K (p K) x) (some (some (.ref (dva K (p K) x))))
theorem val_ok {K : Frag} {p : Frag → Addr} {ks : List PySem.Str} (h : bVal p ks K = true) {x : PySem.Str} (hx : x ∈ ks) : nsIn K (p K) x = some (some (.ref (dva K (p K) x))) := eqO_ok (List.all_eq_true.mp h x hx)

/-! ### the Hook -/
abbrev AlM : Type := He.AlD × List (Option (List (Option (PySem.Str × Int))))
def obsM (fa : List Fa) (fb : List (Frag → Bool)) (fn : List He5.DefA) (ts : List He.Tab) (K : Frag) : AlM :=
  (((fa.all fun f => f.ok K) && ((fb.all fun f => f K) && fn.all fun d => d.ok K), fn.map fun d => He5.fnA K (d.at_ K)), ts.map fun t => dicW K (t.1 K))
def valM (fn : List He5.DefA) (ts : List He.Tab) (w : World) : AlM := ((true, fn.map He5.DefA.val), ts.map fun t => some (keysIn w.params t.2))
def SaysM (fa : List Fa) (fb : List (Frag → Bool)) (fn : List He5.DefA) (ts : List He.Tab) (w : World) (K : Frag) : Prop := obsM fa fb fn ts K = valM fn ts w
def obsMG (n : Nat) (fa : List Fa) (fb : List (Frag → Bool)) (fn : List He5.DefA) (ts : List He.Tab) (g : Addr → Option Obj) : AlM := obsM fa fb fn ts (frG g (He5.asA g n))
def hookM (n : Nat) (fa : List Fa) (fb : List (Frag → Bool)) (fn : List He5.DefA) (ts : List He.Tab) : Hook where
  α := AlM
  obs := fun s => obsMG n fa fb fn ts s.heap.get?
  val := fun w => valM fn ts w
  says := fun w h => ∃ K : Frag, K.In h ∧ SaysM fa fb fn ts w K
  of := fun _ _ e => ⟨_, frG_in, e⟩
  keeps := fun _ _ _ ⟨K, hK, c⟩ k => ⟨K, Frag.In.keeps hK k, c⟩
theorem obsMG_eq {n : Nat} {fa : List Fa} {fb : List (Frag → Bool)} {fn : List He5.DefA} {ts : List He.Tab} {g : Addr → Option Obj} {s : Shared} (h : ∀ a, g a = s.heap.get? a) : obsMG n fa fb fn ts g = (hookM n fa fb fn ts).obs s := by
  rw [show g = s.heap.get? from funext h]
  rfl
section
variable {fa : List Fa} {fb : List (Frag → Bool)} {fn : List He5.DefA} {ts : List He.Tab} {w : World} {K : Frag}
theorem SaysM.bits (c : SaysM fa fb fn ts w K) : (fa.all fun f => f.ok K) = true ∧ (fb.all fun f => f K) = true ∧ (fn.all fun d => d.ok K) = true := by
  have h : ((fa.all fun f => f.ok K) && ((fb.all fun f => f K) && fn.all fun d => d.ok K)) = true := congrArg (fun z : AlM => z.1.1) c
  obtain ⟨h1, h⟩ := ba h
  obtain ⟨h2, h3⟩ := ba h
  exact ⟨h1, h2, h3⟩
theorem SaysM.fact (c : SaysM fa fb fn ts w K) (i : Nat) {f : Fa} (h : fa[i]? = some f := by rfl) : f.ok K = true := List.all_eq_true.mp c.bits.1 f (List.mem_of_getElem? h)
theorem SaysM.bool (c : SaysM fa fb fn ts w K) (i : Nat) {f : Frag → Bool} (h : fb[i]? = some f := by rfl) : f K = true := List.all_eq_true.mp c.bits.2.1 f (List.mem_of_getElem? h)
theorem SaysM.def_ (c : SaysM fa fb fn ts w K) (i : Nat) {d : He5.DefA} (h : fn[i]? = some d := by rfl) : ∃ fd, FunD K d.name d.qual d.params d.body d.scope (d.dvs K) (d.kws K) (d.at_ K) fd := by
  have e : fn.map (fun d => He5.fnA K (d.at_ K)) = fn.map He5.DefA.val := congrArg (fun z : AlM => z.1.2) c
  have e2 : (fn.map fun d => He5.fnA K (d.at_ K))[i]? = (fn.map He5.DefA.val)[i]? := by rw [e]
  rw [List.getElem?_map, List.getElem?_map, h] at e2
  exact He5.DefA.funD (Option.some.inj e2) (List.all_eq_true.mp c.bits.2.2 d (List.mem_of_getElem? h))
theorem SaysM.tab (c : SaysM fa fb fn ts w K) (i : Nat) {t : He.Tab} (h : ts[i]? = some t := by rfl) : ∃ es n, KDict K w (t.1 K) es n := by
  have e : ts.map (fun t => dicW K (t.1 K)) = ts.map fun t => some (keysIn w.params t.2) := congrArg (fun z : AlM => z.2) c
  have e2 : (ts.map fun t => dicW K (t.1 K))[i]? = (ts.map fun t => some (keysIn w.params t.2))[i]? := by rw [e]
  rw [List.getElem?_map, List.getElem?_map, h] at e2
  exact dicW_ok (Option.some.inj e2)
end
end Tw
/-! Tw: the Hook over written addresses -/
namespace Tw
open PySem PySem.Spec PyProof.Rows L2 He PySem.W
def obsL (as : List Addr) (fa : List Fa) (fb : List (Frag → Bool)) (fn : List He5.DefA) (ts : List He.Tab) (g : Addr → Option Obj) : AlM := obsM fa fb fn ts (frG g as)
def hookL (as : List Addr) (fa : List Fa) (fb : List (Frag → Bool)) (fn : List He5.DefA) (ts : List He.Tab) : Hook where
  α := AlM
  obs := fun s => obsL as fa fb fn ts s.heap.get?
  val := fun w => valM fn ts w
  says := fun w h => ∃ K : Frag, K.In h ∧ SaysM fa fb fn ts w K
  of := fun _ _ e => ⟨_, frG_in, e⟩
  keeps := fun _ _ _ ⟨K, hK, c⟩ k => ⟨K, Frag.In.keeps hK k, c⟩
theorem obsL_eq {as : List Addr} {fa : List Fa} {fb : List (Frag → Bool)} {fn : List He5.DefA} {ts : List He.Tab} {g : Addr → Option Obj} {s : Shared} (h : ∀ a, g a = s.heap.get? a) : obsL as fa fb fn ts g = (hookL as fa fb fn ts).obs s := by
  rw [show g = s.heap.get? from funext h]
  rfl
/-- the written tuple at p has no names of its own -/
def bNod (p : Frag → Addr) (K : Frag) : Bool := match K.lookup (p K) with
  | some ⟨.type c, none, _, _⟩ => decide (c = "tuple")
  | _ => false
theorem nod_ok {K : Frag} {p : Frag → Addr} (h : bNod p K = true) : ∃ o, K.lookup (p K) = some o ∧ o.cls = .type "tuple" ∧ o.dict = none := by
  unfold bNod at h
  split at h
  · rename_i c d sl q
    exact ⟨_, q, congrArg Value.type (of_decide_eq_true h), rfl⟩
  · cases h
end Tw
/-! Tw: rules of our own beside the hand layer's -/
namespace Tw
open PySem PySem.Spec PyProof.Rows L2

theorem Same.new {H : Hp} {p : Addr} {o : HO} (h : H p = none) : Same H (upd H p o) := fun a u e => by
  rw [upd_ne (ne_of_none e h)]
  exact e
theorem Same.tup {K : PySem.W.Frag} {H H' : Hp} {a : Addr} {xs : List V} (e : Same H H') (h : SqT K H a xs) : SqT K H' a xs := by
  rcases h with (h | ⟨o, h⟩) | h
  · exact .inl (.inl (e _ _ h))
  · exact .inl (.inr ⟨o, e _ _ h⟩)
  · exact .inr h

section
variable {P : Program} {w : World} {K : PySem.W.Frag} {mg : Str → Option Value} {base : Heap} {CX : CXT} {k : Nat} {f : Addr} {fd : FuncData} {ps : List Str} {sp : Sp}
theorem fnR_of (F : FnOk P w K mg base CX k f fd ps sp) (b : Binds K fd ps []) : FnR P w K mg base CX k f sp :=
  (F.raw b .nil).imp fun vs H Q E h => by
    show sp (vs ++ []) H Q E
    rw [List.append_nil]
    exact h
end

/-- a def of the module, called: its promise at the arguments -/
def tFn (sp : Sp) (E : XK) (t : TA) : TE := fun σ H Q => t σ H fun vs H1 => sp vs H1 Q E
section
variable {X : Cx} {CX : CXT} {k : Nat} {f C g : Addr} {sp : Sp} {E : XK} {x m : Str} {e o : Expr} {es : List Expr} {ta te : TE} {t : TA} {p pos apos : Pos}
theorem pe_fn (F : FnR X.prog X.w X.K X.mg X.base CX k f sp) (hr : Room k X.A) (hg : Gl X x) (hm : X.mg x = some (.ref f)) (hk : PySem.W.keepIn X.K (.ref f) = true) (hx : Passes CX X E) (ha : PA X (e :: es) t)
    (hdb : (x == ("__debug__" : Str)) = false := by decide) (he : starEach (e :: es) X.env = (false, eval e X.env) :: starEach es X.env := by rfl)
    (hpl : (backTo pos (starEach es X.env)).any (·.1) = false := by rfl) : PE X (.Call (.Name x p) (e :: es) [] pos) (tFn sp E t) := ⟨fun pins s σ H Q I h =>
  wpAny_Call_Name_kw (ld_glob I hg hm (PySem.W.callWith_K (h₀ := X.base) I.ok.mod.kin hk
    (thn (ha.run pos pins s σ H _ I h) fun us s1 ⟨vs, H1, I1, r, q⟩ => ⟨I1.kIn, wpAny_call (run_fnR F hr hx I1 r q)⟩) he hpl) hdb)⟩
theorem pe_fn0 (F : FnR X.prog X.w X.K X.mg X.base CX k f sp) (hr : Room k X.A) (hg : Gl X x) (hm : X.mg x = some (.ref f)) (hk : PySem.W.keepIn X.K (.ref f) = true) (hx : Passes CX X E)
    (hdb : (x == ("__debug__" : Str)) = false := by decide) : PE X (.Call (.Name x p) [] [] pos) (tFn sp E tNil) := ⟨fun pins s σ H Q I h =>
  wpAny_Call_Name_kw (ld_glob I hg hm (PySem.W.callWith_K0 I.kIn hk (wpAny_call (run_fnR (us := []) (vs := []) F hr hx I .nil h))) hdb)⟩

/-- len(o), o of a class with its own __len__ -/
def rLenO (C : Addr) (sp : Sp) (E : XK) : List V → Hp → VK → Prop := fun xs H Q => ∃ a dx fs, xs = [.ref a] ∧ H a = some (.ins C dx fs) ∧
  sp [.ref a] H (fun v H' => ∃ n : Int, v = .int n ∧ 0 ≤ n ∧ n < 2 ^ 63 ∧ Q (.int n) H') E
theorem call_lenO (hs : PySem.W.findIn X.K (.ref C) "__len__" = some (some (.ref g))) (hf : PySem.W.isFn X.K (.ref g) = true) (F : FnR X.prog X.w X.K X.mg X.base CX k g sp) (hr : Room (k + 1) X.A) (hx : Passes CX X E) :
    CallR X (.builtin "len") (rLenO C sp E) := by
  intro pins s σ H xs us Q I r h
  obtain ⟨a, dx, fs, rfl, ea, q⟩ := h
  obtain ⟨u, rfl, ru⟩ := r.one
  cases (show u = Value.ref a from ru)
  obtain ⟨mA, O, _⟩ := ins_get I.hok ea
  obtain ⟨od, J, _⟩ := O.look
  obtain ⟨m, hF⟩ := I.fr
  refine PySem.W.len_K hF I.ok.mod.kin J hs hf (wpAny_mono (wpAny_call (SlX.run_at (us := [.ref a]) (ws := [.ref a]) F hr.in1 I.env0.in1 hx I (.cons rfl .nil) q)) (fun w s' z => ?_) fun _ _ x => x)
  obtain ⟨z', H', I', rz, n, ez, h0, h1, qz⟩ := z
  subst ez
  obtain ⟨t, e⟩ := (show ∃ t, w = Value.int n t from rz)
  subst e
  exact ⟨⟨h0, h1⟩, .int n, H', I'.tok _, ⟨_, rfl⟩, qz⟩

/-- o[i], o of a class with its own __getitem__ -/
def rIxO (C : Addr) (sp : Sp) (E : XK) : R2 := fun x y H Q => ∃ a dx fs, x = .ref a ∧ H a = some (.ins C dx fs) ∧ sp [.ref a, y] H Q E
theorem pe_ixO {a b : Expr} {tb : TE} (hs : PySem.W.findIn X.K (.ref C) "__getitem__" = some (some (.ref g))) (hf : PySem.W.isFn X.K (.ref g) = true) (hn : PySem.W.fnIn X.K g = true) (F : FnR X.prog X.w X.K X.mg X.base CX k g sp) (hr : Room (k + 1) X.A) (hx : Passes CX X E)
    (ha : PE X a ta) (hb : PE X b tb) (hsl : ∀ u v, subscripted b true u v = runValue (.builtin "lifetime.subscript" ⟨[u, v], []⟩) := by intro _ _; with_unfolding_all rfl) : PE X (.Subscript a b pos) (tOp (rIxO C sp E) ta tb) := by
  refine ⟨fun pins s σ H Q I h => ?_⟩
  refine Subscript_ (binT ha hb I h fun v u s2 x y H2 I2 rx ry q => ?_)
  obtain ⟨c, dx, fs, rfl, ec, q⟩ := q
  cases (show v = Value.ref c from rx)
  obtain ⟨mA, O, _⟩ := ins_get I2.hok ec
  obtain ⟨od, J, _⟩ := O.look
  obtain ⟨m, hF⟩ := I2.fr
  refine PySem.W.sub_K hF I2.ok.mod.kin J hs hn hf (wpAny_call (SlX.run_at (us := [.ref c, u]) (ws := [.ref c, y]) F hr.in1 I2.env0.in1 hx I2 (.cons rfl (.cons ry .nil)) q)) (hsl _ _)
/-! tracked sequences, read -/
def rIxLH : R2 := fun x y H Q => ∃ p xs i v, x = .ref p ∧ y = .int i ∧ H p = some (.lst xs) ∧ atI xs i = some v ∧ Q v H
def rIxTH : R2 := fun x y H Q => ∃ p xs i v, x = .ref p ∧ y = .int i ∧ H p = some (.tup xs) ∧ atI xs i = some v ∧ Q v H
theorem ix_lstH : IxR X rIxLH := fun value slice pins s σ H x y v u Q I rx ry ⟨p, xs, i, z, e1, e2, h, e3, q⟩ hs => ix_list value slice pins s σ H x y v u Q I rx ry ⟨p, xs, i, z, e1, e2, SqL.of h, e3, q⟩ hs
theorem ix_tupH : IxR X rIxTH := fun value slice pins s σ H x y v u Q I rx ry ⟨p, xs, i, z, e1, e2, h, e3, q⟩ hs => ix_tup value slice pins s σ H x y v u Q I rx ry ⟨p, xs, i, z, e1, e2, SqT.of h, e3, q⟩ hs
def rLenLH : List V → Hp → VK → Prop := fun xs H Q => ∃ p ys, xs = [.ref p] ∧ H p = some (.lst ys) ∧ Q (.int ys.length) H
def rLenTH : List V → Hp → VK → Prop := fun xs H Q => ∃ p ys, xs = [.ref p] ∧ H p = some (.tup ys) ∧ Q (.int ys.length) H
theorem call_lenL : CallR X (.builtin "len") rLenLH := fun pins s σ H xs us Q I r ⟨p, ys, e, h, q⟩ => call_len_seq pins s σ H xs us Q I r ⟨p, ys, e, .inl (SqL.of h), q⟩
theorem call_lenT : CallR X (.builtin "len") rLenTH := fun pins s σ H xs us Q I r ⟨p, ys, e, h, q⟩ => call_len_seq pins s σ H xs us Q I r ⟨p, ys, e, .inr (SqT.of h), q⟩
/-- what the promise says of its first argument: an instance of C -/
def InsAt (C : Addr) (sp : Sp) : Prop := ∀ vs H Q E, sp vs H Q E → ∃ (a dx : Addr) (fs : List (Str × V)) (r : List V), vs = .ref a :: r ∧ H a = some (.ins C dx fs)
/-- o.f, a property -/
theorem pe_propF {f : Str} {pr : Addr} (he : PE X e ta) (c : Cls X.K C) (hp : PropOf X.K C f pr g) (F : FnR X.prog X.w X.K X.mg X.base CX k g sp) (hr : Room (k + 1) X.A) (hx : Passes CX X.nox E) (hi : InsAt C sp)
    (hab : attributeBase e f X.env (eval e X.env) = eval e X.env := by rfl) : PE X (.Attribute e f pos) (tFn sp E (tCons ta tNil)) := by
  refine ⟨fun pins s σ H Q I h => attr_of hab (thn (he.run pins s σ H _ I h) fun u s1 ⟨x, H1, I1, rx, q⟩ => ?_)⟩
  obtain ⟨a, dx, fs, r, e1, ea⟩ := hi _ _ _ _ q
  cases e1
  cases (show u = Value.ref a from rx)
  obtain ⟨mA, O, _⟩ := ins_get I1.hok ea
  obtain ⟨od, J, _⟩ := O.look
  obtain ⟨rest, hrec⟩ := hp.rec_
  have hc : (PySem.W.clsIn X.K C).isSome = true := by
    obtain ⟨cd, hc, _⟩ := PySem.W.any_some c.hd
    rw [hc]
    rfl
  have I2 := I1.tok (s1.toks + 1)
  refine PySem.W.get_bind I1.kIn J (PySem.W.plainGet_of (c.get f)).1 (PySem.W.findObj_data hc hp.at_ hp.get hp.tak) (PySem.W.plainGet_of (c.get f)).2
    (wpAny_call (PySem.W.prop_get (s := { s1 with toks := s1.toks + 1 }) I2.kIn hrec (codeAny_mono (F X.A.in1 X.stack _ H1 [.ref a] [.ref a] Q E hr.in1 I2.env0.in1 (.cons rfl .nil) q) fun r s' hq => ?_)))
  cases r with
  | error er => exact False.elim (hx pins σ H1 _ er s' (I2.wish _) hq)
  | ok fl =>
    cases fl with
    | ret u =>
      obtain ⟨v, H', I3, rv, q3⟩ := I2.after hq
      show wpAny _ _ (handedOut u) _ _ _
      rw [PySem.W.handedOut_of (handed_of rv)]
      exact wpAny_pure ⟨v, H', I3, rv, q3⟩
    | next => exact False.elim hq
    | brk => exact False.elim hq
    | cont => exact False.elim hq
/-- o[i] -/
theorem pe_ixF {a b : Expr} {tb : TE} (hs : PySem.W.findIn X.K (.ref C) "__getitem__" = some (some (.ref g))) (hf : PySem.W.isFn X.K (.ref g) = true) (hn : PySem.W.fnIn X.K g = true) (F : FnR X.prog X.w X.K X.mg X.base CX k g sp) (hr : Room (k + 1) X.A) (hx : Passes CX X E) (hi : InsAt C sp)
    (ha : PE X a ta) (hb : PE X b tb) (hsl : ∀ u v, subscripted b true u v = runValue (.builtin "lifetime.subscript" ⟨[u, v], []⟩) := by intro _ _; with_unfolding_all rfl) : PE X (.Subscript a b pos) (tFn sp E (tCons ta (tCons tb tNil))) := by
  refine ⟨fun pins s σ H Q I h => Subscript_ (binT ha hb I h fun v u s2 x y H2 I2 rx ry q => ?_)⟩
  obtain ⟨c, dx, fs, r, e1, ec⟩ := hi _ _ _ _ q
  cases e1
  cases (show v = Value.ref c from rx)
  obtain ⟨mA, O, _⟩ := ins_get I2.hok ec
  obtain ⟨od, J, _⟩ := O.look
  obtain ⟨m, hF⟩ := I2.fr
  exact PySem.W.sub_K hF I2.ok.mod.kin J hs hn hf (wpAny_call (SlX.run_at (us := [.ref c, u]) (ws := [.ref c, y]) F hr.in1 I2.env0.in1 hx I2 (.cons rfl (.cons ry .nil)) q)) (hsl _ _)
/-- len(o) -/
def rLenF (sp : Sp) (E : XK) : List V → Hp → VK → Prop := fun xs H Q => sp xs H (fun v H' => ∃ n : Int, v = .int n ∧ 0 ≤ n ∧ n < 2 ^ 63 ∧ Q (.int n) H') E
theorem call_lenF (hs : PySem.W.findIn X.K (.ref C) "__len__" = some (some (.ref g))) (hf : PySem.W.isFn X.K (.ref g) = true) (F : FnR X.prog X.w X.K X.mg X.base CX k g sp) (hr : Room (k + 1) X.A) (hx : Passes CX X E) (hi : InsAt C sp)
    (h1 : ∀ vs H Q E, sp vs H Q E → vs.length = 1) : CallR X (.builtin "len") (rLenF sp E) := by
  intro pins s σ H xs us Q I r h
  obtain ⟨a, dx, fs, r1, e1, ea⟩ := hi _ _ _ _ h
  have hl := h1 _ _ _ _ h
  subst e1
  have er : r1 = [] := List.eq_nil_of_length_eq_zero (Nat.succ.inj hl)
  subst er
  exact call_lenO hs hf F hr hx pins s σ H _ us Q I r ⟨a, dx, fs, rfl, ea, h⟩
end
end Tw
/-! Tw: more rules -/
namespace Tw
open PySem PySem.Spec PyProof.Rows L2 StX
section
variable {X : Cx} {CX : CXT} {k : Nat} {f C : Addr} {sp : Sp} {E : XK} {x : Str} {p pos : Pos}
/-- C(), no arguments -/
theorem pe_makeR0 (M : Mk X.K C f) (F : FnR X.prog X.w X.K X.mg X.base CX k f sp) (hr : Room (k + 1) X.A) (hg : Gl X x) (hm : X.mg x = some (.ref C)) (hx : Passes CX X E)
    (hdb : (x == ("__debug__" : Str)) = false := by decide) : PE X (.Call (.Name x p) [] [] pos) (tMakeR C sp E tNil) := ⟨fun pins s σ H Q I h =>
  wpAny_Call_Name_kw (ld_glob I hg hm (PySem.W.callWith_K0 I.kIn M.kp (run_makeR (us := []) (vs := []) M F hr hx I .nil h)) hdb)⟩
end
end Tw
namespace Tw
open PySem PySem.Spec PyProof.Rows L2
theorem ul {k : Nat} {A : Around} (hr : Room k A) : A.units + 64 < cLine := by have := hr.un; omega
end Tw
/-! Tw: defs of the law itself that call repr: nothing is under way around them -/
namespace Tw
open PySem PySem.Spec PyProof.Rows L2
/-- room, and no repr under way -/
structure RmG (k : Nat) (A : Around) : Prop where
  rm : Room k A
  gd : A.guards = some []
theorem RmG.mono {j k : Nat} {A : Around} (r : RmG k A) (h : j ≤ k) : RmG j A := ⟨r.rm.mono h, r.gd⟩
theorem RmG.deeper {k : Nat} {A : Around} (r : RmG (k + 1) A) (env : Env) : RmG k (A.deeper env) := ⟨r.rm.deeper env, r.gd⟩
/-- a promise that is kept where no repr is under way -/
def FnG (P : Program) (w : World) (K : PySem.W.Frag) (mg : Str → Option Value) (base : Heap) (CX : CXT) (k : Nat) (f : Addr) (sp : Sp) : Prop :=
  ∀ A fs t Hp0 us vs Q E, RmG k A → Env0 P w K mg base A fs t Hp0 → Vals vs us → sp vs Hp0 Q E → codeAny (model P w) A (.call (.ref f) ⟨us, []⟩) (CR CX fs P w Hp0 t Q E) t
section
variable {P : Program} {w : World} {K : PySem.W.Frag} {mg : Str → Option Value} {base : Heap} {CX : CXT} {k : Nat} {f : Addr} {sp : Sp}
theorem FnG.mono {j : Nat} (F : FnG P w K mg base CX j f sp) (h : j ≤ k) : FnG P w K mg base CX k f sp := fun A fs t H us vs Q E r => F A fs t H us vs Q E (r.mono h)
/-- a def by its body, run where no repr is under way -/
theorem fnG_of {x qual : Str} {params : Arguments} {body : List Stmt} {scope : Scope} {kws : List (Str × V)} {fd : FuncData} {N ps : List Str} (F : FunD K x qual params body scope [] kws f fd) (S : FnScope N ps scope) (hb : Binds K fd ps [])
    (hl : ∀ vs H Q E, sp vs H Q E → vs.length = ps.length)
    (hbody : ∀ cdv A fs t H vs Q E, RmG k (A.deeper (envOfC qual scope t.heap.objs.size f cdv)) → sp vs H Q E → ∃ tt, PSs (cxOf CX P w K mg base N qual scope f cdv A fs t H E) body tt ∧ tt { nx := fun _ H' => Q .non H', rt := Q } (L2.start N vs) H) :
    FnG P w K mg base CX (k + 1) f sp := by
  intro A fs t H us vs Q E hr e0 rv h
  obtain ⟨oc, od, dV, kV, doc, pm, an, cdv, ct, osl, efd, lk, hcd, _, _⟩ := F.ex
  have KX : K.In t.heap := e0.mod.kin.keeps fun b o z => (e0.bs b o z).1
  have hlen : us.length = ps.length := rv.length.symm.trans (hl _ _ _ _ h)
  have hbt := hb t us KX (by rw [List.append_nil]; exact hlen)
  rw [List.append_nil] at hbt
  rw [efd] at lk hbt
  refine codeAny_call_function hr.rm.depth (KX _ _ lk) rfl S.co S.gen rfl (PySem.W.codeRec_of KX hcd) (hbt _ _ _ _ ?_)
  refine wpAny_newFunctionEnv_cells S.kind (fun y hy => ?_) fun env he t1 inc => ?_
  · exact (S.par y.1 (List.of_mem_zip hy).1).elim .inl fun z => .inr ⟨z, PySem.W.cellsFrom_some _ _ _ (.inl z)⟩
  · subst he
    obtain ⟨tt, hp, hq⟩ := hbody cdv A fs t H vs Q E (hr.deeper _) h
    have hnl : t.heap.NoLimit := e0.mod.nolimit.keeps fun b o z => (e0.bs b o z).1
    refine ⟨hnl.keeps inc.toInCall.keep, codeAny_func (wpAny_mono (hp.run [] t1 _ _ _ (inv_start S hr.rm.hd e0 (hl _ _ _ _ h) rv inc) hq) (fun fl t2 z => ?_) fun _ _ z => z)⟩
    cases fl with
    | ret u =>
      obtain ⟨v, _, H2, J, r2, q2⟩ := z
      exact ⟨v, H2, J.os, J.bare, J.base, J.hok, r2, q2⟩
    | next =>
      obtain ⟨_, H2, J, q2⟩ := z
      exact ⟨.non, H2, J.os, J.bare, J.base, J.hok, rfl, q2⟩
    | brk => exact z.elim fun _ z => z.elim fun _ z => z.2.elim
    | cont => exact z.elim fun _ z => z.elim fun _ z => z.2.elim
end
section
variable {X : Cx} {CX : CXT} {k : Nat} {f : Addr} {sp : Sp} {E : XK} {x : Str} {e : Expr} {es : List Expr} {t : TA} {p pos : Pos}
theorem call_fnG {pins : List (Addr × Obj)} {σ : L2.St} {H : Hp} {s : Shared} {Q : VK} {us : List Value} {vs : List V} (F : FnG X.prog X.w X.K X.mg X.base CX k f sp) (hr : RmG k X.A) (hx : Passes CX X E) (I : Inv X pins σ H s) (rv : Vals vs us) (h : sp vs H Q E) :
    wpAny (model X.prog X.w) X.A (call (.ref f) us) (EP X pins σ Q) X.xe s :=
  wpAny_call (codeAny_mono (F X.A X.stack s H us vs Q E hr I.env0 rv h) fun r s2 z => match r, z with
    | .error y, z => hx _ _ _ _ y s2 I z
    | .ok (.ret u), z => I.after z
    | .ok .next, z => z.elim
    | .ok .brk, z => z.elim
    | .ok .cont, z => z.elim)
theorem pe_fnG (F : FnG X.prog X.w X.K X.mg X.base CX k f sp) (hr : RmG k X.A) (hg : Gl X x) (hm : X.mg x = some (.ref f)) (hk : PySem.W.keepIn X.K (.ref f) = true) (hx : Passes CX X E) (ha : PA X (e :: es) t)
    (hdb : (x == ("__debug__" : Str)) = false := by decide) (he : starEach (e :: es) X.env = (false, eval e X.env) :: starEach es X.env := by rfl)
    (hpl : (backTo pos (starEach es X.env)).any (·.1) = false := by rfl) : PE X (.Call (.Name x p) (e :: es) [] pos) (tFn sp E t) := ⟨fun pins s σ H Q I h =>
  wpAny_Call_Name_kw (ld_glob I hg hm (PySem.W.callWith_K (h₀ := X.base) I.ok.mod.kin hk
    (thn (ha.run pos pins s σ H _ I h) fun us s1 ⟨vs, H1, I1, r, q⟩ => ⟨I1.kIn, call_fnG F hr hx I1 r q⟩) he hpl) hdb)⟩
/-! ### repr -/
/-- repr(x), x plain data without a dict -/
def rReprG (K : PySem.W.Frag) : List V → Hp → VK → Prop := fun xs H Q => ∃ x d, xs = [x] ∧ Dp K H x d ∧ d.showable = true ∧ d.hasDict = false ∧ d.depth ≤ 16 ∧ d.shown.length ≤ sizeLine ∧ Q (.str d.shown) H
theorem call_reprG (hr : RmG k X.A) : CallR X (.builtin "repr") (rReprG X.K) := by
  intro pins s σ H xs us Q I r h
  obtain ⟨x, d, rfl, hd, h1, h2, h3, h4, q⟩ := h
  obtain ⟨u, rfl, ru⟩ := vals1 r
  obtain ⟨as, hR⟩ := Dp.reads I d x u hd ru
  have hu := hr.rm.units
  cases hR with
  | none => exact PySem.P.repr_of_none ⟨.str _, H, I.tok _, ⟨_, rfl⟩, q⟩
  | bool b => exact PySem.P.repr_of_bool ⟨.str _, H, I.tok _, ⟨_, rfl⟩, q⟩
  | int i t => exact PySem.P.repr_of_int (of_decide_eq_true h1) ⟨.str _, H, I.tok _, ⟨_, rfl⟩, q⟩
  | str y t => exact PySem.P.repr_of_str ⟨.str _, H, I.tok _, ⟨_, rfl⟩, q⟩ h4
  | list a1 a2 a3 a4 => exact repr_of_reads' (.list a1 a2 a3 a4) h1 (fun z => by rw [h2] at z; cases z) hr.gd (by omega) (fun _ _ z => z) (fun h' u tk hk => ⟨.str _, H, I.kept hk, ⟨_, rfl⟩, q⟩) h4
  | tuple a1 a2 a3 a4 => exact repr_of_reads' (.tuple a1 a2 a3 a4) h1 (fun z => by rw [h2] at z; cases z) hr.gd (by omega) (fun _ _ z => z) (fun h' u tk hk => ⟨.str _, H, I.kept hk, ⟨_, rfl⟩, q⟩) h4
  | dict => simp [PyData.hasDict] at h2
end
/-! ### the law's end -/
section
variable {P : Program} {w : World} {K : PySem.W.Frag} {mg mb : Str → Option Value}
/-- what a law's call meets: an abstract heap that tracks the script at most, and the written part -/
theorem entry {s : Shared} {a : Addr} {vs : List Value} {ns : List Int} (KX : K.In s.heap) (hns : s.heap.Ns mainGlobals mg) (hb : s.heap.Ns builtinsNs mb) (hbb : ∀ x : Str, x ≠ "__name__" → mb x = bootBuiltins x) (hlim : s.heap.NoLimit) (hg : s.gens = #[])
    (ha : s.heap.get? a = some { cls := .type "list", data := .seq vs.toArray }) (hi : IntsAre vs ns) (hl : ns.length ≤ sizeLine) :
    ∃ (H : Hp) (base : Heap), K.In base ∧ base.Ns mainGlobals mg ∧ Env0 P w K mg base callerA [] s H ∧ Only H ∧ SqL K H a (ns.map V.int) := by
  have rv := vals_ints hi
  have hlv := hi.length
  have key : ∀ H : Hp, (∀ b, H b ≠ none → b = a) → (H a ≠ none → K.lookup a = none) → HOk P w H s.heap → K.In (hidT s.heap H) ∧ (hidT s.heap H).Ns mainGlobals mg ∧ Env0 P w K mg (hidT s.heap H) callerA [] s H := by
    intro H h1 h2 hok
    have keepD : ∀ {b m}, s.heap.Ns b m → (hidT s.heap H).Ns b m := by
      rintro b m ⟨o, es, ep, z, d, r⟩
      refine ⟨o, es, ep, hidT_get z ?_, d, r⟩
      apply Classical.byContradiction
      intro n
      obtain rfl := h1 b n
      rw [ha] at z
      cases z
      exact nomatch d
    have kin : K.In (hidT s.heap H) := by
      intro b o z
      refine hidT_get (KX b o z) ?_
      apply Classical.byContradiction
      intro n
      obtain rfl := h1 b n
      rw [h2 n] at z
      cases z
    obtain ⟨mc, l1, l2⟩ := hlim
    exact ⟨kin, keepD hns, rfl, ⟨kin, keepD hns, ⟨mb, keepD hb, hbb⟩, ⟨mc, keepD l1, l2⟩⟩, fun b o z => of_hidT z, Nat.le_of_eq (hidT_size _ _), trivial, fun b z => (nomatch z), hok, .of_eq hg⟩
  cases hk : K.lookup a with
  | some o =>
    have z := KX a o hk
    rw [ha] at z
    obtain rfl := (Option.some.inj z).symm
    obtain ⟨k1, k2, k3⟩ := key (fun _ => none) (fun b n => (n rfl).elim) (fun n => (n rfl).elim) fun b u n => nomatch (show (none : Option HO) = some u from n)
    exact ⟨_, _, k1, k2, k3, fun _ => .inl rfl, .inr ⟨_, vs.toArray, _, hk, rfl, rfl, rfl, by rw [List.size_toArray, hlv]; exact hl, by simpa using rv⟩⟩
  | none =>
    have n1 : ∀ b, (if b = a then some (HO.frz { cls := .type "list", data := .seq vs.toArray } (.lst (ns.map V.int))) else none) ≠ none → b = a := fun b n => Classical.byContradiction fun m => n (if_neg m)
    obtain ⟨k1, k2, k3⟩ := key (fun b => if b = a then some (.frz { cls := .type "list", data := .seq vs.toArray } (.lst (ns.map V.int))) else none) n1 (fun _ => hk) fun b u n => by
      have e : b = a := Classical.byContradiction fun m => by
        have n' := (if_neg m).symm.trans n
        cases n'
      subst e
      have m := (if_pos rfl).symm.trans n
      cases m
      exact ⟨ha, by rw [List.length_map]; exact hl, vs, _, rv, ha⟩
    refine ⟨_, _, k1, k2, k3, fun b => ?_, .inl (.inr ⟨_, if_pos rfl⟩)⟩
    by_cases m : b = a
    · exact .inr ⟨_, _, if_pos m⟩
    · exact .inl (if_neg m)
theorem lawG {s : Shared} {CX : CXT} {k : Nat} {fa a : Addr} {sp : Sp} {vs : List Value} {ns : List Int} (KX : K.In s.heap) (hns : s.heap.Ns mainGlobals mg) (hb : s.heap.Ns builtinsNs mb) (hbb : ∀ x : Str, x ≠ "__name__" → mb x = bootBuiltins x) (hlim : s.heap.NoLimit) (hg : s.gens = #[])
    (ha : s.heap.get? a = some { cls := .type "list", data := .seq vs.toArray }) (hi : IntsAre vs ns) (hl : ns.length ≤ sizeLine) (hr : RmG k callerA) (F : ∀ base : Heap, K.In base → base.Ns mainGlobals mg → FnG P w K mg base CX k fa sp)
    (hsp : ∀ H : Hp, SqL K H a (ns.map V.int) → sp [.ref a] H (fun v _ => v = .bl true) fun _ _ _ => False) (hCX : ∀ H e s', CX [] H s (fun _ _ _ => False) e s' → False) :
    codeAny (model P w) callerA (.call (.ref fa) ⟨[.ref a], []⟩) (fun r s' => r = .ok (.ret (.bool true)) ∧ OldK s.heap s'.heap ∧ s'.os = s.os ∧ AllBare s'.gens) s := by
  obtain ⟨H, base, k1, k2, e0, ho, hs⟩ := entry (P := P) (w := w) KX hns hb hbb hlim hg ha hi hl
  refine codeAny_mono (F base k1 k2 callerA [] s H [.ref a] [.ref a] _ _ hr e0 (.cons rfl .nil) (hsp H hs)) fun r s2 z => ?_
  match r, z with
  | .error y, z => exact (hCX H y s2 z).elim
  | .ok .next, z => exact z.elim
  | .ok .brk, z => exact z.elim
  | .ok .cont, z => exact z.elim
  | .ok (.ret u), ⟨v, H2, os, bare, un, hok, rv, q⟩ =>
    obtain rfl : v = .bl true := q
    obtain rfl : u = Value.bool true := rv
    refine ⟨rfl, OldK.of_keep fun b o z => ?_, os, bare⟩
    rcases ho b with n | ⟨o1, xs, n⟩
    · exact un.keep b o z n (fun m => nomatch m) (fun m => nomatch m)
    · obtain ⟨g1, _⟩ := e0.hok b _ n
      obtain ⟨g2, _⟩ := hok b _ (un.frzs b o1 _ n)
      rw [z] at g1
      cases g1
      exact g2
theorem walk_ofG {l : PySem.W.OpenLaw} {n k : Nat} {q : Program} {loose : List Str} {XP : (Str → Option Value) → Heap → Prop} {YP : World → Heap → Prop} {d : DefRec} {CX : CXT} (hn : l.most = some n) (hn2 : n ≤ sizeLine) (hdf : d.params.defaults = []) (hr : RmG k callerA)
    (F : ∀ w mg fa h, YP w h → h.Ns mainGlobals mg → mg d.name = some (.ref fa) → ∃ (K : PySem.W.Frag) (sp : Sp), K.In h ∧ (∀ (H : Hp) (a : Addr) (ns : List Int), ns.length ≤ n → SqL K H a (ns.map V.int) → sp [.ref a] H (fun v _ => v = .bl true) fun _ _ _ => False) ∧
      ∀ base : Heap, K.In base → base.Ns mainGlobals mg → FnG l.prog w K mg base CX k fa sp) (hCX : ∀ H s e s', CX [] H s (fun _ _ _ => False) e s' → False) :
    PySem.W.WalkO q loose XP YP l.row.toRowW d [] (fun f vs => PySem.call f vs) := by
  refine Att.attach_call hn hdf fun w s0 s1 mg mb fa o pm cd doc a vs ns G Y ho hd hcd hmg hobj hints hlen hg => ?_
  obtain ⟨K, sp, KX, h1, h2⟩ := F w mg fa _ Y G.T.g hmg
  exact lawG KX G.T.g G.T.b G.T.builtins G.T.nolimit hg hobj hints (Nat.le_trans hlen hn2) hr h2 (fun H z => h1 H a ns hlen z) fun H e s' => hCX H s1 e s'
end
end Tw
/-! Tw: an own error's __init__ that begins with super().__init__(..) -/
namespace Tw
open PySem PySem.Spec PyProof.Rows L2 PySem.W PySem.Calls NdefX
/-- what the written part says of the class at C, of its __init__ at fI with the cell at cc and the code at cda -/
structure SupF (K : Frag) (P : Program) (C cc cda : Addr) : Prop where
  par : OexC K C
  opq : nsIn K cStatics "thirdparty.any" = some none
  sup : ks_superIn K C C "__init__" = some (some (.builtin "ValueError.__init__"))
  sub : subIn K (.ref C) (.type "ValueError") = some true
  own : mroIn K C (.ref C) = some true
  cell : ∃ cl cld csl, K.lookup cc = some ⟨cl, cld, .cell (some (.ref C)), csl⟩
  code : ∃ ccl cdd vs ccs file tf, K.lookup cda = some ⟨ccl, cdd, .fields vs, ccs⟩ ∧ vs[2]? = some (.str file tf) ∧ ((P.main.file : PySem.Str) == file) = true
  top : (P.main.scope.names.lookup ("super" : PySem.Str)).isSome = false
abbrev erF (name qual : PySem.Str) (params : Arguments) (body : List Stmt) (scope : Scope) (cc cda : Addr) : NF := ⟨name, qual, params, body, scope, [("__class__", cc)], cda⟩
/-- the wrapper of ValueError.__init__ bound to x, called -/
theorem call_mw {prog : Program} {w : World} {A : Around} {E : Value → Shared → Prop} {h : Heap} {g : Array GenState} {d : Drawn} {t : Nat} {os : OsState} {nm q : PySem.Str} {C N : Addr} {bs bm : List Value} {hd : Bool} {sn : List PySem.Str} {sub : List Value} {ab : Bool} {col : Option Bool} {dd : Option Addr}
    {k0 k1 k2 k3 k5 : Option Value} {u x t0 : Addr} {vs : List Value} {Q : Value → Shared → Prop}
    (hC : h.get? C = some (excClassObj nm q C N bs bm hd sn sub ab col dd k0 k1 k2 k3 k5 "ValueError.__new__")) (hx : h.get? x = some (excObj C t0 none .none)) (hu : h.get? u = some (kxs_mw "ValueError.__init__" x)) (hz : vs.length ≤ sizeLine)
    (hq : ∀ h' t1, (∀ b o, b ≠ x → h.get? b = some o → h'.get? b = some o) → h'.get? x = some (excObj C t1 none .none) → Q .none ⟨h', g, d, t, os⟩) :
    wpAny (model prog w) A (call (.ref u) vs) Q E ⟨h, g, d, t, os⟩ := by
  refine wpAny_call (codeAny_of_tree ?_)
  show wpAny _ A.in1 (callAny (.ref u) ⟨vs, []⟩) _ _ _
  simp only [callAny]
  refine wpAny_bind (wpAny_load hu ?_)
  have em : (Value.type "method-wrapper" == Value.type "method" || Value.type "method-wrapper" == Value.type "builtin_function_or_method" || Value.type "method-wrapper" == Value.type "method-wrapper") = true := by decide
  simp only [kxs_mw, em, if_true]
  refine KFB.if_so (by decide) ?_
  refine wpAny_bind (check_bound_init PySem.F.excBase_ValueError.toExcCallFacts hC hx rfl ?_)
  exact wpAny_bind (wpAny_pure (wpAny_pure ⟨plainId_quiet PySem.F.excBase_ValueError.init.plain _, codeAny_builtin PySem.F.excBase_ValueError.initEntry (exc_init_tree (cls := .ref C) (t0 := t0) (dv := none) (c2 := .none) (c3 := .none) (b4 := .bool false) hx hz fun h' k e _ => hq h' _ k e)⟩))
/-- the body: super().__init__(text), and the rest -/
abbrev suB (text : PySem.Str) (j : Nat) (p0 p1 p2 p3 p4 pc : Pos) (rest : List Stmt) : List Stmt := .Expr (.Call (.Attribute (.Call (.Name "super" p0) [] [] p1) "__init__" p2) [.Constant (.str text) j pc] [] p3) p4 :: rest
section
variable {CX : CXT} {P : Program} {w : World} {K : Frag} {mg : PySem.Str → Option Value} {base : Heap} {N ps : List PySem.Str} {k : Nat} {C fI cc cda : Addr} {name qual : PySem.Str} {params : Arguments} {scope : Scope} {rest : List Stmt} {text : PySem.Str} {p0 p1 p2 p3 p4 pc : Pos} {j : Nat}
  {dV kV doc pm ct oc : Value} {an od : Option Addr} {osl : Array (Option Value)} {ar : Arg} {sp : Sp}
theorem ok_er (T : SupF K P C cc cda)
    (lk : K.lookup fI = some ⟨oc, od, .func (fnX name qual params (suB text j p0 p1 p2 p3 p4 pc rest) scope [("__class__", cc)] dV kV doc pm an (.ref cda) ct), osl⟩)
    (hcd : codeIn K (.ref cda) qual = true) (S : NScope N ps ["__class__"] scope) (hpar : (params.posonlyargs ++ params.args).head? = some ar) (hps : ps.head? = some ar.arg)
    (hks : scope.names.lookup ("super" : PySem.Str) = some .globalImplicit) (hms : mg "super" = none)
    (hi : ∀ L, interactive (envF (erF name qual params (suB text j p0 p1 p2 p3 p4 pc rest) scope cc cda) fI L) = false)
    (hsw : ∀ L, swapsWith (.Call (.Attribute (.Call (.Name "super" p0) [] [] p1) "__init__" p2) [.Constant (.str text) j pc] [] p3) none p4.line (envF (erF name qual params (suB text j p0 p1 p2 p3 p4 pc rest) scope cc cda) fI L) = pure false)
    (hev : ∀ L, ∃ pl : Sem Bool, eval (.Call (.Attribute (.Call (.Name "super" p0) [] [] p1) "__init__" p2) [.Constant (.str text) j pc] [] p3) (envF (erF name qual params (suB text j p0 p1 p2 p3 p4 pc rest) scope cc cda) fI L) = (do
      let ov ← attributeBase (.Call (.Name "super" p0) [] [] p1) "__init__" (envF (erF name qual params (suB text j p0 p1 p2 p3 p4 pc rest) scope cc cda) fI L) (eval (.Call (.Name "super" p0) [] [] p1) (envF (erF name qual params (suB text j p0 p1 p2 p3 p4 pc rest) scope cc cda) fI L))
      standAt p2.atName
      let (f, first) ← holding [ov] (getMethod ov "__init__" pl)
      callWith p3 f first (backTo p3 (starEach [.Constant (.str text) j pc] (envF (erF name qual params (suB text j p0 p1 p2 p3 p4 pc rest) scope cc cda) fI L))) []))
    (len : ∀ vs H Q E, sp vs H Q E → vs.length = ps.length)
    (hbody : ∀ (A : Around) (outer : List Env) (s : Shared) (H : Hp) (vs : List V) (Q : VK) (E : XK), Room k (A.deeper (envF (erF name qual params (suB text j p0 p1 p2 p3 p4 pc rest) scope cc cda) fI s.heap.objs.size)) → sp vs H Q E →
      ∃ t, PSs (ncx CX P w K mg base N (erF name qual params (suB text j p0 p1 p2 p3 p4 pc rest) scope cc cda) fI A outer s H E) rest t ∧ ∃ x ws, vs = .ref x :: ws ∧ H x = some (exo x C none) ∧ t { nx := fun _ H' => Q .non H', rt := Q } (startF N vs [none]) H) :
    FnOk P w K mg base CX (k + 1) fI (fnX name qual params (suB text j p0 p1 p2 p3 p4 pc rest) scope [("__class__", cc)] dV kV doc pm an (.ref cda) ct) ps sp := by
  refine ⟨len, fun A outer s H args us vs Q E hr e0 hb r hsp => ?_⟩
  obtain ⟨cl, cld, csl, hcell⟩ := T.cell
  obtain ⟨ccl, cdd, vv, ccs, file, tf, hcode, hvs, hfile⟩ := T.code
  have up0 : ∀ b o, base.get? b = some o → s.heap.get? b = some o := fun b o z => (e0.bs b o z).1
  have KX : K.In s.heap := e0.mod.kin.keeps up0
  have hl := len _ _ _ _ hsp
  have lim : s.heap.NoLimit := e0.mod.nolimit.keeps up0
  have CA : CellsAt (erF name qual params (suB text j p0 p1 p2 p3 p4 pc rest) scope cc cda).cl ["__class__"] [none] s.heap H := by
    have key : ∀ {y c}, List.lookup y [(("__class__" : PySem.Str), cc)] = some c → c = cc := fun {y c} z => by
      have q1 := PySem.mem_of_lookup z
      simp only [List.mem_singleton, Prod.mk.injEq] at q1
      exact q1.2
    refine ⟨rfl, fun y c z => ?_, fun y y' c z z' => ?_, fun i y hi => ?_⟩
    · obtain rfl := key z
      exact ⟨(e0.bs _ _ (e0.mod.kin _ _ hcell)).2, some (.ref C), ⟨_, KX _ _ hcell, rfl⟩⟩
    · have q1 := mem_of_lookup z
      have q2 := mem_of_lookup z'
      simp only [List.mem_singleton, Prod.mk.injEq] at q1 q2
      rw [q1.1, q2.1]
    · cases i with
      | zero =>
        obtain rfl : "__class__" = y := Option.some.inj hi
        exact ⟨cc, rfl, fun v z => by cases z⟩
      | succ i => cases hi
  refine codeAny_call_function hr.depth (KX _ _ lk) rfl S.co S.gen rfl (codeRec_of KX hcd) (hb _ _ _ _ ?_)
  refine wpAny_newFunctionEnv S.nocell (fun ⟨n, _⟩ hy => S.par n (List.of_mem_zip hy).1) (fun h₁ hns hsb => ⟨lim.fresh _ hsb, ?_⟩) S.kind
  have kp : ∀ b o, s.heap.get? b = some o → h₁.get? b = some o := fun b o z => hsb.extBut b o (Nat.ne_of_lt (Heap.lt_size z)) (Heap.get?_push_of_some _ z)
  have lf := KX _ _ lk
  have ki := kp _ _ lf
  have K1 : K.In h₁ := KX.keeps kp
  have I0 := inv_startN (CX := CX) (E := E) (N := N) (F := erF name qual params (suB text j p0 p1 p2 p3 p4 pc rest) scope cc cda) (f := fI) (tk := s.toks + (ps.zip us).length) S hr.hd e0 hl r CA hns kp
  obtain ⟨t, ht, x, ws, rfl, hx, hq⟩ := hbody A outer s H vs Q E (hr.deeper _) hsp
  obtain ⟨nm, qn, NN, bs, bm, sn, sub, ab, col, dd, k0, k1, k2, k3, k5, hC, hbm⟩ := T.par.cls
  have hclC : clsIn K C = some { name := nm, bases := bs, mro := .ref C :: bm, ns := NN, qualname := qn, hasDict := true, slotNames := sn, subclasses := sub, abstract := ab, collection := col, hasDel := false } := by unfold clsIn; rw [hC] <;> rfl
  obtain ⟨t1, hxo⟩ := exo_at e0.hok hx
  show codeAny _ _ (.func (suB text j p0 p1 p2 p3 p4 pc rest) (envF (erF name qual params (suB text j p0 p1 p2 p3 p4 pc rest) scope cc cda) fI s.heap.objs.size)) _ _
  refine ks_codeAny_funcAt (ks_wpAt_execs_cons ?_)
  obtain ⟨pl, hpl⟩ := hev s.heap.objs.size
  have hii := hi s.heap.objs.size
  have hss := hsw s.heap.objs.size
  obtain ⟨env, henv⟩ : ∃ env, envF (erF name qual params (suB text j p0 p1 p2 p3 p4 pc rest) scope cc cda) fI s.heap.objs.size = env := ⟨_, rfl⟩
  rw [henv] at hpl hii hss
  rw [henv]
  refine ks_wpAt_Expr_any (ks_wpAt_MethodCall (he := hpl) ?_) hii hss
  subst henv
  refine ks_wpAt_super_base (f := fI) (cc := cda) hks (S.frk _ (List.mem_singleton.mpr rfl)) rfl rfl ki rfl hpar rfl (K1 _ _ hcode) rfl hvs hfile T.top ?_
  obtain ⟨mb, hb1, hb2⟩ := e0.mod.blt
  have up1 : ∀ b o, base.get? b = some o → h₁.get? b = some o := fun b o z => kp _ _ (up0 _ _ z)
  refine ks_loadName_global S.kind hks (loadGlobal_builtin (e0.mod.glob.keeps up1) hms (hb1.keeps up1) ((hb2 "super" (by decide)).trans (by decide +kernel)) ⟨rfl, ?_⟩)
  refine wpAny_loadName_free S.kind (S.frk _ (List.mem_singleton.mpr rfl)) rfl ⟨_, K1 _ _ hcell, rfl⟩ ?_
  cases r with
  | @cons _ u0 _ us' ra rw' =>
  obtain rfl : u0 = Value.ref x := ra
  have hpn : ps.Nodup := by
    have q := S.nd.sublist (List.take_sublist (ps.length + 1) N)
    have e := S.pre
    rw [show (["__class__"] : List PySem.Str).length = 1 from rfl] at e
    rw [e] at q
    exact (List.nodup_append.mp q).1
  have hp0 : ps[0]? = some ar.arg := by rw [← List.head?_eq_getElem?]; exact hps
  refine wpAny_loadName_local S.kind (S.par _ (List.mem_of_getElem? hp0)) hns (zip_look (i := 0) hpn hp0 rfl) ?_
  have hx1 := kp _ _ hxo
  have hC1 := K1 _ _ hC
  refine ks_wpAny_isType_cls hC1 rfl ⟨rfl, ?_⟩
  have hxC : x ≠ C := fun z => by rw [z, hC1] at hx1; cases hx1
  refine ks_wpAny_call_super hC1 rfl hx1 rfl (fun c z => by cases z) (looks_mroIn K1 T.own) fun h2 e2 k2' => ?_
  have K2 : K.In h2 := K1.keeps k2'
  have hx2 := k2' _ _ hx1
  have hsup := T.sup
  unfold ks_superIn at hsup
  rw [hclC] at hsup
  refine kxs_getMethod kxs_ValueError e2 (looks_opaque K2 T.opq) ((looks_clsIn K2 hclC).andThen .now) rfl K2 hsup (InstAt.type (C := C) (od := none) ⟨hx2, rfl, rfl, trivial⟩ |>.andThen (looks_subIn K2 T.sub)) hxC rfl ?_
  have k3' : ∀ b o, h₁.get? b = some o → (h2.push (kxs_mw "ValueError.__init__" x)).get? b = some o := fun b o z => Heap.get?_push_of_some _ (k2' _ _ z)
  have hu3 : (h2.push (kxs_mw "ValueError.__init__" x)).get? h2.objs.size = some (kxs_mw "ValueError.__init__" x) := Heap.get?_push_at rfl rfl
  generalize h2.push (kxs_mw "ValueError.__init__" x) = h3 at *
  have hx3 := k3' _ _ hx1
  have hC3 := k3' _ _ hC1
  refine kxs_callWith (i := "ValueError.__init__") (x := x) rfl (evalArgs_plain (spliced_more (Calls.Constant_str (spliced_none ⟨hu3, ?_⟩))))
  refine call_mw hC3 hx3 hu3 (by show (1 : Nat) ≤ 16777216; decide) fun h4 t4 k4 hx4 => ?_
  have I4 := (I0.kept (t' := s.toks) (h' := h3) k3').write (t' := s.toks) (x := x) (e := x) (o := exo x C none) (h' := h4) (by rw [hx]; exact True.intro) (.inl rfl) k4 ⟨_, hx4⟩ (exo_ok hx4)
  have eu : upd H x (exo x C none) = H := by
    funext b
    by_cases hb : b = x
    · rw [hb, upd_same, hx]
    · rw [upd_ne hb]
  rw [eu] at I4
  refine wpAt_of_wpAny ?_
  have I5 := I4.tok (s.toks + (ps.zip (Value.ref x :: us')).length + 1 + 1)
  refine wpAny_mono (ht.run [] _ (startF N (.ref x :: ws) [none]) H _ I5 hq) (fun fl s' hs => ?_) fun e s' hs => hs
  have fin : ∀ {σ' : L2.St} {H' : Hp} {v : V} {u : Value}, Inv (ncx CX P w K mg base N (erF name qual params (suB text j p0 p1 p2 p3 p4 pc rest) scope cc cda) fI A outer s H E) [] σ' H' s' → L2.RelV v u → Q v H' → CE outer P w H s Q u s' :=
    fun {σ' H' v u} J rv q => ⟨v, H', J.os, J.bare, J.base, J.hok, rv, q⟩
  cases fl with
  | ret u =>
    obtain ⟨v, σ', H', J, rv, q⟩ := hs
    exact fin J rv q
  | next =>
    obtain ⟨σ', H', J, q⟩ := hs
    exact fin (v := V.non) (u := Value.none) J rfl q
  | brk =>
    obtain ⟨_, _, _, q⟩ := hs
    exact False.elim q
  | cont =>
    obtain ⟨_, _, _, q⟩ := hs
    exact False.elim q
end
end Tw
/-! Tw: own errors over ValueError: facts by Bools, the raise of one -/
namespace Tw
open PySem PySem.Spec PyProof.Rows L2 He PySem.W PySem.Calls NdefX
/-! ### what the written part says -/
def clsE (K : Frag) (C : Addr) : Bool := match K.lookup C with
  | some ⟨.type t, _, .cls cd, sl⟩ => decide (t = "type") && (match cd.mro, sl.toList with
    | .ref D :: bm, [_, _, _, _, some (.builtin n), _] => decide (D = C) && (decide (n = "ValueError.__new__") && (!cd.hasDel && (cd.hasDict && HandSPX.refsVE bm)))
    | _, _ => false)
  | _ => false
theorem clsE_ok {K : Frag} {C : Addr} (h : clsE K C = true) : ∃ nm q N bs bm sn sub ab col dd k0 k1 k2 k3 k5, K.lookup C = some (excClassObj nm q C N bs bm true sn sub ab col dd k0 k1 k2 k3 k5 "ValueError.__new__") ∧ HandSPX.refsVE bm = true := by
  unfold clsE at h
  split at h
  · rename_i t dd cd sl ho
    obtain ⟨h1, h2⟩ := ba h
    obtain rfl := of_decide_eq_true h1
    split at h2
    · rename_i D bm k0 k1 k2 k3 n k5 hm hs
      obtain ⟨a1, h2⟩ := ba h2
      obtain ⟨a2, h2⟩ := ba h2
      obtain ⟨a3, h2⟩ := ba h2
      obtain ⟨a4, a5⟩ := ba h2
      obtain rfl := of_decide_eq_true a1
      obtain rfl := of_decide_eq_true a2
      obtain ⟨nm, bs, mro, ns, qn, hd, sn, sub, ab, col, del⟩ := cd
      dsimp only at hm a3 a4
      subst hm
      subst a4
      have hdel : del = false := by simpa using a3
      subst hdel
      have hsl : sl = #[k0, k1, k2, k3, some (.builtin "ValueError.__new__"), k5] := Array.toList_inj.mp hs
      subst hsl
      exact ⟨nm, qn, ns, bs, bm, sn, sub, ab, col, dd, k0, k1, k2, k3, k5, ho, a5⟩
    · cases h2
  · cases h
/-- the cell and the code of the function at f -/
def celA (K : Frag) (f : Addr) : Addr := match K.lookup f with
  | some ⟨_, _, .func fd, _⟩ => (match fd.closure with
    | [(_, c)] => c
    | _ => 0)
  | _ => 0
def codA (K : Frag) (f : Addr) : Addr := match K.lookup f with
  | some ⟨_, _, .func fd, _⟩ => (match fd.code with
    | .ref c => c
    | _ => 0)
  | _ => 0
/-- the table of codes of the function at f -/
def tbA (K : Frag) (f : Addr) : Addr := match K.lookup (codA K f) with
  | some ⟨_, _, .fields vs, _⟩ => (match (vs[11]? : Option Value) with
    | some (.ref p) => p
    | _ => 0)
  | _ => 0
/-- a function's words, its closure left out -/
def fnC (K : Frag) (a : Addr) : FnW := match K.lookup a with
  | some ⟨_, _, .func fd, _⟩ => some (fd.name, fd.qualname, fd.params, fd.body, fd.scope, fd.globals, [], fd.builtins)
  | _ => none
/-- the function at f of the class at C has the cell of that class, and its code stands in that file -/
def fnE (K : Frag) (C f : Addr) (file qual : PySem.Str) : Bool := keepIn K (.ref f) && match K.lookup f with
  | some ⟨_, _, .func fd, _⟩ => decide (fd.closure = [(("__class__" : PySem.Str), celA K f)]) && (decide (fd.code = .ref (codA K f)) && (codeIn K fd.code qual && (decide (fd.defaults = .none) && ((match K.lookup (celA K f) with
    | some ⟨_, _, .cell (some (.ref D)), _⟩ => decide (D = C)
    | _ => false) && (match K.lookup (codA K f) with
    | some ⟨_, _, .fields vs, _⟩ => (match (vs[2]? : Option Value) with
      | some (.str y _) => file == y
      | _ => false)
    | _ => false)))))
  | _ => false
theorem fnE_ok {K : Frag} {C f : Addr} {file qual name : PySem.Str} {params : Arguments} {body : List Stmt} {scope : Scope} (h : fnE K C f file qual = true) (e : fnC K f = some (name, qual, params, .stmts body, scope, mainGlobals, [], builtinsNs)) :
    (∃ (oc : Value) (od : Option Addr) (kV doc pm ct : Value) (an : Option Addr) (osl : Array (Option Value)), K.lookup f = some ⟨oc, od, .func (fnX name qual params body scope [(("__class__" : PySem.Str), celA K f)] .none kV doc pm an (.ref (codA K f)) ct), osl⟩) ∧
    codeIn K (.ref (codA K f)) qual = true ∧ keepIn K (.ref f) = true ∧ (∃ cl cld csl, K.lookup (celA K f) = some ⟨cl, cld, .cell (some (.ref C)), csl⟩) ∧
    ∃ ccl cdd vs ccs y tf, K.lookup (codA K f) = some ⟨ccl, cdd, .fields vs, ccs⟩ ∧ vs[2]? = some (.str y tf) ∧ (file == y) = true := by
  obtain ⟨kp, h⟩ := ba h
  unfold fnC at e
  cases q : K.lookup f with
  | none =>
    rw [q] at h
    cases h
  | some o =>
    obtain ⟨oc, od, dt, osl⟩ := o
    rw [q] at h e
    cases dt with
    | func fd =>
      dsimp only at h e
      obtain ⟨h1, h⟩ := ba h
      obtain ⟨h2, h⟩ := ba h
      obtain ⟨h3, h⟩ := ba h
      obtain ⟨h4, h⟩ := ba h
      obtain ⟨h5, h6⟩ := ba h
      replace h1 := of_decide_eq_true h1
      replace h2 := of_decide_eq_true h2
      have g4 : fd.defaults = .none := by simpa using h4
      simp only [Option.some.injEq, Prod.mk.injEq] at e
      obtain ⟨e1, e2, e3, e4, e5, e6, _, e8⟩ := e
      obtain ⟨n1, n2, n3, n4, n5, n6, n7, n8, n9, n10, n11, n12, n13, n14, n15⟩ := fd
      dsimp only at h1 h2 h3 g4 e1 e2 e3 e4 e5 e6 e8
      clear h4
      subst e1 e2 e3 e4 e5 e6 e8 g4
      rw [h2] at h3
      rw [h1, h2]
      refine ⟨⟨oc, od, _, _, _, _, _, osl, rfl⟩, h3, kp, ?_, ?_⟩
      · split at h5
        · rename_i a b D d hl
          obtain rfl := of_decide_eq_true h5
          exact ⟨_, _, _, hl⟩
        · cases h5
      · split at h6
        · rename_i a b vs d hl
          split at h6
          · rename_i y tf hv
            exact ⟨_, _, _, _, _, _, hl, hv, h6⟩
          · cases h6
        · cases h6
    | _ => cases h
/-- the class at the global name x, its field fld -/
def bErr (x fld file qual : PySem.Str) (K : Frag) : Bool := clsE K (ga K x) && (fnE K (ga K x) (ma K (ga K x) "__init__") file qual && (eqO (findIn K (.ref (ga K x)) "__init__") (some (some (.ref (ma K (ga K x) "__init__")))) &&
  (eqO (findIn K (.ref (ga K x)) "__setattr__") (some (some (.builtin "object.__setattr__"))) && (eqO (findIn K (.ref (ga K x)) fld) (some none) && (eqO (nsIn K cStatics "thirdparty.any") (some none) &&
  (eqO (ks_superIn K (ga K x) (ga K x) "__init__") (some (some (.builtin "ValueError.__init__"))) && (decide (subIn K (.ref (ga K x)) (.type "ValueError") = some true) && (decide (mroIn K (ga K x) (.ref (ga K x)) = some true) &&
  (decide (subIn K (.ref (ga K x)) (.type "BaseException") = some true) && (decide (typeIn K (.ref (ga K x)) = some (.type "type")) && (keepIn K (.ref (ga K x)) && (decide (typeIn K (.ref (ma K (ga K x) "__init__")) = some (.type "function")) &&
  (eqO (findIn K (.ref (ga K x)) "__getattribute__") (some (some (.builtin "BaseException.__getattribute__"))) && (eqO (findIn K (.ref (ga K x)) "__getattr__") (some none) && hasDictIn K (ga K x)))))))))))))))
structure ErrF (K : Frag) (x fld file qual : PySem.Str) : Prop where
  oex : OexC K (ga K x)
  fn : fnE K (ga K x) (ma K (ga K x) "__init__") file qual = true
  ini : findIn K (.ref (ga K x)) "__init__" = some (some (.ref (ma K (ga K x) "__init__")))
  no : findIn K (.ref (ga K x)) fld = some none
  opq : nsIn K cStatics "thirdparty.any" = some none
  sup : ks_superIn K (ga K x) (ga K x) "__init__" = some (some (.builtin "ValueError.__init__"))
  sub : subIn K (.ref (ga K x)) (.type "ValueError") = some true
  own : mroIn K (ga K x) (.ref (ga K x)) = some true
  tfn : typeIn K (.ref (ma K (ga K x) "__init__")) = some (.type "function")
  xf : XfC K (ga K x)
theorem err_ok {x fld file qual : PySem.Str} {K : Frag} (h : bErr x fld file qual K = true) : ErrF K x fld file qual := by
  obtain ⟨h1, h⟩ := ba h
  obtain ⟨h2, h⟩ := ba h
  obtain ⟨h3, h⟩ := ba h
  obtain ⟨h4, h⟩ := ba h
  obtain ⟨h5, h⟩ := ba h
  obtain ⟨h6, h⟩ := ba h
  obtain ⟨h7, h⟩ := ba h
  obtain ⟨h8, h⟩ := ba h
  obtain ⟨h9, h⟩ := ba h
  obtain ⟨h10, h⟩ := ba h
  obtain ⟨h11, h⟩ := ba h
  obtain ⟨h12, h⟩ := ba h
  obtain ⟨h13, h⟩ := ba h
  obtain ⟨h14, h⟩ := ba h
  obtain ⟨h15, h16⟩ := ba h
  exact ⟨⟨clsE_ok h1, eqO_ok h4, of_decide_eq_true h10, of_decide_eq_true h11, h12⟩, h2, eqO_ok h3, eqO_ok h5, eqO_ok h6, eqO_ok h7, of_decide_eq_true h8, of_decide_eq_true h9, of_decide_eq_true h13,
    ⟨eqO_ok h14, eqO_ok h15, of_decide_eq_true h10, h16⟩⟩
end Tw
/-! Tw: the Hook of a law with own errors and with tables of codes -/
namespace Tw
open PySem PySem.Spec PyProof.Rows L2 He PySem.W
/-- an own error's __init__ -/
structure ErA where
  cls : PySem.Str
  name : PySem.Str
  qual : PySem.Str
  params : Arguments
  body : List Stmt
  scope : Scope
def ErA.val (d : ErA) : FnW := some (d.name, d.qual, d.params, .stmts d.body, d.scope, mainGlobals, [], builtinsNs)
def ErA.got (K : Frag) (d : ErA) : FnW := fnC K (ma K (ga K d.cls) "__init__")
abbrev tab0 : Obj := { cls := .none, data := .fields #[] }
abbrev AlE : Type := AlM × (List FnW × List (Option Obj))
def obsE (as : List Addr) (fa : List Fa) (fb : List (Frag → Bool)) (fn : List He5.DefA) (er : List ErA) (ts : List He.Tab) (tb : List Addr) (g : Addr → Option Obj) : AlE := (obsM fa fb fn ts (frG g as), er.map (ErA.got (frG g as)), tb.map g)
def valE (fn : List He5.DefA) (er : List ErA) (ts : List He.Tab) (tb : List Addr) (w : World) : AlE := (valM fn ts w, er.map ErA.val, tb.map fun _ => some tab0)
structure SaysE (fa : List Fa) (fb : List (Frag → Bool)) (fn : List He5.DefA) (er : List ErA) (ts : List He.Tab) (w : World) (K : Frag) : Prop where
  m : SaysM fa fb fn ts w K
  e : ∀ d ∈ er, d.got K = d.val
def hookE (as : List Addr) (fa : List Fa) (fb : List (Frag → Bool)) (fn : List He5.DefA) (er : List ErA) (ts : List He.Tab) (tb : List Addr) : Hook where
  α := AlE
  obs := fun s => obsE as fa fb fn er ts tb s.heap.get?
  val := fun w => valE fn er ts tb w
  says := fun w h => ∃ K : Frag, K.In h ∧ SaysE fa fb fn er ts w K ∧ ∀ p ∈ tb, h.get? p = some tab0
  of := fun w s e => by
    have h1 : obsM fa fb fn ts (frG s.heap.get? as) = valM fn ts w := congrArg (fun z : AlE => z.1) e
    have h2 : er.map (ErA.got (frG s.heap.get? as)) = er.map ErA.val := congrArg (fun z : AlE => z.2.1) e
    have h3 : tb.map s.heap.get? = tb.map fun _ => some tab0 := congrArg (fun z : AlE => z.2.2) e
    exact ⟨_, frG_in, ⟨h1, fun d hd => List.map_inj_left.mp h2 d hd⟩, fun p hp => List.map_inj_left.mp h3 p hp⟩
  keeps := fun _ _ _ ⟨K, hK, c, t⟩ k => ⟨K, Frag.In.keeps hK k, c, fun p hp => k _ _ (t p hp)⟩
theorem obsE_eq {as : List Addr} {fa : List Fa} {fb : List (Frag → Bool)} {fn : List He5.DefA} {er : List ErA} {ts : List He.Tab} {tb : List Addr} {g : Addr → Option Obj} {s : Shared} (h : ∀ a, g a = s.heap.get? a) : obsE as fa fb fn er ts tb g = (hookE as fa fb fn er ts tb).obs s := by
  rw [show g = s.heap.get? from funext h]
  rfl
section
variable {fa : List Fa} {fb : List (Frag → Bool)} {fn : List He5.DefA} {er : List ErA} {ts : List He.Tab} {w : World} {K : Frag}
theorem SaysE.err (c : SaysE fa fb fn er ts w K) (i : Nat) {d : ErA} (h : er[i]? = some d := by rfl) : fnC K (ma K (ga K d.cls) "__init__") = d.val := c.e d (List.mem_of_getElem? h)
end
/-- no object of the written part stands at p -/
def bOff (p : Addr) (K : Frag) : Bool := (K.lookup p).isNone
theorem off_ok {p : Addr} {K : Frag} (h : bOff p K = true) : K.lookup p = none := by
  unfold bOff at h
  cases e : K.lookup p with
  | none => rfl
  | some o => rw [e] at h; cases h
end Tw
/-! Tw: own errors over ValueError: their making and their raise -/
namespace Tw
open PySem PySem.Spec PyProof.Rows L2 He PySem.W PySem.Calls NdefX
/-- what __init__ promises -/
def sp_er (K : Frag) (C : Addr) (fld : PySem.Str) : Sp := fun vs H Q _ => ∃ (x : Addr) (y : V), vs = [.ref x, y] ∧ H x = some (exo x C none) ∧ ∀ dx, H dx = none → dx ≠ x → Q .non (upd (upd H dx (exd dx [(fld, y)])) x (exo x C (some dx)))
/-- the whole body -/
abbrev erB (text : PySem.Str) (j : Nat) (p0 p1 p2 p3 p4 pc q1 q2 q3 q4 : Pos) (fld par : PySem.Str) : List Stmt := suB text j p0 p1 p2 p3 p4 pc [.Assign [.Attribute (.Name "self" q1) fld q2] (.Name par q3) q4]
section
variable {CX : CXT} {P : Program} {w : World} {K : Frag} {mg : PySem.Str → Option Value} {base : Heap} {x fld par file qual name text : PySem.Str} {j : Nat} {p0 p1 p2 p3 p4 pc q1 q2 q3 q4 : Pos} {params : Arguments} {scope : Scope} {ar : Arg}
theorem ok_err (F : ErrF K x fld file qual) (hf : (P.main.file : PySem.Str) = file) (htop : (P.main.scope.names.lookup ("super" : PySem.Str)).isSome = false)
    (e : fnC K (ma K (ga K x) "__init__") = some (name, qual, params, .stmts (erB text j p0 p1 p2 p3 p4 pc q1 q2 q3 q4 fld par), scope, mainGlobals, [], builtinsNs))
    (S : NScope ["self", par, "__class__"] ["self", par] ["__class__"] scope) (hpar : (params.posonlyargs ++ params.args).head? = some ar) (har : ar.arg = "self")
    (hks : scope.names.lookup ("super" : PySem.Str) = some .globalImplicit) (hms : mg "super" = none)
    (hd1 : (par == ("__debug__" : PySem.Str)) = false) (hd2 : (par == ("__classdict__" : PySem.Str)) = false)
    (hi : ∀ cc cda fI L, interactive (envF (erF name qual params (erB text j p0 p1 p2 p3 p4 pc q1 q2 q3 q4 fld par) scope cc cda) fI L) = false)
    (hsw : ∀ cc cda fI L, swapsWith (.Call (.Attribute (.Call (.Name "super" p0) [] [] p1) "__init__" p2) [.Constant (.str text) j pc] [] p3) none p4.line (envF (erF name qual params (erB text j p0 p1 p2 p3 p4 pc q1 q2 q3 q4 fld par) scope cc cda) fI L) = pure false)
    (hsw2 : ∀ cc cda fI L, swapsWith (.Name par q3) (some (.Attribute (.Name "self" q1) fld q2)) q4.line (envF (erF name qual params (erB text j p0 p1 p2 p3 p4 pc q1 q2 q3 q4 fld par) scope cc cda) fI L) = pure false)
    (hev : ∀ cc cda fI L, ∃ pl : Sem Bool, eval (.Call (.Attribute (.Call (.Name "super" p0) [] [] p1) "__init__" p2) [.Constant (.str text) j pc] [] p3) (envF (erF name qual params (erB text j p0 p1 p2 p3 p4 pc q1 q2 q3 q4 fld par) scope cc cda) fI L) = (do
      let ov ← attributeBase (.Call (.Name "super" p0) [] [] p1) "__init__" (envF (erF name qual params (erB text j p0 p1 p2 p3 p4 pc q1 q2 q3 q4 fld par) scope cc cda) fI L) (eval (.Call (.Name "super" p0) [] [] p1) (envF (erF name qual params (erB text j p0 p1 p2 p3 p4 pc q1 q2 q3 q4 fld par) scope cc cda) fI L))
      standAt p2.atName
      let (f, first) ← holding [ov] (getMethod ov "__init__" pl)
      callWith p3 f first (backTo p3 (starEach [.Constant (.str text) j pc] (envF (erF name qual params (erB text j p0 p1 p2 p3 p4 pc q1 q2 q3 q4 fld par) scope cc cda) fI L))) []))
    (hb : ∀ (kV doc pm : Value) (an : Option Addr) (cl : List (PySem.Str × Addr)) (cdv ct : Value) (us : List Value), us.length = 2 → bindArgs (fnX name qual params (erB text j p0 p1 p2 p3 p4 pc q1 q2 q3 q4 fld par) scope cl .none kV doc pm an cdv ct) ⟨us, []⟩ = pure ((["self", par] : List PySem.Str).zip us)) :
    ∃ fd, FnOk P w K mg base CX 1 (ma K (ga K x) "__init__") fd ["self", par] (sp_er K (ga K x) fld) ∧ Binds K fd ["self", par] [] := by
  obtain ⟨⟨oc, od, kV, doc, pm, ct, an, osl, lk⟩, hcd, kp, hcell, ccl, cdd, vs, ccs, y, tf, hc1, hc2, hc3⟩ := fnE_ok F.fn e
  refine ⟨_, ok_er (k := 0) ⟨F.oex, F.opq, F.sup, F.sub, F.own, hcell, ⟨_, _, _, _, _, _, hc1, hc2, by rw [hf]; exact hc3⟩, htop⟩ lk hcd S hpar (by rw [har]; rfl) hks hms (hi _ _ _) (hsw _ _ _) (hev _ _ _) (fun vs H Q E h => ?_) (fun A outer s H vs Q E hr h => ?_), .all (hb kV doc pm an _ _ ct)⟩
  · obtain ⟨_, _, rfl, _⟩ := h
    rfl
  · obtain ⟨x', y', rfl, hx, q⟩ := h
    refine ⟨_, pss_one (ps_ost (pe_var (i := 0) rfl (.inl (S.par _ (by simp)))) (pe_var (i := 1) rfl (.inl (S.par _ (by simp))) hd1 hd2) (hsw2 _ _ _ _)), x', [y'], rfl, hx, ?_⟩
    exact ⟨_, rfl, _, rfl, x', ga K x, rfl, F.oex, F.no, .inl ⟨hx, fun dx h1 h2 => q dx h1 h2⟩⟩
end
/-- C(e): an error, on its way -/
def tErr (C : Addr) (fld : PySem.Str) (te : TE) : L2.St → Hp → XK → Prop := fun σ H Q => te σ H fun y H1 => ∀ d, H1 d = none → Q (.ref C) (some d) (upd H1 d (.xd [(fld, y)]))
/-- raise C(e), in a def that promises E of what it lets out -/
def tRz (E : XK) (C : Addr) (f : PySem.Str) (te : TE) : TS := fun _ σ H => tErr C f te σ H fun cls d H' => E cls d H'
theorem mk_er {K : Frag} {C : Addr} {fld : PySem.Str} {y : V} {H1 : Hp} {Q : XK} (h : ∀ d, H1 d = none → Q (.ref C) (some d) (upd H1 d (.xd [(fld, y)]))) :
    [y].length ≤ 1000 ∧ ∀ a, H1 a = none → sp_er K C fld (.ref a :: ([y] ++ [])) (upd H1 a (exo a C none)) (fun v H2 => v = .non ∧ ∃ (d : Addr) (fs : List (PySem.Str × V)), H2 a = some (exo a C (some d)) ∧ H2 d = some (exd d fs) ∧ H1 d = none ∧ Q (.ref C) (some d) (upd (del H2 a) d (.xd fs))) (fun _ _ _ => False) := by
  refine ⟨(show 1 ≤ 1000 by decide), fun a ha => ⟨a, y, rfl, upd_same, fun d hd hne => ⟨rfl, d, [(fld, y)], upd_same, ?_, ?_, ?_⟩⟩⟩
  · rw [upd_ne hne, upd_same]
  · rw [upd_ne hne] at hd
    exact hd
  · rw [upd_ne hne] at hd
    have e : upd (del (upd (upd (upd H1 a (exo a C none)) d (exd d [(fld, y)])) a (exo a C (some d))) a) d (.xd [(fld, y)]) = upd H1 d (.xd [(fld, y)]) := by
      funext b
      by_cases hb : b = d
      · rw [hb, upd_same, upd_same]
      · rw [upd_ne hb, upd_ne hb]
        by_cases hba : b = a
        · rw [hba, del_same, ha]
        · rw [del_ne hba, upd_ne hba, upd_ne hb, upd_ne hba]
    rw [e]
    exact h d hd
section
variable {X : Cx} {CX : CXT} {cx fld : PySem.Str} {C fI : Addr} {k : Nat} {fd : FuncData} {ps : List PySem.Str} {e : Expr} {te : TE} {p pos : Pos}
theorem PMk.imp {t t' : L2.St → Hp → XK → Prop} (h : PMk X e t) (i : ∀ σ H Q, t' σ H Q → t σ H Q) : PMk X e t' := fun pins s σ H Q I q => h pins s σ H Q I (i _ _ _ q)
/-- a reading may promise less -/
theorem pe_mono (he : PE X e te) : PE X e (fun σ H k => ∃ Q0 : VK, te σ H Q0 ∧ ∀ y H1, Q0 y H1 → k y H1) := ⟨fun pins s σ H Q I ⟨Q0, h, i⟩ => thn (he.run pins s σ H Q0 I h) fun v s1 ⟨y, H1, I1, r1, q1⟩ => ⟨y, H1, I1, r1, i _ _ q1⟩⟩
theorem pmk_err (he : PE X e te) (T : OexC X.K C) (iC : findIn X.K (.ref C) "__init__" = some (some (.ref fI))) (tI : typeIn X.K (.ref fI) = some (.type "function"))
    (F1 : FnOk X.prog X.w X.K X.mg X.base CX k fI fd ps (sp_er X.K C fld)) (hr : Room (k + 1) X.A) (hb : Binds X.K fd ps []) (hx : Passes CX X (fun _ _ _ => False)) (hg : Gl X cx) (hm : X.mg cx = some (.ref C))
    (hdb : (cx == ("__debug__" : PySem.Str)) = false := by decide) (hs : starEach [e] X.env = (false, eval e X.env) :: starEach [] X.env := by rfl) :
    PMk X (.Call (.Name cx p) [e] [] pos) (tErr C fld te) :=
  PMk.imp (pmk_oex T iC tI F1 hr hb .nil hx hg hm (pa_cons (pe_mono he) pa_nil hs) hdb hs) fun σ H Q h => ⟨_, h, fun y H1 q => mk_er q⟩
end
end Tw
/-! Tw: own errors over any built-in error class -/
namespace Tw
open PySem Builtin Builtin.ObjectAttr
/-- a built-in error class: its name, its new, its init, its mro -/
structure BaseD where
  cl : String
  nw : String
  it : String
  bm : List Value
structure BaseF (b : BaseD) : Prop where
  xb : ExcBaseFacts b.cl b.nw b.it b.bm
  kx : PySem.W.KxsFacts b.cl b.it
  pas : ∀ self : Value, refuseLoop self "__setattr__" b.bm = pure ()
  ob : b.bm.contains (.type "object") = true
  ne : b.bm.isEmpty = false
def dVE : BaseD := ⟨"ValueError", "ValueError.__new__", "ValueError.__init__", [.type "ValueError", .type "Exception", .type "BaseException", .type "object"]⟩
def dOE : BaseD := ⟨"OverflowError", "OverflowError.__new__", "OverflowError.__init__", [.type "OverflowError", .type "ArithmeticError", .type "Exception", .type "BaseException", .type "object"]⟩
def dLE : BaseD := ⟨"LookupError", "LookupError.__new__", "LookupError.__init__", [.type "LookupError", .type "Exception", .type "BaseException", .type "object"]⟩
theorem bfVE : BaseF dVE := ⟨PySem.F.excBase_ValueError, PySem.W.kxs_ValueError, PySem.F.store_ValueError.passes, by decide +kernel, rfl⟩
theorem bfLE : BaseF dLE := ⟨PySem.F.excBase_LookupError, PySem.W.kxs_LookupError, PySem.F.store_LookupError.passes, by decide +kernel, rfl⟩
theorem bfOE : BaseF dOE := ⟨PySem.F.excBase_OverflowError, PySem.W.kxs_OverflowError, PySem.F.store_OverflowError.passes, by decide +kernel, rfl⟩
/-- own classes, then the built-in class's mro -/
def ovB (bm : List Value) : List Value → Bool
  | .ref c :: r => (Value.ref c :: r == bm) || ovB bm r
  | l => l == bm
theorem ovB_cases {bm : List Value} : ∀ l : List Value, ovB bm l = true → l = bm ∨ ∃ c r, l = .ref c :: r ∧ ovB bm r = true := by
  intro l h
  unfold ovB at h
  split at h
  · rcases Bool.or_eq_true_iff.mp h with z | z
    · exact .inl (beq_iff_eq.mp z)
    · exact .inr ⟨_, _, rfl, z⟩
  · exact .inl (beq_iff_eq.mp h)
theorem ovB_pass {b : BaseD} (F : BaseF b) (self : Value) : ∀ l : List Value, ovB b.bm l = true → refuseLoop self "__setattr__" l = pure ()
  | [], h => by
    rcases ovB_cases [] h with z | ⟨_, _, z, _⟩
    · rw [z]; exact F.pas self
    · cases z
  | a :: r, h => by
    rcases ovB_cases (a :: r) h with z | ⟨c, r', z, hr⟩
    · rw [z]; exact F.pas self
    · injection z with z1 z2
      subst z1 z2
      rw [refuseLoop_ref]
      exact ovB_pass F self r hr
theorem ovB_has {bm : List Value} (T : String) : ∀ l : List Value, ovB bm l = true → l.contains (.type T) = bm.contains (.type T)
  | [], h => by
    rcases ovB_cases [] h with z | ⟨_, _, z, _⟩
    · rw [z]
    · cases z
  | a :: r, h => by
    rcases ovB_cases (a :: r) h with z | ⟨c, r', z, hr⟩
    · rw [z]
    · injection z with z1 z2
      subst z1 z2
      rw [List.contains_cons, ovB_has T r hr]
      rfl
theorem ovB_ne {b : BaseD} (F : BaseF b) {l : List Value} (h : ovB b.bm l = true) : l.isEmpty = false := by
  rcases ovB_cases l h with z | ⟨c, r', z, _⟩
  · rw [z]; exact F.ne
  · rw [z]; rfl
end Tw
namespace Tw
open PySem PySem.HandSPX PySem.W PySem.Calls PyProof.Rows Builtin Builtin.ObjectAttr
section
variable {prog : Program} {w : World} {A : Around} {R : Result → Shared → Prop} {he : Heap} {gs : Array GenState} {dr : Drawn} {tn : Nat} {os : OsState}
/-- object.__setattr__ of an error that has no dict as yet -/
theorem osaB {b : BaseD} (BF : BaseF b) {K : W.Frag} {fname : PySem.Str} {tk : Tok} {val : Value} {xa C : Addr} {flds : Array Value} {cda : ClassData}
    (KI : K.In he) (ex : he.get? xa = some { cls := .ref C, data := .fields flds }) (ecd : W.clsIn K C = some cda) (eov : ovB b.bm cda.mro = true) (edct : cda.hasDict = true) (enon : W.findIn K (.ref C) fname = some none)
    (fin : ∀ h2 tk2 da, (∀ p o, p ≠ xa → he.get? p = some o → h2.get? p = some o) → he.objs.size ≤ da → da ≠ xa → h2.get? xa = some { cls := .ref C, dict := some da, data := .fields flds } →
      h2.Ns1 da (fun y => if y = fname then some val else none) → R (.ok (.ret .none)) ⟨h2, gs, dr, tk2, os⟩) :
    codeAny (model prog w) A (.call (.builtin "object.__setattr__") ⟨[.ref xa, .str fname tk, val], []⟩) R ⟨he, gs, dr, tn, os⟩ := by
  have IA : W.InstAt he xa { cls := .ref C, data := .fields flds } C none := ⟨ex, rfl, rfl, trivial⟩
  have SO := F.store_object
  have nonE := ovB_ne BF eov
  have hasO : cda.mro.contains (.type "object") = true := (ovB_has "object" _ eov).trans BF.ob
  have apart : xa ≠ he.objs.size := Nat.ne_of_lt (Heap.lt_size ex)
  have isO : W.Looks (model prog w) he (isInstance (.ref xa) (.type "object")) true := IA.type.andThen (W.looks_mroIn KI (by unfold W.mroIn; rw [ecd, Option.bind_some, if_neg (by rw [nonE]; decide), hasO]))
  refine codeAny_call_builtin SO.slot.plain SO.entry (@W.check_slot (model prog w) _ _ ⟨he, gs, dr, tn, os⟩ "object.__setattr__" "object" "__setattr__" (.ref xa) [.str fname tk, val] [] _ SO.kind SO.split isO (SO.args (.ref xa) (.str fname tk) val) ?_)
  have lkM : W.Looks (model prog w) he (mroOf (.ref C)) cda.mro := (W.looks_clsIn KI ecd).andThen .now
  have lkT : W.Looks (model prog w) he (storeTaker? none) none := .now
  have lkC : W.Looks (model prog w) he (classData C) cda := W.looks_clsIn KI ecd
  rw [W.osa_eq, refuse_eq]
  refine wpAny_bind (wpAny_bind (IA.type.at (wpAny_bind (lkM.at ?_))))
  rw [ovB_pass BF _ _ eov]
  refine wpAny_pure (wpAny_bind (IA.type.at (wpAny_bind ((W.looks_findIn KI enon).at (wpAny_bind (lkT.at ?_))))))
  show wpAny _ _ (storeInOwnDict (.ref xa) (.ref C) (.str fname tk) fname val false) _ _ _
  obtain ⟨c1, c2, c3, c4, c5, c6, c7, c8, c9, c10, c11⟩ := cda
  dsimp only at edct
  subst edct
  unfold storeInOwnDict ownDictForStores
  repeat (first | with_reducible refine store_in_new ?_ ?_ | with_reducible refine wpAny_loadPart_at ex ?_ | with_reducible refine lkC.at ?_ | wp_step)
  · exact ⟨_, #[], _, (Heap.get?_update_ne _ _ _ _ apart.symm).trans (Heap.get?_push_at rfl rfl), rfl, fun e z => absurd z (by simp), fun _ => rfl⟩
  · intro h2 tk2 ns2 same
    have ex1 : (he.push { cls := .type "dict", data := .dict #[] }).get? xa = some { cls := .ref C, data := .fields flds } := Heap.get?_push_of_some _ ex
    refine fin h2 tk2 he.objs.size (fun p o pn po => ?_) (Nat.le_refl _) apart.symm ?_ ns2
    · have z1 := same.2 p (Nat.ne_of_lt (Heap.lt_size po))
      exact z1.trans ((Heap.get?_update_ne _ _ _ _ pn).trans (Heap.get?_push_of_some _ po))
    · have z2 := same.2 xa apart
      exact z2.trans (Heap.get?_update_self _ ex1 rfl)
end
end Tw
namespace Tw
open PySem PySem.Spec PyProof.Rows L2
/-- what the written part says of an own error over the built-in class b -/
structure OexB (b : BaseD) (K : PySem.W.Frag) (C : Addr) : Prop where
  bf : BaseF b
  cls : ∃ c1 c2 c3 c4 tl c5 c6 c7 c8 c9 j0 j1 j2 j3 j5, K.lookup C = some (excClassObj c1 c2 C c3 c4 tl true c5 c6 c7 c8 c9 j0 j1 j2 j3 j5 b.nw) ∧ ovB b.bm tl = true
  sat : PySem.W.findIn K (.ref C) "__setattr__" = some (some (.builtin "object.__setattr__"))
  exb : PySem.W.subIn K (.ref C) (.type "BaseException") = some true
  typ : PySem.W.typeIn K (.ref C) = some (.type "type")
  kpt : PySem.W.keepIn K (.ref C) = true
section
variable {X : Cx} {pins : List (Addr × Obj)} {σ : L2.St} {H : Hp} {sh : Shared} {ea C : Addr} {fn : PySem.Str} {val : V} {uv : Value} {Q : Unit → Shared → Prop} {E : Value → Shared → Prop} {A : Around} {b : BaseD}
theorem exo_lst {e C : Addr} {d : Option Addr} {o : HO} (ho : ∀ f, o ≠ .ext f) : exo e C d ≠ o := fun z => ho _ z.symm
/-- self.fn = val, the first field -/
theorem ost_B (T : OexB b X.K C) (I : Inv X pins σ H sh) (at_ : H ea = some (exo ea C none)) (non : PySem.W.findIn X.K (.ref C) fn = some none) (rel : L2.RelV val uv)
    (fin : ∀ da s2, H da = none → da ≠ ea → Inv X pins σ (upd (upd H da (exd da [(fn, val)])) ea (exo ea C (some da))) s2 → Q () s2) : wpAny (model X.prog X.w) A (setAttr (.ref ea) fn uv) Q E sh := by
  obtain ⟨c1, c2, c3, c4, tl, c5, c6, c7, c8, c9, j0, j1, j2, j3, j5, lk, ov⟩ := T.cls
  have ecd : PySem.W.clsIn X.K C = some { name := c1, bases := c4, mro := .ref C :: tl, ns := c3, qualname := c2, hasDict := true, slotNames := c5, subclasses := c6, abstract := c7, collection := c8, hasDel := false } := by unfold PySem.W.clsIn; rw [lk] <;> rfl
  obtain ⟨ta, ho⟩ := exo_at I.hok at_
  obtain ⟨hv, gs, dr, tn, os⟩ := sh
  refine PySem.W.set_plain I.kIn (ox := { cls := .ref C, dict := none, data := .fields #[.ref ta, .none, .none, .none, .bool false, .none] }) (od := none) ⟨ho, rfl, rfl, trivial⟩ T.sat ?_
  have ov2 : ovB b.bm (.ref C :: tl) = true := by
    show ((Value.ref C :: tl == b.bm) || ovB b.bm tl) = true
    rw [ov, Bool.or_true]
  refine osaB T.bf I.kIn ho ecd ov2 rfl non (fun h2 tk2 da keep fresh dne got nsd => ?_)
  have nod : H da = none := I.hok.fresh fresh
  have old : ∀ {p : Addr} {o : Obj}, hv.get? p = some o → p ≠ da := fun {p o} z => Nat.ne_of_lt (Nat.lt_of_lt_of_le (Heap.lt_size z) fresh)
  have nea : ∀ {p : Addr}, H p = none → p ≠ ea := fun {p} n z => by
    rw [z, at_] at n
    cases n
  have U1 : Un X.fs [] H (upd (upd H da (exd da [(fn, val)])) ea (exo ea C (some da))) hv h2 := {
    keep := fun p o z n _ _ => keep p o (nea n) z
    slot := fun p o z n _ _ => ⟨o.slots, keep p o (nea n) z⟩
    free := fun p o z n _ => by rw [upd_ne (nea n), upd_ne (old z)]; exact n
    there := fun p o z _ => by
      by_cases hp : p = ea
      · exact ⟨_, by rw [hp]; exact got⟩
      · exact ⟨o, keep p o hp z⟩
    tups := fun p xs z => by rw [upd_ne (at_ne at_ z exo_tup), upd_ne (ne_of_none z nod)]; exact z
    frzs := fun p o v z => by rw [upd_ne (at_ne at_ z exo_frz), upd_ne (ne_of_none z nod)]; exact z
    tbls := fun p ps z => ⟨#[], by rw [upd_ne (at_ne at_ z exo_tbl), upd_ne (ne_of_none z nod), z]; simp⟩ }
  refine fin da _ nod dne (I.un (t' := tk2) U1 fun p o z => ?_)
  by_cases hp : p = ea
  · subst hp
    rw [upd_same] at z
    cases z
    exact exo_ok got
  · rw [upd_ne hp] at z
    by_cases hd : p = da
    · subst hd
      rw [upd_same] at z
      cases z
      exact exd_ok nsd (relO_put (fs := []) rel fun g => True.intro)
    · rw [upd_ne hd] at z
      refine (I.hok p o z).stay (fun c v hc y => keep c v ?_ y) (fun c hc => ?_) (fun c xs hc => ?_)
      · rcases hc with hc | hc
        · rw [hc]
          exact hp
        · exact at_ne at_ hc exo_own
      · rw [upd_ne (at_ne at_ hc exo_own), upd_ne (ne_of_none hc nod)]
        exact hc
      · rw [upd_ne (at_ne at_ hc exo_tup), upd_ne (ne_of_none hc nod)]
        exact hc
end
/-- self.f = e in an own error's __init__ -/
def tOsB (b : BaseD) (K : PySem.W.Frag) (fn : PySem.Str) (to te : TE) : TS := fun D σ H => te σ H fun y H1 => to σ H1 fun x H2 => ∃ ea C : Addr, x = .ref ea ∧ OexB b K C ∧ PySem.W.findIn K (.ref C) fn = some none ∧ H2 ea = some (exo ea C none) ∧
  ∀ da, H2 da = none → da ≠ ea → D.nx σ (upd (upd H2 da (exd da [(fn, y)])) ea (exo ea C (some da)))
section
variable {X : Cx} {o e : Expr} {es : List Expr} {to te : TE} {ta : TA} {fn : PySem.Str} {p p' pos : Pos} {b : BaseD}
theorem ps_osB (ho : PE X o to) (hv : PE X e te) (hs : swapsWith e (some (.Attribute o fn p')) pos.line X.env = pure false := by rfl) : PS X (.Assign [.Attribute o fn p'] e pos) (tOsB b X.K fn to te) := by
  refine ⟨fun pins s σ H D I h => ?_⟩
  refine plainObj_wpAny_Assign_Attribute (thn (hv.run pins s σ H _ I h) fun v s1 ⟨y, H1, I1, r1, q1⟩ => thn (ho.run pins s1 σ H1 _ I1 q1) fun u s2 ⟨x, H2, I2, r2, ea, C, ex, T, non, at_, q⟩ => ?_) hs
  subst ex
  obtain rfl : u = Value.ref ea := r2
  exact ost_B T I2 at_ non r1 fun da s' n ne J => ⟨σ, _, J, q da n ne⟩
/-- an own error over b is made by its own __init__ -/
theorem pmk_B {CX : CXT} {x : PySem.Str} {C fI : Addr} {k : Nat} {fd : FuncData} {ps : List PySem.Str} {sp : Sp} {ds : List Value} {dvs : List V} (T : OexB b X.K C) (ini : PySem.W.findIn X.K (.ref C) "__init__" = some (some (.ref fI))) (tyf : PySem.W.typeIn X.K (.ref fI) = some (.type "function"))
    (FI : FnOk X.prog X.w X.K X.mg X.base CX k fI fd ps sp) (rm : Room (k + 1) X.A) (bn : Binds X.K fd ps ds) (vd : Vals dvs ds) (pas : Passes CX X (fun _ _ _ => False)) (gx : Gl X x) (mx : X.mg x = some (.ref C)) (ha : PA X (e :: es) ta)
    (hdb : (x == ("__debug__" : PySem.Str)) = false := by decide) (he : starEach (e :: es) X.env = (false, eval e X.env) :: starEach es X.env := by rfl) (hpl : (backTo pos (starEach es X.env)).any (·.1) = false := by rfl) :
    PMk X (.Call (.Name x p) (e :: es) [] pos) (tMkO C sp dvs ta) := by
  intro pins s σ H Q I h
  obtain ⟨c1, c2, c3, c4, tl, c5, c6, c7, c8, c9, j0, j1, j2, j3, j5, lk, ov⟩ := T.cls
  refine wpAny_Call_Name_kw (ld_glob I gx mx ?_ hdb)
  refine PySem.W.callWith_K (h₀ := X.base) I.ok.mod.kin T.kpt (thn (ha.run pos pins s σ H _ I h) fun us s1 ⟨vs, H1, I1, r1, hz, q1⟩ => ⟨I1.kIn, ?_⟩) he hpl
  show wpAny _ _ (call (.ref C) us) _ _ _
  obtain ⟨hv, gs, dr, tk, os⟩ := s1
  have szl : hv.objs.size ≤ hv.objs.size + 1 := Nat.le_succ _
  have nw : H1 (hv.objs.size + 1) = none := I1.hok.fresh szl
  have wish := q1 (hv.objs.size + 1) nw
  have kept : ∀ c o, hv.get? c = some o → ((hv.push (PySem.W.kdv_tup us)).push (PySem.HandSPX.excO C hv.objs.size)).get? c = some o := fun c o z => Heap.get?_push_of_some _ (Heap.get?_push_of_some _ z)
  have there : ((hv.push (PySem.W.kdv_tup us)).push (PySem.HandSPX.excO C hv.objs.size)).get? (hv.objs.size + 1) = some (PySem.HandSPX.excO C hv.objs.size) := by heap_get
  have J2 : Inv X pins σ (upd H1 (hv.objs.size + 1) (exo (hv.objs.size + 1) C none)) ⟨(hv.push (PySem.W.kdv_tup us)).push (PySem.HandSPX.excO C hv.objs.size), gs, dr, tk, os⟩ :=
    I1.laid (t' := tk) (a := hv.objs.size + 1) (o := exo (hv.objs.size + 1) C none) (h' := (hv.push (PySem.W.kdv_tup us)).push (PySem.HandSPX.excO C hv.objs.size)) kept szl (exo_ok there)
  have rel2 : Vals (V.ref (hv.objs.size + 1) :: (vs ++ dvs)) (Value.ref (hv.objs.size + 1) :: (us ++ ds)) := .cons rfl (r1.append vd)
  have len2 : (Value.ref (hv.objs.size + 1) :: us ++ ds).length = ps.length := by
    have z := rel2.length
    rw [FI.len _ _ _ _ wish] at z
    exact z.symm
  have lenU : us.length ≤ sizeLine := by
    rw [← Paired.length r1, sizeLine_eq]
    omega
  refine wpAny_call (PySem.HandSPX.call_own T.bf.xb (fun Y => ovB_has Y tl ov) (I1.kIn _ _ lk) (PySem.W.looks_findIn I1.kIn ini) (fun self => PySem.W.bind_fn I1.kIn self tyf) lenU
    (codeAny_mono (FI.run _ X.stack _ _ ⟨Value.ref (hv.objs.size + 1) :: us, []⟩ (Value.ref (hv.objs.size + 1) :: (us ++ ds)) _ _ (fun _ _ _ => False) (rm.make C us []) (J2.env0.make C us []) (bn _ (Value.ref (hv.objs.size + 1) :: us) J2.kIn len2) rel2 wish) fun r s' got => ?_))
  match r, got with
  | .error er, got => exact pas pins σ _ _ er s' J2 got
  | .ok (.ret u), got =>
    obtain ⟨v, H2, os2, bare2, un2, hok2, rv, ev, d, fs, ea, ed, hd1, q2⟩ := got
    subst ev
    obtain ⟨h2, g2, d2, t2, os'⟩ := s'
    exact ⟨rv, mk_end (raises_own T.exb T.typ) I1 szl kept un2 hok2 os2 bare2 ea ed hd1 q2⟩
  | .ok .next, got => exact got.elim
  | .ok .brk, got => exact got.elim
  | .ok .cont, got => exact got.elim
end
end Tw
/-! Tw: an own error's __init__ over any built-in error class -/
namespace Tw
open PySem PySem.Spec PyProof.Rows L2 PySem.W PySem.Calls NdefX
/-- what the written part says of the class at C, of its __init__ at fI with the cell at cc and the code at cda -/
structure SupB (bd : BaseD) (K : Frag) (P : Program) (C cc cda : Addr) : Prop where
  par : OexB bd K C
  opq : nsIn K cStatics "thirdparty.any" = some none
  sup : ks_superIn K C C "__init__" = some (some (.builtin bd.it))
  sub : subIn K (.ref C) (.type bd.cl) = some true
  own : mroIn K C (.ref C) = some true
  cell : ∃ cl cld csl, K.lookup cc = some ⟨cl, cld, .cell (some (.ref C)), csl⟩
  code : ∃ ccl cdd vs ccs file tf, K.lookup cda = some ⟨ccl, cdd, .fields vs, ccs⟩ ∧ vs[2]? = some (.str file tf) ∧ ((P.main.file : PySem.Str) == file) = true
  top : (P.main.scope.names.lookup ("super" : PySem.Str)).isSome = false
/-- the wrapper of the built-in class's __init__ bound to x, called -/
theorem call_mwB {bd : BaseD} (BF : BaseF bd) {prog : Program} {w : World} {A : Around} {E : Value → Shared → Prop} {h : Heap} {g : Array GenState} {d : Drawn} {t : Nat} {os : OsState} {nm q : PySem.Str} {C N : Addr} {bs bm : List Value} {hd : Bool} {sn : List PySem.Str} {sub : List Value} {ab : Bool} {col : Option Bool} {dd : Option Addr}
    {k0 k1 k2 k3 k5 : Option Value} {u x t0 : Addr} {vs : List Value} {Q : Value → Shared → Prop}
    (hC : h.get? C = some (excClassObj nm q C N bs bm hd sn sub ab col dd k0 k1 k2 k3 k5 bd.nw)) (hx : h.get? x = some (excObj C t0 none .none)) (hu : h.get? u = some (kxs_mw bd.it x)) (hz : vs.length ≤ sizeLine)
    (hq : ∀ h' t1, (∀ b o, b ≠ x → h.get? b = some o → h'.get? b = some o) → h'.get? x = some (excObj C t1 none .none) → Q .none ⟨h', g, d, t, os⟩) :
    wpAny (model prog w) A (call (.ref u) vs) Q E ⟨h, g, d, t, os⟩ := by
  refine wpAny_call (codeAny_of_tree ?_)
  show wpAny _ A.in1 (callAny (.ref u) ⟨vs, []⟩) _ _ _
  simp only [callAny]
  refine wpAny_bind (wpAny_load hu ?_)
  have em : (Value.type "method-wrapper" == Value.type "method" || Value.type "method-wrapper" == Value.type "builtin_function_or_method" || Value.type "method-wrapper" == Value.type "method-wrapper") = true := by decide
  simp only [kxs_mw, em, if_true]
  refine KFB.if_so (by decide) ?_
  refine wpAny_bind (check_bound_init BF.xb.toExcCallFacts hC hx rfl ?_)
  exact wpAny_bind (wpAny_pure (wpAny_pure ⟨plainId_quiet BF.xb.init.plain _, codeAny_builtin BF.xb.initEntry (exc_init_tree (cls := .ref C) (t0 := t0) (dv := none) (c2 := .none) (c3 := .none) (b4 := .bool false) hx hz fun h' k e _ => hq h' _ k e)⟩))
section
variable {CX : CXT} {P : Program} {w : World} {K : Frag} {mg : PySem.Str → Option Value} {base : Heap} {N ps : List PySem.Str} {k : Nat} {C fI cc cda : Addr} {name qual : PySem.Str} {params : Arguments} {scope : Scope} {rest : List Stmt} {text : PySem.Str} {p0 p1 p2 p3 p4 pc : Pos} {j : Nat}
  {dV kV doc pm ct oc : Value} {an od : Option Addr} {osl : Array (Option Value)} {ar : Arg} {sp : Sp}
theorem ok_erB {bd : BaseD} (T : SupB bd K P C cc cda)
    (lk : K.lookup fI = some ⟨oc, od, .func (fnX name qual params (suB text j p0 p1 p2 p3 p4 pc rest) scope [("__class__", cc)] dV kV doc pm an (.ref cda) ct), osl⟩)
    (hcd : codeIn K (.ref cda) qual = true) (S : NScope N ps ["__class__"] scope) (hpar : (params.posonlyargs ++ params.args).head? = some ar) (hps : ps.head? = some ar.arg)
    (hks : scope.names.lookup ("super" : PySem.Str) = some .globalImplicit) (hms : mg "super" = none)
    (hi : ∀ L, interactive (envF (erF name qual params (suB text j p0 p1 p2 p3 p4 pc rest) scope cc cda) fI L) = false)
    (hsw : ∀ L, swapsWith (.Call (.Attribute (.Call (.Name "super" p0) [] [] p1) "__init__" p2) [.Constant (.str text) j pc] [] p3) none p4.line (envF (erF name qual params (suB text j p0 p1 p2 p3 p4 pc rest) scope cc cda) fI L) = pure false)
    (hev : ∀ L, ∃ pl : Sem Bool, eval (.Call (.Attribute (.Call (.Name "super" p0) [] [] p1) "__init__" p2) [.Constant (.str text) j pc] [] p3) (envF (erF name qual params (suB text j p0 p1 p2 p3 p4 pc rest) scope cc cda) fI L) = (do
      let ov ← attributeBase (.Call (.Name "super" p0) [] [] p1) "__init__" (envF (erF name qual params (suB text j p0 p1 p2 p3 p4 pc rest) scope cc cda) fI L) (eval (.Call (.Name "super" p0) [] [] p1) (envF (erF name qual params (suB text j p0 p1 p2 p3 p4 pc rest) scope cc cda) fI L))
      standAt p2.atName
      let (f, first) ← holding [ov] (getMethod ov "__init__" pl)
      callWith p3 f first (backTo p3 (starEach [.Constant (.str text) j pc] (envF (erF name qual params (suB text j p0 p1 p2 p3 p4 pc rest) scope cc cda) fI L))) []))
    (len : ∀ vs H Q E, sp vs H Q E → vs.length = ps.length)
    (hbody : ∀ (A : Around) (outer : List Env) (s : Shared) (H : Hp) (vs : List V) (Q : VK) (E : XK), Room k (A.deeper (envF (erF name qual params (suB text j p0 p1 p2 p3 p4 pc rest) scope cc cda) fI s.heap.objs.size)) → sp vs H Q E →
      ∃ t, PSs (ncx CX P w K mg base N (erF name qual params (suB text j p0 p1 p2 p3 p4 pc rest) scope cc cda) fI A outer s H E) rest t ∧ ∃ x ws, vs = .ref x :: ws ∧ H x = some (exo x C none) ∧ t { nx := fun _ H' => Q .non H', rt := Q } (startF N vs [none]) H) :
    FnOk P w K mg base CX (k + 1) fI (fnX name qual params (suB text j p0 p1 p2 p3 p4 pc rest) scope [("__class__", cc)] dV kV doc pm an (.ref cda) ct) ps sp := by
  refine ⟨len, fun A outer s H args us vs Q E hr e0 hb r hsp => ?_⟩
  obtain ⟨cl, cld, csl, hcell⟩ := T.cell
  obtain ⟨ccl, cdd, vv, ccs, file, tf, hcode, hvs, hfile⟩ := T.code
  have up0 : ∀ b o, base.get? b = some o → s.heap.get? b = some o := fun b o z => (e0.bs b o z).1
  have KX : K.In s.heap := e0.mod.kin.keeps up0
  have hl := len _ _ _ _ hsp
  have lim : s.heap.NoLimit := e0.mod.nolimit.keeps up0
  have CA : CellsAt (erF name qual params (suB text j p0 p1 p2 p3 p4 pc rest) scope cc cda).cl ["__class__"] [none] s.heap H := by
    have key : ∀ {y c}, List.lookup y [(("__class__" : PySem.Str), cc)] = some c → c = cc := fun {y c} z => by
      have q1 := PySem.mem_of_lookup z
      simp only [List.mem_singleton, Prod.mk.injEq] at q1
      exact q1.2
    refine ⟨rfl, fun y c z => ?_, fun y y' c z z' => ?_, fun i y hi => ?_⟩
    · obtain rfl := key z
      exact ⟨(e0.bs _ _ (e0.mod.kin _ _ hcell)).2, some (.ref C), ⟨_, KX _ _ hcell, rfl⟩⟩
    · have q1 := mem_of_lookup z
      have q2 := mem_of_lookup z'
      simp only [List.mem_singleton, Prod.mk.injEq] at q1 q2
      rw [q1.1, q2.1]
    · cases i with
      | zero =>
        obtain rfl : "__class__" = y := Option.some.inj hi
        exact ⟨cc, rfl, fun v z => by cases z⟩
      | succ i => cases hi
  refine codeAny_call_function hr.depth (KX _ _ lk) rfl S.co S.gen rfl (codeRec_of KX hcd) (hb _ _ _ _ ?_)
  refine wpAny_newFunctionEnv S.nocell (fun ⟨n, _⟩ hy => S.par n (List.of_mem_zip hy).1) (fun h₁ hns hsb => ⟨lim.fresh _ hsb, ?_⟩) S.kind
  have kp : ∀ b o, s.heap.get? b = some o → h₁.get? b = some o := fun b o z => hsb.extBut b o (Nat.ne_of_lt (Heap.lt_size z)) (Heap.get?_push_of_some _ z)
  have lf := KX _ _ lk
  have ki := kp _ _ lf
  have K1 : K.In h₁ := KX.keeps kp
  have I0 := inv_startN (CX := CX) (E := E) (N := N) (F := erF name qual params (suB text j p0 p1 p2 p3 p4 pc rest) scope cc cda) (f := fI) (tk := s.toks + (ps.zip us).length) S hr.hd e0 hl r CA hns kp
  obtain ⟨t, ht, x, ws, rfl, hx, hq⟩ := hbody A outer s H vs Q E (hr.deeper _) hsp
  obtain ⟨nm, qn, NN, bs, bm, sn, sub, ab, col, dd, k0, k1, k2, k3, k5, hC, hbm⟩ := T.par.cls
  have hclC : clsIn K C = some { name := nm, bases := bs, mro := .ref C :: bm, ns := NN, qualname := qn, hasDict := true, slotNames := sn, subclasses := sub, abstract := ab, collection := col, hasDel := false } := by unfold clsIn; rw [hC] <;> rfl
  obtain ⟨t1, hxo⟩ := exo_at e0.hok hx
  show codeAny _ _ (.func (suB text j p0 p1 p2 p3 p4 pc rest) (envF (erF name qual params (suB text j p0 p1 p2 p3 p4 pc rest) scope cc cda) fI s.heap.objs.size)) _ _
  refine ks_codeAny_funcAt (ks_wpAt_execs_cons ?_)
  obtain ⟨pl, hpl⟩ := hev s.heap.objs.size
  have hii := hi s.heap.objs.size
  have hss := hsw s.heap.objs.size
  obtain ⟨env, henv⟩ : ∃ env, envF (erF name qual params (suB text j p0 p1 p2 p3 p4 pc rest) scope cc cda) fI s.heap.objs.size = env := ⟨_, rfl⟩
  rw [henv] at hpl hii hss
  rw [henv]
  refine ks_wpAt_Expr_any (ks_wpAt_MethodCall (he := hpl) ?_) hii hss
  subst henv
  refine ks_wpAt_super_base (f := fI) (cc := cda) hks (S.frk _ (List.mem_singleton.mpr rfl)) rfl rfl ki rfl hpar rfl (K1 _ _ hcode) rfl hvs hfile T.top ?_
  obtain ⟨mb, hb1, hb2⟩ := e0.mod.blt
  have up1 : ∀ b o, base.get? b = some o → h₁.get? b = some o := fun b o z => kp _ _ (up0 _ _ z)
  refine ks_loadName_global S.kind hks (loadGlobal_builtin (e0.mod.glob.keeps up1) hms (hb1.keeps up1) ((hb2 "super" (by decide)).trans (by decide +kernel)) ⟨rfl, ?_⟩)
  refine wpAny_loadName_free S.kind (S.frk _ (List.mem_singleton.mpr rfl)) rfl ⟨_, K1 _ _ hcell, rfl⟩ ?_
  cases r with
  | @cons _ u0 _ us' ra rw' =>
  obtain rfl : u0 = Value.ref x := ra
  have hpn : ps.Nodup := by
    have q := S.nd.sublist (List.take_sublist (ps.length + 1) N)
    have e := S.pre
    rw [show (["__class__"] : List PySem.Str).length = 1 from rfl] at e
    rw [e] at q
    exact (List.nodup_append.mp q).1
  have hp0 : ps[0]? = some ar.arg := by rw [← List.head?_eq_getElem?]; exact hps
  refine wpAny_loadName_local S.kind (S.par _ (List.mem_of_getElem? hp0)) hns (zip_look (i := 0) hpn hp0 rfl) ?_
  have hx1 := kp _ _ hxo
  have hC1 := K1 _ _ hC
  refine ks_wpAny_isType_cls hC1 rfl ⟨rfl, ?_⟩
  have hxC : x ≠ C := fun z => by rw [z, hC1] at hx1; cases hx1
  refine ks_wpAny_call_super hC1 rfl hx1 rfl (fun c z => by cases z) (looks_mroIn K1 T.own) fun h2 e2 k2' => ?_
  have K2 : K.In h2 := K1.keeps k2'
  have hx2 := k2' _ _ hx1
  have hsup := T.sup
  unfold ks_superIn at hsup
  rw [hclC] at hsup
  refine kxs_getMethod T.par.bf.kx e2 (looks_opaque K2 T.opq) ((looks_clsIn K2 hclC).andThen .now) rfl K2 hsup (InstAt.type (C := C) (od := none) ⟨hx2, rfl, rfl, trivial⟩ |>.andThen (looks_subIn K2 T.sub)) hxC rfl ?_
  have k3' : ∀ b o, h₁.get? b = some o → (h2.push (kxs_mw bd.it x)).get? b = some o := fun b o z => Heap.get?_push_of_some _ (k2' _ _ z)
  have hu3 : (h2.push (kxs_mw bd.it x)).get? h2.objs.size = some (kxs_mw bd.it x) := Heap.get?_push_at rfl rfl
  generalize h2.push (kxs_mw bd.it x) = h3 at *
  have hx3 := k3' _ _ hx1
  have hC3 := k3' _ _ hC1
  refine kxs_callWith (i := bd.it) (x := x) rfl (evalArgs_plain (spliced_more (Calls.Constant_str (spliced_none ⟨hu3, ?_⟩))))
  refine call_mwB T.par.bf hC3 hx3 hu3 (by show (1 : Nat) ≤ 16777216; decide) fun h4 t4 k4 hx4 => ?_
  have I4 := (I0.kept (t' := s.toks) (h' := h3) k3').write (t' := s.toks) (x := x) (e := x) (o := exo x C none) (h' := h4) (by rw [hx]; exact True.intro) (.inl rfl) k4 ⟨_, hx4⟩ (exo_ok hx4)
  have eu : upd H x (exo x C none) = H := by
    funext b
    by_cases hb : b = x
    · rw [hb, upd_same, hx]
    · rw [upd_ne hb]
  rw [eu] at I4
  refine wpAt_of_wpAny ?_
  have I5 := I4.tok (s.toks + (ps.zip (Value.ref x :: us')).length + 1 + 1)
  refine wpAny_mono (ht.run [] _ (startF N (.ref x :: ws) [none]) H _ I5 hq) (fun fl s' hs => ?_) fun e s' hs => hs
  have fin : ∀ {σ' : L2.St} {H' : Hp} {v : V} {u : Value}, Inv (ncx CX P w K mg base N (erF name qual params (suB text j p0 p1 p2 p3 p4 pc rest) scope cc cda) fI A outer s H E) [] σ' H' s' → L2.RelV v u → Q v H' → CE outer P w H s Q u s' :=
    fun {σ' H' v u} J rv q => ⟨v, H', J.os, J.bare, J.base, J.hok, rv, q⟩
  cases fl with
  | ret u =>
    obtain ⟨v, σ', H', J, rv, q⟩ := hs
    exact fin J rv q
  | next =>
    obtain ⟨σ', H', J, q⟩ := hs
    exact fin (v := V.non) (u := Value.none) J rfl q
  | brk =>
    obtain ⟨_, _, _, q⟩ := hs
    exact False.elim q
  | cont =>
    obtain ⟨_, _, _, q⟩ := hs
    exact False.elim q
end
end Tw
/-! Tw: own errors over any built-in error class: facts by Bools, their making and their raise -/
namespace Tw
open PySem PySem.Spec PyProof.Rows L2 He PySem.W PySem.Calls NdefX
def clsB (bd : BaseD) (K : Frag) (C : Addr) : Bool := match K.lookup C with
  | some ⟨.type t, _, .cls cd, sl⟩ => decide (t = "type") && (match cd.mro, sl.toList with
    | .ref D :: bm, [_, _, _, _, some (.builtin n), _] => decide (D = C) && (decide (n = bd.nw) && (!cd.hasDel && (cd.hasDict && ovB bd.bm bm)))
    | _, _ => false)
  | _ => false
theorem clsB_ok {bd : BaseD} {K : Frag} {C : Addr} (h : clsB bd K C = true) : ∃ nm q N bs bm sn sub ab col dd k0 k1 k2 k3 k5, K.lookup C = some (excClassObj nm q C N bs bm true sn sub ab col dd k0 k1 k2 k3 k5 bd.nw) ∧ ovB bd.bm bm = true := by
  unfold clsB at h
  split at h
  · rename_i t dd cd sl ho
    obtain ⟨h1, h2⟩ := ba h
    obtain rfl := of_decide_eq_true h1
    split at h2
    · rename_i D bm k0 k1 k2 k3 n k5 hm hs
      obtain ⟨a1, h2⟩ := ba h2
      obtain ⟨a2, h2⟩ := ba h2
      obtain ⟨a3, h2⟩ := ba h2
      obtain ⟨a4, a5⟩ := ba h2
      obtain rfl := of_decide_eq_true a1
      obtain rfl := of_decide_eq_true a2
      obtain ⟨nm, bs, mro, ns, qn, hd, sn, sub, ab, col, del⟩ := cd
      dsimp only at hm a3 a4
      subst hm
      subst a4
      have hdel : del = false := by simpa using a3
      subst hdel
      have hsl : sl = #[k0, k1, k2, k3, some (.builtin bd.nw), k5] := Array.toList_inj.mp hs
      subst hsl
      exact ⟨nm, qn, ns, bs, bm, sn, sub, ab, col, dd, k0, k1, k2, k3, k5, ho, a5⟩
    · cases h2
  · cases h
/-- the class at the global name x, its field fld -/
def bErG (bd : BaseD) (x fld file qual : PySem.Str) (K : Frag) : Bool := clsB bd K (ga K x) && (fnE K (ga K x) (ma K (ga K x) "__init__") file qual && (eqO (findIn K (.ref (ga K x)) "__init__") (some (some (.ref (ma K (ga K x) "__init__")))) &&
  (eqO (findIn K (.ref (ga K x)) "__setattr__") (some (some (.builtin "object.__setattr__"))) && (eqO (findIn K (.ref (ga K x)) fld) (some none) && (eqO (nsIn K cStatics "thirdparty.any") (some none) &&
  (eqO (ks_superIn K (ga K x) (ga K x) "__init__") (some (some (.builtin bd.it))) && (decide (subIn K (.ref (ga K x)) (.type bd.cl) = some true) && (decide (mroIn K (ga K x) (.ref (ga K x)) = some true) &&
  (decide (subIn K (.ref (ga K x)) (.type "BaseException") = some true) && (decide (typeIn K (.ref (ga K x)) = some (.type "type")) && (keepIn K (.ref (ga K x)) && (decide (typeIn K (.ref (ma K (ga K x) "__init__")) = some (.type "function")) &&
  (eqO (findIn K (.ref (ga K x)) "__getattribute__") (some (some (.builtin "BaseException.__getattribute__"))) && (eqO (findIn K (.ref (ga K x)) "__getattr__") (some none) && hasDictIn K (ga K x)))))))))))))))
structure ErrG (bd : BaseD) (K : Frag) (x fld file qual : PySem.Str) : Prop where
  oex : OexB bd K (ga K x)
  fn : fnE K (ga K x) (ma K (ga K x) "__init__") file qual = true
  ini : findIn K (.ref (ga K x)) "__init__" = some (some (.ref (ma K (ga K x) "__init__")))
  no : findIn K (.ref (ga K x)) fld = some none
  opq : nsIn K cStatics "thirdparty.any" = some none
  sup : ks_superIn K (ga K x) (ga K x) "__init__" = some (some (.builtin bd.it))
  sub : subIn K (.ref (ga K x)) (.type bd.cl) = some true
  own : mroIn K (ga K x) (.ref (ga K x)) = some true
  tfn : typeIn K (.ref (ma K (ga K x) "__init__")) = some (.type "function")
  xf : XfC K (ga K x)
theorem erG_ok {bd : BaseD} (bf : BaseF bd) {x fld file qual : PySem.Str} {K : Frag} (h : bErG bd x fld file qual K = true) : ErrG bd K x fld file qual := by
  obtain ⟨h1, h⟩ := ba h
  obtain ⟨h2, h⟩ := ba h
  obtain ⟨h3, h⟩ := ba h
  obtain ⟨h4, h⟩ := ba h
  obtain ⟨h5, h⟩ := ba h
  obtain ⟨h6, h⟩ := ba h
  obtain ⟨h7, h⟩ := ba h
  obtain ⟨h8, h⟩ := ba h
  obtain ⟨h9, h⟩ := ba h
  obtain ⟨h10, h⟩ := ba h
  obtain ⟨h11, h⟩ := ba h
  obtain ⟨h12, h⟩ := ba h
  obtain ⟨h13, h⟩ := ba h
  obtain ⟨h14, h⟩ := ba h
  obtain ⟨h15, h16⟩ := ba h
  exact ⟨⟨bf, clsB_ok h1, eqO_ok h4, of_decide_eq_true h10, of_decide_eq_true h11, h12⟩, h2, eqO_ok h3, eqO_ok h5, eqO_ok h6, eqO_ok h7, of_decide_eq_true h8, of_decide_eq_true h9, of_decide_eq_true h13,
    ⟨eqO_ok h14, eqO_ok h15, of_decide_eq_true h10, h16⟩⟩
section
variable {CX : CXT} {P : Program} {w : World} {K : Frag} {mg : PySem.Str → Option Value} {base : Heap} {x fld par file qual name text : PySem.Str} {j : Nat} {p0 p1 p2 p3 p4 pc q1 q2 q3 q4 : Pos} {params : Arguments} {scope : Scope} {ar : Arg}
theorem ok_erG {bd : BaseD} (F : ErrG bd K x fld file qual) (hf : (P.main.file : PySem.Str) = file) (htop : (P.main.scope.names.lookup ("super" : PySem.Str)).isSome = false)
    (e : fnC K (ma K (ga K x) "__init__") = some (name, qual, params, .stmts (erB text j p0 p1 p2 p3 p4 pc q1 q2 q3 q4 fld par), scope, mainGlobals, [], builtinsNs))
    (S : NScope ["self", par, "__class__"] ["self", par] ["__class__"] scope) (hpar : (params.posonlyargs ++ params.args).head? = some ar) (har : ar.arg = "self")
    (hks : scope.names.lookup ("super" : PySem.Str) = some .globalImplicit) (hms : mg "super" = none)
    (hd1 : (par == ("__debug__" : PySem.Str)) = false) (hd2 : (par == ("__classdict__" : PySem.Str)) = false)
    (hi : ∀ cc cda fI L, interactive (envF (erF name qual params (erB text j p0 p1 p2 p3 p4 pc q1 q2 q3 q4 fld par) scope cc cda) fI L) = false)
    (hsw : ∀ cc cda fI L, swapsWith (.Call (.Attribute (.Call (.Name "super" p0) [] [] p1) "__init__" p2) [.Constant (.str text) j pc] [] p3) none p4.line (envF (erF name qual params (erB text j p0 p1 p2 p3 p4 pc q1 q2 q3 q4 fld par) scope cc cda) fI L) = pure false)
    (hsw2 : ∀ cc cda fI L, swapsWith (.Name par q3) (some (.Attribute (.Name "self" q1) fld q2)) q4.line (envF (erF name qual params (erB text j p0 p1 p2 p3 p4 pc q1 q2 q3 q4 fld par) scope cc cda) fI L) = pure false)
    (hev : ∀ cc cda fI L, ∃ pl : Sem Bool, eval (.Call (.Attribute (.Call (.Name "super" p0) [] [] p1) "__init__" p2) [.Constant (.str text) j pc] [] p3) (envF (erF name qual params (erB text j p0 p1 p2 p3 p4 pc q1 q2 q3 q4 fld par) scope cc cda) fI L) = (do
      let ov ← attributeBase (.Call (.Name "super" p0) [] [] p1) "__init__" (envF (erF name qual params (erB text j p0 p1 p2 p3 p4 pc q1 q2 q3 q4 fld par) scope cc cda) fI L) (eval (.Call (.Name "super" p0) [] [] p1) (envF (erF name qual params (erB text j p0 p1 p2 p3 p4 pc q1 q2 q3 q4 fld par) scope cc cda) fI L))
      standAt p2.atName
      let (f, first) ← holding [ov] (getMethod ov "__init__" pl)
      callWith p3 f first (backTo p3 (starEach [.Constant (.str text) j pc] (envF (erF name qual params (erB text j p0 p1 p2 p3 p4 pc q1 q2 q3 q4 fld par) scope cc cda) fI L))) []))
    (hb : ∀ (kV doc pm : Value) (an : Option Addr) (cl : List (PySem.Str × Addr)) (cdv ct : Value) (us : List Value), us.length = 2 → bindArgs (fnX name qual params (erB text j p0 p1 p2 p3 p4 pc q1 q2 q3 q4 fld par) scope cl .none kV doc pm an cdv ct) ⟨us, []⟩ = pure ((["self", par] : List PySem.Str).zip us)) :
    ∃ fd, FnOk P w K mg base CX 1 (ma K (ga K x) "__init__") fd ["self", par] (sp_er K (ga K x) fld) ∧ Binds K fd ["self", par] [] := by
  obtain ⟨⟨oc, od, kV, doc, pm, ct, an, osl, lk⟩, hcd, kp, hcell, ccl, cdd, vs, ccs, y, tf, hc1, hc2, hc3⟩ := fnE_ok F.fn e
  refine ⟨_, ok_erB (k := 0) ⟨F.oex, F.opq, F.sup, F.sub, F.own, hcell, ⟨_, _, _, _, _, _, hc1, hc2, by rw [hf]; exact hc3⟩, htop⟩ lk hcd S hpar (by rw [har]; rfl) hks hms (hi _ _ _) (hsw _ _ _) (hev _ _ _) (fun vs H Q E h => ?_) (fun A outer s H vs Q E hr h => ?_), .all (hb kV doc pm an _ _ ct)⟩
  · obtain ⟨_, _, rfl, _⟩ := h
    rfl
  · obtain ⟨x', y', rfl, hx, q⟩ := h
    refine ⟨_, pss_one (ps_osB (b := bd) (pe_var (i := 0) rfl (.inl (S.par _ (by simp)))) (pe_var (i := 1) rfl (.inl (S.par _ (by simp))) hd1 hd2) (hsw2 _ _ _ _)), x', [y'], rfl, hx, ?_⟩
    exact ⟨_, rfl, _, rfl, x', ga K x, rfl, F.oex, F.no, hx, fun dx h1 h2 => q dx h1 h2⟩
end
section
variable {X : Cx} {CX : CXT} {cx fld : PySem.Str} {C fI : Addr} {k : Nat} {fd : FuncData} {ps : List PySem.Str} {e : Expr} {te : TE} {p pos : Pos}
theorem pmk_erG {bd : BaseD} (he : PE X e te) (T : OexB bd X.K C) (iC : findIn X.K (.ref C) "__init__" = some (some (.ref fI))) (tI : typeIn X.K (.ref fI) = some (.type "function"))
    (F1 : FnOk X.prog X.w X.K X.mg X.base CX k fI fd ps (sp_er X.K C fld)) (hr : Room (k + 1) X.A) (hb : Binds X.K fd ps []) (hx : Passes CX X (fun _ _ _ => False)) (hg : Gl X cx) (hm : X.mg cx = some (.ref C))
    (hdb : (cx == ("__debug__" : PySem.Str)) = false := by decide) (hs : starEach [e] X.env = (false, eval e X.env) :: starEach [] X.env := by rfl) :
    PMk X (.Call (.Name cx p) [e] [] pos) (tErr C fld te) :=
  PMk.imp (pmk_B T iC tI F1 hr hb .nil hx hg hm (pa_cons (pe_mono he) pa_nil hs) hdb hs) fun σ H Q h => ⟨_, h, fun y H1 q => mk_er q⟩
end
end Tw
/-! Tw: try with several clauses 'except C as n' -/
namespace Tw
open PySem PySem.Spec PyProof.Rows L2
abbrev Cl : Type := Value × Nat × (Addr → Value → Option Addr → TS)
/-- what the clauses wish, one behind the other: (class, slot of the name, suite) -/
def wAll (K : PySem.W.Frag) (n : Nat) (Wout : WX) (D : Ends) : List Cl → WX
  | [] => Wout
  | q :: r => fun cls d σ H => ∃ b, PySem.W.exmOne K cls q.1 = some b ∧ (b = true → σ.length = n → ∀ a, H a = none → q.2.2 a cls d { nx := fun σ2 H2 => D.nx (σ2.set q.2.1 none) H2, rt := D.rt, bk := fun σ2 H2 => D.bk (σ2.set q.2.1 none) H2, ct := fun σ2 H2 => D.ct (σ2.set q.2.1 none) H2 } (σ.set q.2.1 (some (.ref a))) H) ∧
      (b = false → wAll K n Wout D r cls d σ H)
inductive ClsOk (X : Cx) : List ExceptHandler → List Cl → Prop
  | nil : ClsOk X [] []
  | cons {x n : Str} {c : Value} {i : Nat} {ts : Addr → Value → Option Addr → TS} {b : Stmt} {bs : List Stmt} {p q : Pos} {hs : List ExceptHandler} {l : List Cl} (hi : X.N[i]? = some n) (hn : X.env.kindOf n = some .local) (hc : Names X x c)
      (hb : ∀ (a : Addr) (oe : Obj) (cls : Value) (d : Option Addr) (pn : List (Addr × Obj)), Zc cls d oe → (∃ vs, oe.data = .fields vs) → PSs (X.suite a ((a, oe) :: pn)) (b :: bs) (ts a cls d)) (r : ClsOk X hs l) :
      ClsOk X (.ExceptHandler (some (.Name x p)) (some n) (b :: bs) q :: hs) ((c, i, ts) :: l)
/-- an exception of the body has come to this frame -/
structure Cau (X : Cx) (pins : List (Addr × Obj)) (σ : L2.St) (H : Hp) (cls : Value) (d : Option Addr) (a : Addr) (B : Heap) (sI s : Shared) (h : Heap) : Prop where
  inv : Inv X pins σ H sI
  old : ∀ b o, sI.heap.get? b = some o → b ∉ frs X.stack → B.get? b = some o
  up : sI.heap.UpToSlots h
  new : H a = none
  os : s.os = sI.os
  bare : AllBare s.gens
  fly : HandSPX.FlyingZ B (X.env :: X.outer) a (Zc cls d) h
section
variable {X : Cx} {pins : List (Addr × Obj)} {σ : L2.St} {H : Hp} {cls : Value} {d : Option Addr} {a : Addr} {B : Heap} {sI s : Shared} {h : Heap}
theorem Cau.here (c : Cau X pins σ H cls d a B sI s h) : Inv X pins σ H { s with heap := h } := c.inv.landed c.old c.fly.1 c.up c.os c.bare
theorem Cau.apart (c : Cau X pins σ H cls d a B sI s h) (hf : X.env.frame = some X.env.locals) : ∃ oe vs, h.get? a = some oe ∧ Zc cls d oe ∧ oe.data = .fields vs ∧ a ≠ X.env.locals ∧ a ∉ X.fs := by
  obtain ⟨oe, vs, e, z, k⟩ := c.fly.there
  have nf : a ∉ frs (X.env :: X.outer) := fun m => by
    obtain ⟨_, o2, e2, n2⟩ := c.fly.2.2.1.mem m
    rw [e] at e2
    cases e2
    exact n2 _ k
  refine ⟨oe, vs, e, z, k, fun y => nf (List.mem_filterMap.mpr ⟨X.env, List.mem_cons_self, by rw [hf, y]⟩), fun y => ?_⟩
  obtain ⟨e1, m1, g1⟩ := List.mem_filterMap.mp y
  exact nf (List.mem_filterMap.mpr ⟨e1, List.mem_cons_of_mem _ m1, g1⟩)
/-- no clause took it: it leaves -/
theorem Cau.pass {Wout : WX} {D : Ends} (c : Cau X pins σ H cls d a B sI s h) (hs : X.stack = X.env :: X.outer) (hf : X.env.frame = some X.env.locals) (tk : Takes X Wout) (w : Wout cls d σ H) :
    wpAny (model X.prog X.w) X.A (handleBy (.ref a) X.env []) (SP X pins D) X.xe { s with heap := h } := by
  refine wpAny_handleBy_nil ?_
  obtain ⟨_, _, _, oe, vs, T, oT, ts, e, _, k, h1, _⟩ := id c.fly
  unfold PySem.passOn
  refine wpAny_bind (wpAny_field e k h1 ?_)
  have ne : ¬ ((Value.ref T == Value.none) = true) := by simp
  rw [if_neg ne]
  have out : wpAny (model X.prog X.w) X.A (setFlight (.ref a) X.env.frame) (fun _ s4 => wpAny (model X.prog X.w) X.A (throw (.ref a) : Sem Flow) (SP X pins D) X.xe s4) X.xe { s with heap := h } := by
    rw [hf]
    exact HandSPX.setFlight_upZ c.fly fun h4 k4 u4 => wpAny_throw (tk _ _ ⟨a, B, sI, pins, σ, H, cls, d, rfl, c.inv, c.old, c.up.trans u4, .inr (.inr (by rw [hs]; exact k4)), c.new, c.os, c.bare, w⟩)
  first
    | exact wpAny_bind (wpAny_pure (wpAny_bind out))
    | exact wpAny_bind out
theorem Cau.look (c : Cau X pins σ H cls d a B sI s h) (hs : X.stack = X.env :: X.outer) (hf : X.env.frame = some X.env.locals) (hN : X.N.Nodup) {Wout : WX} {D : Ends} (tk : Takes X Wout) :
    ∀ {hds : List ExceptHandler} {l : List Cl}, ClsOk X hds l → wAll X.K X.N.length Wout D l cls d σ H → wpAny (model X.prog X.w) X.A (handleBy (.ref a) X.env hds) (SP X pins D) X.xe { s with heap := h } := by
  intro hds l ok
  have okX := c.inv.ok
  have hfr : X.A.frames = some (X.env :: X.outer) := by rw [okX.frames, hs]
  induction ok with
  | nil => exact fun w => c.pass hs hf tk w
  | @cons x n cc i ts b bs p q hs2 l2 hi hn hc hb r ih =>
    rintro ⟨v, e1, yes, no⟩
    refine wpAny_handleBy_cons (codeAny_handlers_test ?_) (by intro z; cases z)
    obtain ⟨oe, vs, e, z, k, nL, nF⟩ := c.apart hf
    have lt : PySem.W.Looks (model X.prog X.w) h (typeOf (.ref a)) cls := fun A Q E s2 k2 q2 => wpAny_typeOf_ref (k2 _ _ e) (by rw [z.1]; exact q2)
    have lm := PySem.W.exm_one (M := model X.prog X.w) c.here.kIn lt e1
    have inS := c.here.suite e k c.new nL nF
    have ask : ∀ {Q : Value → Shared → Prop} {E : Value → Shared → Prop}, Q cc { s with heap := h } → wpAny (model X.prog X.w) (X.A.mark (some (.ref a))) (eval (.Name x p) X.env) Q E { s with heap := h } := fun {Q E} q2 => by
      obtain ⟨g, nd, m | ⟨m, bo, nn⟩⟩ := hc
      · exact ld_glob (X := X.suite a ((a, oe) :: (X.pn ++ pins))) inS g m q2 nd
      · exact ld_blt (X := X.suite a ((a, oe) :: (X.pn ++ pins))) inS g m bo q2 nn nd
    refine ask (lm.here ?_)
    cases v with
    | false =>
      show wpAny _ X.A (handleBy (.ref a) X.env hs2) _ _ _
      exact ih (no rfl)
    | true =>
      refine codeAny_handlers_suite_as (HandSPX.lands_againZ c.fly fun h4 f4 u4 => ?_)
      have c4 : Cau X pins σ H cls d a B sI s h4 := ⟨c.inv, c.old, c.up.trans u4, c.new, c.os, c.bare, f4⟩
      obtain ⟨o4, w4, e4, z4, k4, nL4, nF4⟩ := c4.apart hf
      have S4 := c4.here.suite e4 k4 c4.new nL4 nF4
      refine store_ok (X := X.suite a ((a, o4) :: (X.pn ++ pins))) (v := .ref a) S4 hN hi (.inl hn) rfl (fun s5 S5 => ?_) (.inr hn)
      refine wpAny_mono ((hb a o4 cls d (X.pn ++ pins) z4 ⟨_, k4⟩).run [] s5 _ H _ S5 (yes rfl c.inv.len a c.new)) (fun f s6 g6 => ?_) (fun _ _ z => False.elim z)
      have bye : ∀ {σ6 : L2.St} {H6 : Hp} {Q : Shared → Prop}, Inv (X.suite a ((a, o4) :: (X.pn ++ pins))) [] σ6 H6 s6 → (∀ s7, Inv X pins (σ6.set i none) H6 s7 → Q s7) → wpAny (model X.prog X.w) X.A (do bindName X.env n .none; unbindBehindTheSuite X.env n q) (fun _ s7 => Q s7) X.xe s6 :=
        fun {σ6 H6 Q} S6 w6 => gone_ok (S6.unsuite okX) hN hi hn w6
      cases f with
      | ret u =>
        obtain ⟨v6, σ6, H6, S6, r6, w6⟩ := g6
        exact bye S6 fun s7 J7 => ⟨v6, _, _, J7, r6, w6⟩
      | next =>
        obtain ⟨σ6, H6, S6, w6⟩ := g6
        exact bye S6 fun s7 J7 => ⟨_, _, J7, w6⟩
      | brk =>
        obtain ⟨σ6, H6, S6, w6⟩ := g6
        exact bye S6 fun s7 J7 => ⟨_, _, J7, w6⟩
      | cont =>
        obtain ⟨σ6, H6, S6, w6⟩ := g6
        exact bye S6 fun s7 J7 => ⟨_, _, J7, w6⟩
end
section
variable {X : Cx} {body : List Stmt} {h0 : ExceptHandler} {hds : List ExceptHandler} {l : List Cl} {pos : Pos} {tb : WX → TS} {Wout : WX}
theorem ps_try_all (hs : X.stack = X.env :: X.outer) (hf : X.env.frame = some X.env.locals) (hN : X.N.Nodup) (tk : Takes X Wout)
    (hb : ∀ (W : WX) (pn : List (Addr × Obj)) (xe : Value → Shared → Prop), Takes (X.tr pn xe) W → PassesOwn (model X.prog X.w) X.A X.env xe → PSs (X.tr pn xe) body (tb W)) (hh : ClsOk X (h0 :: hds) l) :
    PS X (.Try body (h0 :: hds) [] [] pos) (fun D σ H => tb (wAll X.K X.N.length Wout D l) D σ H) := by
  refine ⟨fun pins s σ H D I h => ?_⟩
  have okX := I.ok
  have hfr : X.A.frames = some (X.env :: X.outer) := by rw [okX.frames, hs]
  refine wpAny_Try_except (wpAny_mono ((hb (wAll X.K X.N.length Wout D l) (X.pn ++ pins) (fun e s1 => wpAny (model X.prog X.w) X.A (noteFrame e X.env) (fun _ s2 => wpAny (model X.prog X.w) X.A (setFlight e none) (fun _ s3 => wpAny (model X.prog X.w) X.A (handleBy e X.env (h0 :: hds)) (SP X pins D) X.xe s3) X.xe s2) X.xe s1) (fun u s1 z => ?_) PassesOwn.looking).run [] s σ H D (I.toTry _) h) (fun f s1 q => ?_) fun e s1 z => z)
  · obtain ⟨a, B, sI, pn2, σ2, H2, cls, d, rfl, J2, nb, up, sky, na, os, ag, w⟩ := z
    have J : Inv X pins σ2 H2 sI := J2.ofTry okX
    have sk : Sky B (X.env :: X.outer) a (Zc cls d) X.env.locals s1.heap := by rw [← hs]; exact sky
    show wpAny (model X.prog X.w) X.A (noteFrame (.ref a) X.env) _ _ _
    exact Sky.land Zc.steady hfr hf sk fun h3 f3 u3 => (show Cau X pins σ2 H2 cls d a B sI s1 h3 from ⟨J, nb, up.trans u3, na, os, ag, f3⟩).look hs hf hN tk hh w
  · cases f with
    | next =>
      obtain ⟨σ2, H2, J2, w⟩ := q
      exact wpAny_execs_nil ⟨σ2, H2, J2.ofTry okX, w⟩
    | ret u =>
      obtain ⟨v, σ2, H2, J2, r, w⟩ := q
      exact ⟨v, σ2, H2, J2.ofTry okX, r, w⟩
    | brk =>
      obtain ⟨σ2, H2, J2, w⟩ := q
      exact ⟨σ2, H2, J2.ofTry okX, w⟩
    | cont =>
      obtain ⟨σ2, H2, J2, w⟩ := q
      exact ⟨σ2, H2, J2.ofTry okX, w⟩
end
end Tw
/-! Tw: defs that are called in an except suite and raise nothing; what they promise may speak of the caught error -/
namespace Tw
open PySem PySem.Spec PyProof.Rows L2
open L2H (RoomH PinOk cxH inv_startH)
/-- the promise: p the caught error -/
def FnP (P : Program) (w : World) (K : PySem.W.Frag) (mg : Str → Option Value) (base : Heap) (k : Nat) (f : Addr) (sp : Addr × Obj → Sp) : Prop :=
  ∀ A fs t Hp0 us vs Q p, RoomH k A → PinOk fs Hp0 t p → Env0 P w K mg base A fs t Hp0 → Vals vs us → sp p vs Hp0 Q C8.E0 → codeAny (model P w) A (.call (.ref f) ⟨us, []⟩) (CR C8.CX0 fs P w Hp0 t Q C8.E0) t
section
variable {P : Program} {w : World} {K : PySem.W.Frag} {mg : Str → Option Value} {base : Heap} {k : Nat} {f : Addr} {sp : Addr × Obj → Sp}
theorem FnP.mono {j : Nat} (F : FnP P w K mg base j f sp) (h : j ≤ k) : FnP P w K mg base k f sp := fun A fs t H us vs Q p r => F A fs t H us vs Q p (r.mono h)
theorem fnP_of {x qual : Str} {params : Arguments} {body : List Stmt} {scope : Scope} {kws : List (Str × V)} {fd : FuncData} {N ps : List Str} (F : FunD K x qual params body scope [] kws f fd) (S : FnScope N ps scope) (hb : Binds K fd ps [])
    (hl : ∀ p vs H Q E, sp p vs H Q E → vs.length = ps.length)
    (hbody : ∀ cdv A fs t H vs Q p, RoomH k (A.deeper (envOfC qual scope t.heap.objs.size f cdv)) → PinOk fs H t p → sp p vs H Q C8.E0 → ∃ tt, PSs (cxH C8.CX0 P w K mg base N qual scope f cdv A fs t H C8.E0 p) body tt ∧ tt { nx := fun _ H' => Q .non H', rt := Q } (L2.start N vs) H) :
    FnP P w K mg base (k + 1) f sp := by
  intro A fs t H us vs Q p hr hp e0 rv h
  obtain ⟨oc, od, dV, kV, doc, pm, an, cdv, ct, osl, efd, lk, hcd, _, _⟩ := F.ex
  have KX : K.In t.heap := e0.mod.kin.keeps fun b o z => (e0.bs b o z).1
  have hlen : us.length = ps.length := rv.length.symm.trans (hl _ _ _ _ _ h)
  have hbt := hb t us KX (by rw [List.append_nil]; exact hlen)
  rw [List.append_nil] at hbt
  rw [efd] at lk hbt
  refine codeAny_call_function hr.depth (KX _ _ lk) rfl S.co S.gen rfl (PySem.W.codeRec_of KX hcd) (hbt _ _ _ _ ?_)
  refine wpAny_newFunctionEnv_cells S.kind (fun y hy => ?_) fun env he t1 inc => ?_
  · exact (S.par y.1 (List.of_mem_zip hy).1).elim .inl fun z => .inr ⟨z, PySem.W.cellsFrom_some _ _ _ (.inl z)⟩
  · subst he
    obtain ⟨tt, hps, hq⟩ := hbody cdv A fs t H vs Q p (hr.deeper _) hp h
    have hnl : t.heap.NoLimit := e0.mod.nolimit.keeps fun b o z => (e0.bs b o z).1
    refine ⟨hnl.keeps inc.toInCall.keep, codeAny_func (wpAny_mono (hps.run [] t1 _ _ _ (inv_startH S hp e0 (hl _ _ _ _ _ h) rv inc) hq) (fun fl t2 z => ?_) fun _ _ z => z)⟩
    cases fl with
    | ret u =>
      obtain ⟨v, _, H2, J, r2, q2⟩ := z
      exact ⟨v, H2, J.os, J.bare, J.base, J.hok, r2, q2⟩
    | next =>
      obtain ⟨_, H2, J, q2⟩ := z
      exact ⟨.non, H2, J.os, J.bare, J.base, J.hok, rfl, q2⟩
    | brk => exact z.elim fun _ z => z.elim fun _ z => z.2.elim
    | cont => exact z.elim fun _ z => z.elim fun _ z => z.2.elim
end
section
variable {X : Cx} {k : Nat} {f : Addr} {sp : Addr × Obj → Sp} {x : Str} {e : Expr} {es : List Expr} {t : TA} {p pos : Pos} {q : Addr × Obj}
theorem call_fnP {pins : List (Addr × Obj)} {σ : L2.St} {H : Hp} {s : Shared} {Q : VK} {us : List Value} {vs : List V} (F : FnP X.prog X.w X.K X.mg X.base k f sp) (hr : RoomH k X.A) (hq : q ∈ X.pn) (I : Inv X pins σ H s) (rv : Vals vs us) (h : sp q vs H Q C8.E0) :
    wpAny (model X.prog X.w) X.A (call (.ref f) us) (EP X pins σ Q) X.xe s := by
  have g := I.pin q (List.mem_append_left _ hq)
  have hp : PinOk X.stack H s q := ⟨g.1, g.2.1, fun m => (List.mem_cons.mp (I.stkSub q.1 m)).elim g.2.2.1 g.2.2.2.1, g.2.2.2.2⟩
  exact wpAny_call (codeAny_mono (F X.A X.stack s H us vs Q q hr hp I.env0 rv h) fun r s2 z => match r, z with
    | .error y, z => (show False from z).elim
    | .ok (.ret u), z => I.after z
    | .ok .next, z => z.elim
    | .ok .brk, z => z.elim
    | .ok .cont, z => z.elim)
theorem pe_fnP (F : FnP X.prog X.w X.K X.mg X.base k f sp) (hr : RoomH k X.A) (hq : q ∈ X.pn) (hg : Gl X x) (hm : X.mg x = some (.ref f)) (hk : PySem.W.keepIn X.K (.ref f) = true) (ha : PA X (e :: es) t)
    (hdb : (x == ("__debug__" : Str)) = false := by decide) (he : starEach (e :: es) X.env = (false, eval e X.env) :: starEach es X.env := by rfl)
    (hpl : (backTo pos (starEach es X.env)).any (·.1) = false := by rfl) : PE X (.Call (.Name x p) (e :: es) [] pos) (tFn (sp q) C8.E0 t) := ⟨fun pins s σ H Q I h =>
  wpAny_Call_Name_kw (ld_glob I hg hm (PySem.W.callWith_K (h₀ := X.base) I.ok.mod.kin hk
    (thn (ha.run pos pins s σ H _ I h) fun us s1 ⟨vs, H1, I1, r, z⟩ => ⟨I1.kIn, call_fnP F hr hq I1 r z⟩) he hpl) hdb)⟩
/-- repr where some error is handled -/
structure RmS (A : Around) : Prop where
  un : A.units + 40 < cLine
  gd : A.guards = some []
end
end Tw
/-! Tw: isinstance of a caught error that has its dict -/
namespace Tw
open PySem PySem.Spec PySem.Calls PyProof.Rows L2 PySem.W
section
variable {prog : Program} {w : World} {A : Around} {E : Value → Shared → Prop} {s : Shared} {K : Frag} {x D : Addr} {ox : Obj} {od : Option Obj}
theorem find_cls (T : ExcC K D) : findObj K D od "__class__" = some (.bind (.builtin "getset_descriptor.__get__") (.builtin "object.__class__")) := by
  obtain ⟨cd, hc, _⟩ := any_some T.hd
  unfold findObj
  rw [hc, Option.bind_some, T.ha, Option.bind_some]
  simp [T.hn, T.ht]
/-- e.__class__, as isinstance asks it -/
theorem cls_of (T : ExcC K D) {Q : Option Value → Shared → Prop} (X : K.In s.heap) (I : InstAt s.heap x ox D od) (h : Q (some (.ref D)) { s with toks := s.toks + 1 }) : wpAny (model prog w) A (getAttr? (.ref x) "__class__") Q E s := by
  obtain ⟨hp, g, d, t, os⟩ := s
  have la := I.type (M := model prog w)
  have lb := looks_findIn (M := model prog w) X T.hg
  have lc := looks_findIn (M := model prog w) X T.hk
  have ld := looks_find (M := model prog w) X I (find_cls T)
  have isb : Looks (model prog w) hp (isInstance (.ref x) (.type "BaseException")) true := la.andThen (looks_subIn X T.hs)
  have f0 : (false && onTheHeap (Value.builtin "BaseException.__getattribute__")) = false := rfl
  have f1 : (Value.builtin "BaseException.__getattribute__" == Value.builtin "object.__getattribute__") = false := by decide +kernel
  have f2 : (onTheHeap (Value.ref D) && Value.builtin "BaseException.__getattribute__" == Value.builtin "object.__getattribute__") = false := by rw [f1]; rfl
  have f3 : onTheHeap (Value.ref D) = true := rfl
  unfold getAttr? getAttrBy? getAttrBy
  refine wpAny_bind (wpAny_mkText (wpAny_bind (wpAny_attempt (wpAny_holding (wpAny_bind (la.at (wpAny_bind (lb.at ?_))))))))
  show wpAny _ _ (if (onTheHeap (Value.ref D) && Value.builtin "BaseException.__getattribute__" == Value.builtin "object.__getattribute__") = true then _ else _) _ _ _
  rw [f2, if_neg Bool.false_ne_true]
  unfold getAttrByItsOwn hookBefore
  refine wpAny_bind ?_
  rw [if_pos f3]
  refine lc.at (wpAny_bind (wpAny_attempt (wpAny_holding ?_)))
  unfold callGetattribute
  rw [f0, if_neg Bool.false_ne_true]
  unfold boundAndCalled
  rw [PySem.F.excAttr_ValueError.ga.bind (.ref x)]
  refine wpAny_bind (wpAny_pure ?_)
  show wpAny _ _ (call (.builtin "BaseException.__getattribute__") [.ref x, .str "__class__" t]) _ _ _
  refine wpAny_call (codeAny_call_builtin PySem.F.excAttr_ValueError.ga.plain PySem.F.entry_bexc_ga (@check_slot (model prog w) _ _ ⟨hp, g, d, t + 1, os⟩ "BaseException.__getattribute__" "BaseException" "__getattribute__" (.ref x) [.str "__class__" t] [] _ (by decide +kernel) (by decide +kernel) isb (PySem.F.args_bexc_ga (.ref x) (.str "__class__" t)) ?_))
  unfold Builtin.«object.__getattribute__»
  refine wpAny_bind (wpAny_of_eq (a := ((Value.ref x : Value), [Value.str "__class__" t])) (by first | rfl | (simp only [slotArgs]; rfl)) ?_)
  refine wpAny_bind (wpAny_pure (wpAny_bind (la.at (wpAny_bind (ld.at ?_)))))
  show wpAny _ _ (holding [Value.builtin "object.__class__"] (call (.builtin "getset_descriptor.__get__") [.builtin "object.__class__", .ref x, .ref D]) >>= ret) _ _ _
  refine wpAny_bind (wpAny_holding (wpAny_call (class_get (s := ⟨hp, g, d, t + 1, os⟩) (ox := ox) (od := od) X I T.hm ?_)))
  refine wpAny_pure ?_
  show wpAny _ _ (handedOut (.ref D)) _ _ _
  rw [handedOut_of (v := .ref D) rfl]
  first
    | exact wpAny_pure (wpAny_pure h)
    | exact wpAny_pure h
    | exact wpAny_pure (wpAny_bind (wpAny_pure (wpAny_pure h)))
theorem kit_err (T : ExcC K D) : KitX K (.ref x) (.ref D) (fun h => InstAt h x ox D od) where
  ty := fun _ _ _ I => I.type
  it := fun _ _ X _ => by
    obtain ⟨cdD, hcD, _⟩ := any_some T.hd
    unfold clsIn at hcD
    split at hcD
    · rename_i c1 d1 cd1 sl1 ho
      intro A1 Q1 E1 s1 k1 q1
      unfold isType loadHead
      exact wpAny_bind (wpAny_loadPart (k1 _ _ (X _ _ ho)) (wpAny_pure q1))
    · cases hcD
  ne := fun h tp dd its n sl X htp => by
    obtain ⟨cdD, hcD, _⟩ := any_some T.hd
    refine Bool.eq_false_iff.mpr fun q => ?_
    obtain rfl : D = tp := Value.ref.inj (beq_iff_eq.mp q)
    unfold clsIn at hcD
    split at hcD
    · rename_i c1 d1 cd1 sl1 ho
      have z := (X _ _ ho).symm.trans htp
      cases z
    · cases hcD
  ca := fun X I k => cls_of T X I k
end
/-- isinstance(e, c), e the caught error p of the class D with the dict dd -/
def rIsP (K : Frag) (p : Addr × Obj) : List V → Hp → VK → Prop := fun xs H Q => ∃ (D : Addr) (c : V) (cv : Value) (b : Bool) (dd : Addr) (fs : List (PySem.Str × V)), ExcC K D ∧ xs = [.ref p.1, c] ∧ Zc (.ref D) (some dd) p.2 ∧ (∃ vs, p.2.data = .fields vs) ∧ H dd = some (.xd fs) ∧ (∀ u, RelV c u → u = cv) ∧ kitOne K (.ref D) cv = some b ∧ Q (.bl b) H
theorem call_isP {X : Cx} {p : Addr × Obj} (hp : p ∈ X.pn) : CallR X (.builtin "isinstance") (rIsP X.K p) := by
  intro pins s σ H xs us Q I r h
  obtain ⟨D, c, cv, b, dd, fs, T, rfl, hz, ⟨vs, hv⟩, hdd, hcv, e, q⟩ := h
  cases r with
  | cons rx rr =>
    cases rr with
    | cons rt rr =>
      cases rr
      cases rx
      have ec := hcv _ rt
      subst ec
      obtain ⟨hget, _⟩ := I.pin p (List.mem_append_left _ hp)
      have hx : ObjOk X.prog X.w H s.heap dd (.xd fs) := I.hok dd _ hdd
      obtain ⟨mA, hns, _⟩ := hx
      obtain ⟨oD, ho, _⟩ := lookIn_ns hns
      have J : InstAt s.heap p.1 p.2 D (some oD) := ⟨hget, hz.1, by unfold notCls; rw [hv] <;> rfl, by rw [hz.2]; exact ho⟩
      exact kia_one (kit_err T) I.kIn J e (fun z => nomatch z) fun tk => ⟨.bl b, H, I.kept (t' := tk) fun _ _ z => z, rfl, q⟩
end Tw
/-! Tw: list.count of flat items -/
namespace Tw
open PySem PySem.Spec PyProof.Rows L2
section
variable {X : Cx}
def rCntF (K : PySem.W.Frag) : V → List V → Hp → VK → Prop := fun x xs H Q => ∃ (a : Addr) (ys : List V) (y : V), x = .ref a ∧ xs = [y] ∧ SqL K H a ys ∧ flatV y = true ∧ ys.all flatV = true ∧ Q (.int ((ys.countP fun z => eqV z y : Nat) : Int)) H
theorem count_eqU {y : V} : ∀ {ys : List V} {us : List Value}, Vals ys us → ys.all flatV = true → us.countP (eqU y) = ys.countP fun z => eqV z y
  | _, _, .nil, _ => rfl
  | z :: ys, u :: us, .cons r rs, h => by
    have h2 : flatV z = true ∧ ys.all flatV = true := by simpa using h
    rw [List.countP_cons, List.countP_cons, count_eqU rs h2.2, eqU_of r h2.1]
theorem mt_countF : MtR X "list.count" (rCntF X.K) := by
  intro pins s σ H x xs v us Q I rx rxs h
  obtain ⟨a, ys, y, rfl, rfl, hs, fy, fys, q⟩ := h
  cases rx
  obtain ⟨uy, rfl, ry⟩ := rxs.one
  obtain ⟨its, rv, ⟨⟨cls, dd, data, sl⟩, n, ho, hc, hdn, hd⟩, hlen⟩ := I.list hs
  simp only at hc hd
  subst hc hd
  refine call_meets PySem.F.slot_list_count ⟨_, ho, rfl⟩ PySem.F.entry_list_count (PySem.F.args_list_count_2 _ _)
    (SeqAt.list_countAt a its.toArray n dd sl uy (eqU y)) ⟨ho, fun u2 h2 => mem_eqAt ry fy rv fys u2 (by simpa using h2), ?_⟩
  have ec : its.toArray.toList.countP (eqU y) = ys.countP fun z => eqV z y := count_eqU rv fys
  refine ⟨.int ((ys.countP fun z => eqV z y : Nat) : Int), H, I.tok _, ⟨s.toks, ?_⟩, q⟩
  show Value.int ((its.toArray.toList.countP (eqU y) : Nat) : Int) s.toks = _
  rw [ec]
end
end Tw
/-! Tw: enumerate(tuple); zip(tuple, list) -/
namespace Tw
open PySem PySem.Spec PyProof.Rows L2 PySem.W
open AutoSeq1 (wpAny_loadPart')

theorem enumT_new (t : Addr) (items : Array Value) :
    Meets (Builtin.«enumerate.__new__» ⟨[.type "enumerate", .ref t], []⟩) (fun _ R s => s.heap.IsTuple t items ∧
      R (.ok (.ret (.ref (s.heap.push { cls := .type "tuple_iterator", data := .fields #[.ref t, .int 0 0] }).objs.size)))
        { s with heap := (s.heap.push { cls := .type "tuple_iterator", data := .fields #[.ref t, .int 0 0] }).push { cls := .type "enumerate", data := .fields #[.none, .bool false, .ref s.heap.objs.size, rawInt 0, .none, .none] } }) := by
  refine .of_wp fun prog w A R s h => ?_
  obtain ⟨hp, g, d, tk, os⟩ := s
  obtain ⟨hT, h⟩ := h
  have hT' : Heap.IsTuple (Shared.heap ⟨hp, g, d, tk, os⟩) t items := hT
  obtain ⟨⟨oc, od, odt, osl⟩, ho, hc, n, hd⟩ := id hT
  dsimp only at hc hd
  subst hc hd
  have hsub := sub_enumerate
  wp_walk using wpAny_loadPart' ho
  refine wpAny_stack_any fun st => wpAny_pure ?_
  split
  · rename_i c _ _ _ _ _
    cases (c == Value.type "enumerate") <;> (wp_walk using wpAny_loadPart' ho, wpAny_pyIter_tuple hT'; exact ⟨_, rfl, h⟩)
  · wp_walk using wpAny_loadPart' ho, wpAny_pyIter_tuple hT'
    exact ⟨_, rfl, h⟩

section
variable {prog : Program} {w : World} {A : Around} {E : Value → Shared → Prop} {s : Shared}
theorem enumT_call {t : Addr} {items : Array Value} {Q : Value → Shared → Prop} (hT : s.heap.IsTuple t items)
    (h : ∀ h', IsEnum h' (s.heap.objs.size + 1) s.heap.objs.size 0 .none → h'.IsTupleIter s.heap.objs.size t 0 → (∀ b o, s.heap.get? b = some o → h'.get? b = some o) → Q (.ref (s.heap.objs.size + 1)) { s with heap := h' }) :
    wpAny (model prog w) A (call (.type "enumerate") [.ref t]) Q E s := by
  refine callType_new F.called_enumerate (by decide) (F.typeCall_enumerate_1 _) (F.newCall_enumerate_1 _) (fun obj => F.args_object_init_2 obj _) F.entry_enumerate_new (enumT_new t items) ⟨hT, ?_⟩
  generalize e1 : s.heap.push { cls := .type "tuple_iterator", data := .fields #[.ref t, .int 0 0] } = h1
  have g0 : h1.get? s.heap.objs.size = some { cls := .type "tuple_iterator", data := .fields #[.ref t, .int 0 0] } := by rw [← e1]; exact Heap.get?_push_size _ rfl
  have z1 : h1.objs.size = s.heap.objs.size + 1 := by rw [← e1, Heap.size_push]
  have k1 : ∀ b o, s.heap.get? b = some o → h1.get? b = some o := fun b o e => by rw [← e1]; exact Heap.get?_push_of_some _ e
  show _ ∧ _
  rw [z1]
  have g1 : IsEnum (h1.push { cls := .type "enumerate", data := .fields #[.none, .bool false, .ref s.heap.objs.size, rawInt 0, .none, .none] }) (s.heap.objs.size + 1) s.heap.objs.size 0 .none := by
    rw [← z1]; exact Heap.get?_push_size _ rfl
  exact ⟨⟨_, g1, rfl⟩, h _ g1 ⟨_, Heap.get?_push_of_some _ g0, rfl, by rfl⟩ fun b o e => Heap.get?_push_of_some _ (k1 b o e)⟩
end

/-- the turns of enumerate over the tuple at a -/
def ItEn (K : PySem.W.Frag) (a : Addr) : It where
  go := fun i H => ∃ (xs : List V) (x : V), SqT K H a xs ∧ xs[i]? = some x
  yld := fun i H v H' => ∃ T x, v = .ref T ∧ H T = none ∧ H' = upd H T (.tup [.int (i : Nat), x]) ∧ ∀ xs, SqT K H a xs → xs[i]? = some x
  stop := fun i H => ∃ xs : List V, SqT K H a xs ∧ xs.length ≤ i

theorem two_mem {a b c : Addr} (h : c ∈ [a, b]) : c = a ∨ c = b := by simpa using h
theorem turn_enT {P : Program} {w : World} {K : PySem.W.Frag} {elts : List Expr} {kk : Nat} {tpos : Pos} (a e it : Addr) :
    Turn P w K (.Tuple elts kk tpos) (ItEn K a) [e, it] e (fun i h => (∃ old, IsEnum h e it ((i : Nat) : Int) old) ∧ h.IsTupleIter it a i ∧ e ≠ it ∧ a ≠ it ∧ a ≠ e) := by
  refine ⟨by simp, ?_, ?_, ?_, ?_, ?_⟩
  · intro i h st b hb
    obtain ⟨⟨old, he⟩, ⟨o, ho, hc, hd⟩, _, _⟩ := st
    rcases two_mem hb with z | z
    · subst z
      exact ⟨_, he, fun v q => nomatch q⟩
    · subst z
      exact ⟨o, ho, fun v q => by rw [hd] at q; cases q⟩
  · intro i h h' st k
    obtain ⟨⟨old, he⟩, hi, hne⟩ := st
    exact ⟨⟨old, k e (by simp) _ he⟩, hi.at fun o q => k it (by simp) o q, hne⟩
  · intro X hP hw hK hc i pins s σ H E I hf st hg
    subst hP hw hK
    obtain ⟨⟨old, he⟩, hit, hne, hai, hae⟩ := st
    obtain ⟨xs, x, hq, hx⟩ := hg
    obtain ⟨its, rv, p, hz⟩ := I.tuple hq
    obtain ⟨u, hu, ru⟩ := rv.get hx
    have hel : e < s.heap.objs.size := Heap.lt_size he
    have hil : it < s.heap.objs.size := by obtain ⟨_, q, _⟩ := hit; exact Heap.lt_size q
    have hlt : i < its.toArray.size := by
      have := (List.getElem?_eq_some_iff.mp hu).1
      simpa using this
    have hd0 : X.A.in1.handled = none := I.ok.hd hc
    refine wpAny_pyNext_enum_itemD (Draws.tuple hd0 it a hai its.toArray) he ⟨hit, p⟩ hlt hne (by simp [hne, Ne.symm hae]) fun y h' tk hy ho hst' hT hsz hk => ?_
    have ey : y = u := by
      have e1 : its.toArray[i]? = some y := hy
      have e2 : its.toArray[i]? = some u := by simpa using hu
      rw [e1] at e2
      exact Option.some.inj e2
    subst ey
    refine ⟨_, rfl, wpAny_letOwnedTupleGo_enum (s := { s with heap := h', toks := tk + 1 }) ho fun h'' he' sb => ?_⟩
    have hT2 := (sb.2 _ (Nat.ne_of_gt hel)).trans hT
    have new : ObjOk X.prog X.w (upd H s.heap.objs.size (.tup [.int (i : Nat), x])) h'' s.heap.objs.size (.tup [.int (i : Nat), x]) :=
      ⟨by show 2 ≤ sizeLine; decide, [.int i tk, y], .cons ⟨_, rfl⟩ (.cons ru .nil), ⟨_, hT2, rfl, _, rfl⟩⟩
    have I1 : Inv X pins σ (upd H s.heap.objs.size (.tup [.int (i : Nat), x])) { s with heap := h'', toks := tk + 1 } :=
      I.turnedNew (ch := [e, it]) (fun b ob hb q => (sb.2 b fun z => hb (by simp [z])).trans (hk b ob (fun z => hb (by simp [z])) (fun z => hb (by simp [z])) q)) hf (Nat.le_refl _) new
    refine ⟨.ref s.heap.objs.size, _, I1, rfl, ⟨_, x, rfl, I.hok.fresh (Nat.le_refl _), rfl, fun ys hy => by rw [I.tuple_inj hy hq]; exact hx⟩, ⟨⟨y, ?_⟩, hst'.1.at fun o q => (sb.2 it (Ne.symm hne)).trans q, hne, hai, hae⟩, fun b hb => ?_⟩
    · have e1 : ((i + 1 : Nat) : Int) = (i : Int) + 1 := by omega
      rw [e1]
      exact he'
    · have hb' : b < s.heap.objs.size := by rcases two_mem hb with z | z <;> (rw [z]; assumption)
      rw [upd_ne (Nat.ne_of_lt hb')]
      exact (hf b hb).1
  · intro X hP hw hK hc i pins s σ H E I hf st hg
    subst hP hw hK
    obtain ⟨⟨old, he⟩, hit, hne, hai, hae⟩ := st
    obtain ⟨xs, hq, hx⟩ := hg
    obtain ⟨its, rv, p, hz⟩ := I.tuple hq
    obtain ⟨f0, f1, f2, f3, f4, f5⟩ := hf it (by simp)
    have hl := rv.length
    have hd0 : X.A.in1.handled = none := I.ok.hd hc
    have D : Draws X.prog X.w X.A.in1 it [it, a] i (fun _ _ => False) (fun j h => j = i ∧ h.IsTupleIter it a i ∧ h.IsTuple a its.toArray) := by
      refine ⟨fun _ _ st => let ⟨o, ho, _⟩ := st.2.1; ⟨o, ho⟩, fun _ _ _ st hk => ⟨st.1, st.2.1.at fun o e => hk it (by simp) o e, st.2.2.at fun o e => hk a (by simp) o e⟩, fun j s Q E hj st _ => absurd st.1 (Nat.ne_of_lt hj), fun s Q E st hE => ?_⟩
      exact RZ.nextOf_tuple_end hd0 st.2.1 st.2.2 (Array.getElem?_eq_none (by simp; omega)) hE
    exact wpAny_pyNext_enum_endD D he ⟨rfl, hit, p⟩ fun h' eb => ⟨rfl, I.turned (t' := s.toks) (fun b o hb q => eb b o hb q) f0 f1 f3 f4 f5⟩
  · intro A i s Q E st h
    obtain ⟨⟨_, he⟩, _⟩ := st
    exact wpAny_pyIter_enum he h
def iEnT (K : PySem.W.Frag) (ta : TA) : TI := fun σ H R => ta σ H fun vs H1 => ∃ a xs, vs = [.ref a] ∧ SqT K H1 a xs ∧ R (ItEn K a) H1
/-- for i, x in enumerate(t), t a tuple -/
theorem pi_enT {X : Cx} {e : Expr} {ta : TA} {p pos tpos : Pos} {elts : List Expr} {kk : Nat} (hg : Gl X "enumerate") (hm : X.mg "enumerate" = none) (ha : PA X [e] ta)
    (hs : starEach [e] X.env = [(false, eval e X.env)] := by rfl) : PI X (.Tuple elts kk tpos) (.Call (.Name "enumerate" p) [e] [] pos) (iEnT X.K ta) := by
  refine ⟨fun pins s σ H R I h => Call_ (ld_blt I hg hm boot_enumerate (PyProof.Rows.callWith_type1 (thn (ha.run pos pins s σ H _ I h) fun us s1 ⟨vs, H1, I1, r1, q1⟩ => ?_) hs rfl))⟩
  obtain ⟨a, xs, rfl, hq, q⟩ := q1
  obtain ⟨u, rfl, ru⟩ := r1.one
  cases (show u = Value.ref a from ru)
  obtain ⟨its, rv, p', hz⟩ := I1.tuple hq
  have hal : a < s1.heap.objs.size := by obtain ⟨_, ho, _⟩ := id p'; exact Heap.lt_size ho
  refine enumT_call p' fun h' he hit hk => wpAny_pyIter_enum he ?_
  have I2 : Inv X pins σ H1 { s1 with heap := h' } := I1.kept (t' := s1.toks) hk
  refine ⟨s1.heap.objs.size + 1, [s1.heap.objs.size + 1, s1.heap.objs.size], _, _, H1, rfl, I2, turn_enT a (s1.heap.objs.size + 1) s1.heap.objs.size, ⟨⟨.none, he⟩, hit, Nat.succ_ne_self _, Nat.ne_of_lt hal, Nat.ne_of_lt (Nat.lt_succ_of_lt hal)⟩, fun b hb => ?_, q⟩
  have hle : s1.heap.objs.size ≤ b := by
    rcases two_mem hb with z | z
    · exact z ▸ Nat.le_succ _
    · exact z ▸ Nat.le_refl _
  exact I1.fpOk hle (I1.hok.fresh hle)
/-- the loop over it: the body leaves, or goes to the next turn -/
theorem for_enT {K : PySem.W.Frag} {a : Addr} {xs : List V} {g : TG} {tb : TS} {D : Ends} {σ : L2.St} {H : Hp} (Pv : Nat → L2.St → Hp → Prop) (h0 : Pv 0 σ H) (hq : ∀ i σ H, Pv i σ H → SqT K H a xs)
    (hs : ∀ (i : Nat) (x : V) (T : Addr) (σ : L2.St) (H : Hp), xs[i]? = some x → Pv i σ H → H T = none → g (.ref T) σ (upd H T (.tup [.int (i : Nat), x])) fun σ2 H2 => tb { D with nx := Pv (i + 1), ct := Pv (i + 1), bk := D.nx } σ2 H2)
    (hd : ∀ σ H, Pv xs.length σ H → D.nx σ H) :
    ∃ W : Nat → Nat → L2.St → Hp → Prop, (∃ m, W 0 m σ H) ∧ ∀ i m σ H, W i m σ H →
      ((ItEn K a).stop i H ∧ D.nx σ H) ∨ ((ItEn K a).go i H ∧ ∃ N : L2.St → Hp → Prop, (∀ σ' H', N σ' H' → ∃ m', m' < m ∧ W (i + 1) m' σ' H') ∧ ∀ v H', (ItEn K a).yld i H v H' → g v σ H' fun σ2 H2 => tb { D with nx := N, ct := N, bk := D.nx } σ2 H2) := by
  refine ⟨fun i m σ H => m = xs.length - i ∧ i ≤ xs.length ∧ Pv i σ H, ⟨xs.length, rfl, Nat.zero_le _, h0⟩, ?_⟩
  rintro i m σ H ⟨rfl, hi, p⟩
  have qx := hq i σ H p
  by_cases hlt : i < xs.length
  · have hx : xs[i]? = some xs[i] := List.getElem?_eq_getElem hlt
    refine .inr ⟨⟨xs, _, qx, hx⟩, Pv (i + 1), fun σ' H' p' => ⟨xs.length - (i + 1), by omega, rfl, hlt, p'⟩, fun v H' y => ?_⟩
    obtain ⟨T, x', rfl, hT, rfl, f1⟩ := y
    exact hs i x' T σ H (f1 xs qx) p hT
  · obtain rfl : i = xs.length := by omega
    exact .inl ⟨⟨xs, qx, Nat.le_refl _⟩, hd σ H p⟩

/-! ### zip(tuple, list) -/
def ItZm (K : PySem.W.Frag) (a b : Addr) : It where
  go := fun i H => ∃ (xs ys : List V) (x y : V), SqT K H a xs ∧ SqL K H b ys ∧ xs[i]? = some x ∧ ys[i]? = some y
  yld := fun i H v H' => ∃ T x y, v = .ref T ∧ H T = none ∧ H' = upd H T (.tup [x, y]) ∧ (∀ xs, SqT K H a xs → xs[i]? = some x) ∧ ∀ ys, SqL K H b ys → ys[i]? = some y
  stop := fun i H => ∃ xs ys : List V, SqT K H a xs ∧ SqL K H b ys ∧ i = xs.length ∧ i = ys.length
theorem turn_zm {P : Program} {w : World} {K : PySem.W.Frag} {elts : List Expr} {kk : Nat} {tpos : Pos} {a b z TI TO i1 i2 : Addr} (S : ZipSep2 z TI TO i1 i2 [i1, a] [i2, b]) (ha : a ≠ i1) (hb : b ≠ i2) :
    Turn P w K (.Tuple elts kk tpos) (ItZm K a b) [z, TI, TO, i1, i2] z
      (fun i h => IsZip h z TI TO .none ∧ IsTupOf2 h TI (.ref i1) (.ref i2) ∧ (∃ x y, IsTupOf2 h TO x y) ∧ h.IsTupleIter i1 a i ∧ h.IsListIter i2 b i) := by
  have five : ∀ {c : Addr}, c ∈ [z, TI, TO, i1, i2] → c = z ∨ c = TI ∨ c = TO ∨ c = i1 ∨ c = i2 := fun h => by simpa using h
  refine ⟨by simp, ?_, ?_, ?_, ?_, ?_⟩
  · intro i h st c hc
    obtain ⟨hz, hTI, ⟨x, y, hTO⟩, ⟨o1, e1, _, d1⟩, ⟨o2, e2, _, d2⟩⟩ := st
    rcases five hc with q | q | q | q | q <;> subst q
    · exact ⟨_, hz, fun v q => nomatch q⟩
    · exact ⟨_, hTI, fun v q => nomatch q⟩
    · exact ⟨_, hTO, fun v q => nomatch q⟩
    · exact ⟨o1, e1, fun v q => by rw [d1] at q; cases q⟩
    · exact ⟨o2, e2, fun v q => by rw [d2] at q; cases q⟩
  · intro i h h' st k
    obtain ⟨hz, hTI, ⟨x, y, hTO⟩, h1, h2⟩ := st
    exact ⟨k z (by simp) _ hz, k TI (by simp) _ hTI, ⟨x, y, k TO (by simp) _ hTO⟩, h1.at fun o q => k i1 (by simp) o q, h2.at fun o q => k i2 (by simp) o q⟩
  · intro X hP hw hK hc i pins s σ H E I hf st hg
    subst hP hw hK
    obtain ⟨hz, hTI, ⟨x0, y0, hTO⟩, h1, h2⟩ := st
    obtain ⟨xs, ys, x, y, hqx, hqy, hx, hy⟩ := hg
    obtain ⟨its, rv, p, _⟩ := I.tuple hqx
    obtain ⟨its2, rv2, p2, _⟩ := I.list hqy
    obtain ⟨u, hu, ru⟩ := rv.get hx
    obtain ⟨u2, hu2, ru2⟩ := rv2.get hy
    have hzl : z < s.heap.objs.size := Heap.lt_size hz
    have hd0 : X.A.in1.handled = none := I.ok.hd hc
    have l1 : i < its.toArray.size := by have := (List.getElem?_eq_some_iff.mp hu).1; simpa using this
    have l2 : i < its2.toArray.size := by have := (List.getElem?_eq_some_iff.mp hu2).1; simpa using this
    refine wpAny_pyNext_zipD2_item S (Draws.tuple hd0 i1 a ha its.toArray) (Draws.list hd0 i2 b hb its2.toArray) hz hTI hTO ⟨h1, p⟩ ⟨h2, p2.isList⟩ l1 l2 fun x1 x2 h' tk y1 y2 z' TO' s1' s2' hT hsz hk => ?_
    have ey1 : x1 = u := by
      have e1 : its.toArray[i]? = some x1 := y1
      have e2 : its.toArray[i]? = some u := by simpa using hu
      rw [e1] at e2
      exact Option.some.inj e2
    have ey2 : x2 = u2 := by
      have e1 : its2.toArray[i]? = some x2 := y2
      have e2 : its2.toArray[i]? = some u2 := by simpa using hu2
      rw [e1] at e2
      exact Option.some.inj e2
    subst ey1 ey2
    refine ⟨_, rfl, wpAny_letOwnedTupleGo_zip (s := { s with heap := h', toks := tk }) z' fun h'' z'' sb => ?_⟩
    have hT2 := (sb.2 _ (Nat.ne_of_gt hzl)).trans hT
    have new : ObjOk X.prog X.w (upd H s.heap.objs.size (.tup [x, y])) h'' s.heap.objs.size (.tup [x, y]) :=
      ⟨by show 2 ≤ sizeLine; decide, [x1, x2], .cons ru (.cons ru2 .nil), ⟨_, hT2, rfl, _, rfl⟩⟩
    have I1 : Inv X pins σ (upd H s.heap.objs.size (.tup [x, y])) { s with heap := h'', toks := tk } :=
      I.turnedNew (ch := [z, TI, TO, i1, i2]) (fun c o hb' q => (sb.2 c fun q' => hb' (by simp [q'])).trans (hk c o (fun q' => hb' (by simp [q'])) (fun q' => hb' (by simp [q'])) (fun q' => hb' (by simp [q'])) (fun q' => hb' (by simp [q'])) q)) hf (Nat.le_refl _) new
    refine ⟨.ref s.heap.objs.size, _, I1, rfl, ⟨_, x, y, rfl, I.hok.fresh (Nat.le_refl _), rfl, fun l hl => by rw [I.tuple_inj hl hqx]; exact hx, fun l hl => by rw [I.list_inj hl hqy]; exact hy⟩, ⟨z'', ?_, ⟨x1, x2, ?_⟩, ?_, ?_⟩, fun c hcm => ?_⟩
    · exact (sb.2 _ S.TIz).trans (hk _ _ S.TIz S.TITO S.TIi1 S.TIi2 hTI)
    · exact (sb.2 _ S.TOz).trans TO'
    · exact s1'.1.at fun o q => (sb.2 _ S.zi1.symm).trans q
    · exact s2'.1.at fun o q => (sb.2 _ S.zi2.symm).trans q
    · have hlt : c < s.heap.objs.size := by
        rcases five hcm with q | q | q | q | q <;> subst q
        · exact hzl
        · exact Heap.lt_size hTI
        · exact Heap.lt_size hTO
        · obtain ⟨_, e1, _⟩ := h1; exact Heap.lt_size e1
        · obtain ⟨_, e1, _⟩ := h2; exact Heap.lt_size e1
      rw [upd_ne (Nat.ne_of_lt hlt)]
      exact (hf c hcm).1
  · intro X hP hw hK hc i pins s σ H E I hf st hg
    subst hP hw hK
    obtain ⟨hz, hTI, ⟨x0, y0, hTO⟩, h1, h2⟩ := st
    obtain ⟨xs, ys, hqx, hqy, e1, e2⟩ := hg
    obtain ⟨its, rv, p, _⟩ := I.tuple hqx
    obtain ⟨its2, rv2, p2, _⟩ := I.list hqy
    have l1 := rv.length
    have l2 := rv2.length
    have hd0 : X.A.in1.handled = none := I.ok.hd hc
    refine wpAny_pyNext_zipD2_end S (Draws.tuple hd0 i1 a ha its.toArray) (Draws.list hd0 i2 b hb its2.toArray) hz hTI hTO ⟨h1, p⟩ ⟨h2, p2.isList⟩ (by simp; omega) (by simp; omega) (.inl (by simp; omega)) fun h' tk hk => ⟨rfl, I.turnedL (t' := tk) (ch := [z, TI, TO, i1, i2]) (fun c o hb' q =>
      hk c o (fun q' => hb' (by simp [q'])) (fun q' => hb' (by simp [q'])) (fun q' => hb' (by simp [q'])) (fun q' => hb' (by simp [q'])) q) hf⟩
  · exact fun A i s Q E st h => wpAny_pyIter_zip st.1 h
theorem nmem2 {x p q : Nat} (h1 : x ≠ p) (h2 : x ≠ q) : x ∉ [p, q] := by simp [h1, h2]
theorem zsep (n a b : Nat) (ha : a < n) (hb : b < n) : ZipSep2 (n + 4) (n + 2) (n + 3) n (n + 1) [n, a] [n + 1, b] := by
  have h1 : ∀ k, 0 < k → n + k ≠ n := fun k hk => by omega
  have h2 : ∀ k j, k ≠ j → n + k ≠ n + j := fun k j hk => by omega
  have h3 : ∀ k, n + k ≠ a := fun k => by omega
  have h4 : ∀ k, n + k ≠ b := fun k => by omega
  exact ⟨h2 2 4 (by decide), h2 3 4 (by decide), h2 2 3 (by decide), h1 2 (by decide), by simp, nmem2 (h1 4 (by decide)) (h3 4), nmem2 (h1 3 (by decide)) (h3 3), h2 2 1 (by decide), by simp,
    nmem2 (h2 4 1 (by decide)) (h4 4), nmem2 (h2 3 1 (by decide)) (h4 3), nmem2 (h1 1 (by decide)).symm (h4 0), nmem2 (h1 1 (by decide)) (h3 1)⟩
def iZm (K : PySem.W.Frag) (ta : TA) : TI := fun σ H R => ta σ H fun vs H1 => ∃ a b xs ys, vs = [.ref a, .ref b] ∧ SqT K H1 a xs ∧ SqL K H1 b ys ∧ R (ItZm K a b) H1
/-- for x, y in zip(t, l), t a tuple, l a list -/
theorem pi_zm {X : Cx} {e e2 : Expr} {ta : TA} {p pos tpos : Pos} {elts : List Expr} {kk : Nat} (hg : Gl X "zip") (hm : X.mg "zip" = none) (ha : PA X [e, e2] ta)
    (hs : starEach [e, e2] X.env = (false, eval e X.env) :: starEach [e2] X.env := by rfl) (hpl : (backTo pos (starEach [e2] X.env)).any (·.1) = false := by rfl) :
    PI X (.Tuple elts kk tpos) (.Call (.Name "zip" p) [e, e2] [] pos) (iZm X.K ta) := by
  refine ⟨fun pins s σ H R I h => Call_ (ld_blt I hg hm PyProof.Rows.boot_zip (PyProof.Rows.callWith_type1 (thn (ha.run pos pins s σ H _ I h) fun us s1 ⟨vs, H1, I1, r1, q1⟩ => ?_) hs hpl))⟩
  obtain ⟨a, b, xs, ys, rfl, hqx, hqy, q⟩ := q1
  obtain ⟨u, u2, rfl, ru, ru2⟩ := Vals.two r1
  cases (show u = Value.ref a from ru)
  cases (show u2 = Value.ref b from ru2)
  obtain ⟨its, rv, p1, _⟩ := I1.tuple hqx
  obtain ⟨its2, rv2, p2, _⟩ := I1.list hqy
  have hal : a < s1.heap.objs.size := by obtain ⟨_, ho, _⟩ := id p1; exact Heap.lt_size ho
  have hbl : b < s1.heap.objs.size := p2.lt
  refine zip_begins2 (begins_tuple a its.toArray) (begins_list b its2.toArray) p1 p2.isList fun h' hz hTI hTO g1 g2 hsz hk => wpAny_pyIter_zip hz ?_
  have I2 : Inv X pins σ H1 { s1 with heap := h' } := I1.kept (t' := s1.toks) hk
  have S := zsep s1.heap.objs.size a b hal hbl
  have hab : a ≠ s1.heap.objs.size := Nat.ne_of_lt hal
  have hbb : b ≠ s1.heap.objs.size + 1 := Nat.ne_of_lt (Nat.lt_succ_of_lt hbl)
  refine ⟨s1.heap.objs.size + 4, [s1.heap.objs.size + 4, s1.heap.objs.size + 2, s1.heap.objs.size + 3, s1.heap.objs.size, s1.heap.objs.size + 1], _, _, H1, rfl, I2, turn_zm S hab hbb, ⟨hz, hTI, ⟨_, _, hTO⟩, ⟨_, g1, rfl, rfl⟩, ⟨_, g2, rfl, rfl⟩⟩, fun c hcm => ?_, q⟩
  have hle : s1.heap.objs.size ≤ c := by
    have e' : c = s1.heap.objs.size + 4 ∨ c = s1.heap.objs.size + 2 ∨ c = s1.heap.objs.size + 3 ∨ c = s1.heap.objs.size ∨ c = s1.heap.objs.size + 1 := by simpa using hcm
    rcases e' with e | e | e | e | e <;> (rw [e]; simp)
  exact I1.fpOk hle (I1.hok.fresh hle)
theorem for_zm {K : PySem.W.Frag} {a b : Addr} {xs ys : List V} {g : TG} {tb : TS} {D : Ends} {σ : L2.St} {H : Hp} (hl : xs.length = ys.length) (Pv : Nat → L2.St → Hp → Prop) (h0 : Pv 0 σ H) (hq : ∀ i σ H, Pv i σ H → SqT K H a xs ∧ SqL K H b ys)
    (hs : ∀ (i : Nat) (x y : V) (T : Addr) (σ : L2.St) (H : Hp), xs[i]? = some x → ys[i]? = some y → Pv i σ H → H T = none → g (.ref T) σ (upd H T (.tup [x, y])) fun σ2 H2 => tb { D with nx := Pv (i + 1), ct := Pv (i + 1), bk := D.nx } σ2 H2)
    (hd : ∀ σ H, Pv xs.length σ H → D.nx σ H) :
    ∃ W : Nat → Nat → L2.St → Hp → Prop, (∃ m, W 0 m σ H) ∧ ∀ i m σ H, W i m σ H →
      ((ItZm K a b).stop i H ∧ D.nx σ H) ∨ ((ItZm K a b).go i H ∧ ∃ N : L2.St → Hp → Prop, (∀ σ' H', N σ' H' → ∃ m', m' < m ∧ W (i + 1) m' σ' H') ∧ ∀ v H', (ItZm K a b).yld i H v H' → g v σ H' fun σ2 H2 => tb { D with nx := N, ct := N, bk := D.nx } σ2 H2) := by
  refine ⟨fun i m σ H => m = xs.length - i ∧ i ≤ xs.length ∧ Pv i σ H, ⟨xs.length, rfl, Nat.zero_le _, h0⟩, ?_⟩
  rintro i m σ H ⟨rfl, hi, p⟩
  obtain ⟨qx, qy⟩ := hq i σ H p
  by_cases hlt : i < xs.length
  · have hlt2 : i < ys.length := by omega
    have hx := List.getElem?_eq_getElem hlt
    have hy := List.getElem?_eq_getElem hlt2
    refine .inr ⟨⟨xs, ys, _, _, qx, qy, hx, hy⟩, Pv (i + 1), fun σ' H' p' => ⟨xs.length - (i + 1), by omega, rfl, hlt, p'⟩, fun v H' y => ?_⟩
    obtain ⟨T, x', y', rfl, hT, rfl, f1, f2⟩ := y
    exact hs i x' y' T σ H (f1 xs qx) (f2 ys qy) p hT
  · obtain rfl : i = xs.length := by omega
    exact .inl ⟨⟨xs, ys, qx, qy, rfl, hl⟩, hd σ H p⟩
end Tw
/-! The mirror of the package's timers in plain Lean, and its mathematics. -/
namespace TwM

structure Lv where
  g : Int
  s : Int
  p : Int
  deriving DecidableEq, Inhabited
structure Bk where
  up : Bool
  fire : Bool
  high : Bool
  put : Bool
  zone : Bool
  bey : Nat
  deriving DecidableEq, Inhabited
structure Spot where
  lv : Nat
  pt : Int
  due : Int
  deriving DecidableEq, Inhabited

def lv (W : List Lv) (i : Nat) : Lv := W.getD i default
def reach (W : List Lv) : Int := (lv W (W.length - 1)).p
def rnd (up : Bool) (t g : Int) : Int := if up then -((-t) / g) else t / g
def levelOf : List Lv → Int → Option Nat
  | [], _ => none
  | l :: ls, d => if d < l.p then some 0 else (levelOf ls d).map (· + 1)
def levelIx (W : List Lv) (d : Int) : Nat := (levelOf W d).getD (W.length - 1)
def spotAt (W : List Lv) (B : Bk) (now rest due : Int) : Spot := match levelOf W rest with
  | some i => ⟨i, rnd B.up (now + rest) (lv W i).g, due⟩
  | none => ⟨W.length - 1, rnd B.up (now + reach W - 1) (lv W (W.length - 1)).g, due⟩
def va (l : Lv) (pt now : Int) : Int := (now / l.g + 1 + (pt - now / l.g - 1) % l.s) * l.g
def isVis (l : Lv) (pt before now : Int) : Bool := decide ((pt - before / l.g - 1) % l.s < now / l.g - before / l.g)
def taken (W : List Lv) (B : Bk) (sp : Spot) (tick : Int) : Option Spot :=
  if sp.lv = 0 ∨ B.fire = true then none
  else if tick < sp.due then some (spotAt W B tick (sp.due - tick) sp.due)
  else if B.put = true then some ⟨0, tick, sp.due⟩ else none
def order (W : List Lv) (B : Bk) : List Nat := if B.high = true then (List.range W.length).reverse else List.range W.length
def visGo (W : List Lv) (B : Bk) (before now : Int) : List Nat → Spot → List (Option Spot)
  | [], _ => []
  | i :: is, sp => if sp.lv = i ∧ isVis (lv W i) sp.pt before now = true then
      (match taken W B sp now with
        | none => [none]
        | some s' => some s' :: visGo W B before now is s')
      else visGo W B before now is sp
def visited (W : List Lv) (B : Bk) (sp : Spot) (before now : Int) : List (Option Spot) := visGo W B before now (order W B) sp
def skipped (W : List Lv) (sp : Spot) (tick : Int) (limit : Option Int) : Int × Int :=
  if sp.lv ≠ W.length - 1 ∨ sp.due - tick < reach W then (0, 0)
  else
    let step := va (lv W sp.lv) sp.pt tick - tick
    let many := (sp.due - tick - reach W) / step
    match limit with
    | none => (many, step)
    | some lim => (min many ((lim - tick) / step), step)
def over (limit : Option Int) (t : Int) : Bool := match limit with
  | none => false
  | some l => decide (l < t)
abbrev Res := Option Spot × Int × Int
def fol (W : List Lv) (B : Bk) (limit : Option Int) : Nat → Spot → Int → Int → Option Res
  | 0, _, _, _ => none
  | n + 1, sp, tick, mv =>
    let t := va (lv W sp.lv) sp.pt tick
    if over limit t = true then some (some sp, tick, mv)
    else
      let found := visited W B sp (t - 1) t
      match found.getLast? with
      | none => none
      | some none => some (none, t, mv + found.length - 1)
      | some (some sp') =>
        let k := skipped W sp' t limit
        if 0 < k.1 then fol W B limit n (spotAt W B (t + k.1 * k.2) (sp'.due - (t + k.1 * k.2)) sp'.due) (t + k.1 * k.2) (mv + found.length + k.1)
        else fol W B limit n sp' t (mv + found.length)

structure WOk (W : List Lv) : Prop where
  pos : 0 < W.length
  len : W.length ≤ 5
  all : ∀ i, i < W.length → 1 ≤ (lv W i).g ∧ (lv W i).g ≤ 1000 ∧ 2 ≤ (lv W i).s ∧ (lv W i).s ≤ 100 ∧ 2 ≤ (lv W i).p
  first : (lv W 0).g = 1
  dv : ∀ i, i + 1 < W.length → (lv W i).g ∣ (lv W (i + 1)).g
  asc : ∀ i, i + 1 < W.length → (lv W i).p < (lv W (i + 1)).p

theorem levelOf_lt : ∀ {W : List Lv} {d : Int} {i : Nat}, levelOf W d = some i → i < W.length ∧ d < (lv W i).p
  | [], _, _, h => by simp [levelOf] at h
  | l :: ls, d, i, h => by
    unfold levelOf at h
    split at h
    · cases h
      rename_i hd
      exact ⟨by simp, by simpa [lv] using hd⟩
    · cases q : levelOf ls d with
      | none => rw [q] at h; cases h
      | some j =>
        rw [q] at h
        have e : j + 1 = i := Option.some.inj h
        subst e
        obtain ⟨h1, h2⟩ := levelOf_lt q
        refine ⟨by simpa using h1, ?_⟩
        have : lv (l :: ls) (j + 1) = lv ls j := by simp [lv]
        rw [this]; exact h2
theorem levelOf_none : ∀ {W : List Lv} {d : Int}, levelOf W d = none → ∀ i, i < W.length → (lv W i).p ≤ d
  | [], _, _, i, h => by simp at h
  | l :: ls, d, h, i, hi => by
    unfold levelOf at h
    split at h
    · cases h
    · rename_i hd
      cases q : levelOf ls d with
      | some j => rw [q] at h; cases h
      | none =>
        cases i with
        | zero => simp [lv]; omega
        | succ i =>
          have := levelOf_none q i (by simpa using hi)
          have e : lv (l :: ls) (i + 1) = lv ls i := by simp [lv]
          rw [e]; exact this
theorem levelOf_ge : ∀ {W : List Lv} {d : Int} {i : Nat}, levelOf W d = some i → ∀ j, j < i → (lv W j).p ≤ d
  | [], _, _, h => by simp [levelOf] at h
  | l :: ls, d, i, h => by
    intro j hj
    unfold levelOf at h
    split at h
    · cases h; omega
    · rename_i hd
      cases q : levelOf ls d with
      | none => rw [q] at h; cases h
      | some k =>
        rw [q] at h
        have e : k + 1 = i := Option.some.inj h
        subst e
        cases j with
        | zero => simp [lv]; omega
        | succ j =>
          have := levelOf_ge q j (by omega)
          have e : lv (l :: ls) (j + 1) = lv ls j := by simp [lv]
          rw [e]; exact this
theorem levelOf_is : ∀ {W : List Lv} {d : Int} {i : Nat}, i < W.length → (∀ j, j < i → (lv W j).p ≤ d) → d < (lv W i).p → levelOf W d = some i
  | [], _, _, h, _, _ => by simp at h
  | l :: ls, d, 0, _, _, h => by
    unfold levelOf
    rw [if_pos (by simpa [lv] using h)]
  | l :: ls, d, i + 1, hi, hp, h => by
    have e : ∀ j, lv (l :: ls) (j + 1) = lv ls j := fun j => by simp [lv]
    have h0 := hp 0 (by omega)
    unfold levelOf
    rw [if_neg (by simp [lv] at h0; omega), levelOf_is (by simpa using hi) (fun j hj => by have := hp (j + 1) (by omega); rwa [e] at this) (by rwa [e] at h)]
    rfl
theorem levelOf_isN : ∀ {W : List Lv} {d : Int}, (∀ j, j < W.length → (lv W j).p ≤ d) → levelOf W d = none
  | [], _, _ => rfl
  | l :: ls, d, hp => by
    have e : ∀ j, lv (l :: ls) (j + 1) = lv ls j := fun j => by simp [lv]
    have h0 := hp 0 (by simp)
    unfold levelOf
    rw [if_neg (by simp [lv] at h0; omega), levelOf_isN (fun j hj => by have := hp (j + 1) (by simpa using hj); rwa [e] at this)]
    rfl
theorem spotAt_lt {W : List Lv} (ok : WOk W) (B : Bk) (now rest due : Int) : (spotAt W B now rest due).lv < W.length := by
  unfold spotAt
  split
  · rename_i i h; exact (levelOf_lt h).1
  · have := ok.pos; show W.length - 1 < W.length; omega
theorem spotAt_due (W : List Lv) (B : Bk) (now rest due : Int) : (spotAt W B now rest due).due = due := by
  unfold spotAt
  split <;> rfl

theorem va_gt {l : Lv} (hg : 0 < l.g) (hs : 0 < l.s) (pt now : Int) : now < va l pt now := by
  unfold va
  have h1 : 0 ≤ (pt - now / l.g - 1) % l.s := Int.emod_nonneg _ (by omega)
  have h2 : (now / l.g + 1) * l.g ≤ (now / l.g + 1 + (pt - now / l.g - 1) % l.s) * l.g := Int.mul_le_mul_of_nonneg_right (by omega) (by omega)
  have h3 : now < (now / l.g + 1) * l.g := Int.lt_ediv_add_one_mul_self now hg
  omega
theorem va_vis {l : Lv} (hg : 0 < l.g) (hs : 0 < l.s) (pt now : Int) : isVis l pt (va l pt now - 1) (va l pt now) = true := by
  unfold isVis va
  generalize hq : now / l.g + 1 + (pt - now / l.g - 1) % l.s = q
  have e1 : q * l.g / l.g = q := Int.mul_ediv_cancel _ (by omega)
  have e2 : (q * l.g - 1) / l.g = q - 1 := by
    have h1 : q * l.g - 1 = (l.g - 1) + (q - 1) * l.g := by rw [Int.sub_mul]; omega
    rw [h1, Int.add_mul_ediv_right _ _ (by omega), Int.ediv_eq_zero_of_lt (by omega) (by omega)]
    omega
  rw [e1, e2]
  have e3 : pt - (q - 1) - 1 = pt - q := by omega
  rw [e3]
  have e4 : (pt - q) % l.s = 0 := by
    rw [← hq]
    have : pt - (now / l.g + 1 + (pt - now / l.g - 1) % l.s) = (pt - now / l.g - 1) - (pt - now / l.g - 1) % l.s := by omega
    rw [this, Int.sub_emod, Int.emod_emod_of_dvd _ (Int.dvd_refl _)]
    simp
  rw [e4]
  simp
  omega

/-- every result of a visit: its due tick stays, its level is one of the wheel's; not due: it was placed; due: put to the first level -/
theorem taken_some {W : List Lv} (ok : WOk W) {B : Bk} {sp sp' : Spot} {tick : Int} (h : taken W B sp tick = some sp') :
    sp'.lv < W.length ∧ sp'.due = sp.due ∧ sp.lv ≠ 0 ∧ B.fire = false ∧ (tick < sp.due ∧ sp' = spotAt W B tick (sp.due - tick) sp.due ∨ sp.due ≤ tick ∧ B.put = true ∧ sp' = ⟨0, tick, sp.due⟩) := by
  unfold taken at h
  split at h
  · cases h
  · rename_i hn
    have h1 : sp.lv ≠ 0 := fun e => hn (.inl e)
    have h2 : B.fire = false := by
      cases e : B.fire
      · rfl
      · exact absurd (.inr e) hn
    split at h
    · rename_i hd
      cases h
      exact ⟨spotAt_lt ok _ _ _ _, spotAt_due _ _ _ _ _, h1, h2, .inl ⟨hd, rfl⟩⟩
    · rename_i hd
      split at h
      · rename_i hp
        cases h
        exact ⟨ok.pos, rfl, h1, h2, .inr ⟨by omega, hp, rfl⟩⟩
      · cases h
theorem visGo_last {W : List Lv} (ok : WOk W) {B : Bk} {before now : Int} : ∀ (is : List Nat) {sp sp' : Spot}, (visGo W B before now is sp).getLast? = some (some sp') →
    sp'.lv < W.length ∧ sp'.due = sp.due ∧ B.fire = false ∧ (now < sp.due ∧ sp' = spotAt W B now (sp.due - now) sp.due ∨ sp.due ≤ now ∧ sp' = ⟨0, now, sp.due⟩)
  | [], sp, sp', h => by simp [visGo] at h
  | i :: is, sp, sp', h => by
    unfold visGo at h
    split at h
    · cases q : taken W B sp now with
      | none => rw [q] at h; simp at h
      | some s1 =>
        rw [q] at h
        dsimp only at h
        obtain ⟨a1, a2, a3, a4, a5⟩ := taken_some ok q
        cases hr : visGo W B before now is s1 with
        | nil =>
          rw [hr] at h
          have e : s1 = sp' := by simpa using h
          subst e
          refine ⟨a1, a2, a4, ?_⟩
          rcases a5 with ⟨b1, b2⟩ | ⟨b1, _, b2⟩
          · exact .inl ⟨b1, b2⟩
          · exact .inr ⟨b1, b2⟩
        | cons x xs =>
          rw [hr] at h
          have h' : (visGo W B before now is s1).getLast? = some (some sp') := by
            rw [hr]
            rw [List.getLast?_cons] at h
            cases hx : (x :: xs).getLast? with
            | none => simp at hx
            | some z => rw [hx] at h; simpa using h
          obtain ⟨c1, c2, c3, c4⟩ := visGo_last ok is h'
          refine ⟨c1, c2.trans a2, c3, ?_⟩
          rw [a2] at c4
          exact c4
    · exact visGo_last ok is h
theorem visGo_ne {W : List Lv} {B : Bk} {before now : Int} : ∀ (is : List Nat) {sp : Spot}, sp.lv ∈ is → isVis (lv W sp.lv) sp.pt before now = true → visGo W B before now is sp ≠ []
  | [], sp, h, _ => by simp at h
  | i :: is, sp, h, hv => by
    unfold visGo
    by_cases e : sp.lv = i
    · rw [if_pos ⟨e, by rw [← e]; exact hv⟩]
      cases taken W B sp now <;> simp
    · rw [if_neg (fun z => e z.1)]
      exact visGo_ne is (by rcases List.mem_cons.mp h with q | q; exact absurd q e; exact q) hv
theorem mem_order {W : List Lv} {B : Bk} {i : Nat} : i ∈ order W B ↔ i < W.length := by
  unfold order
  split <;> simp
theorem visited_ne {W : List Lv} (ok : WOk W) {B : Bk} {sp : Spot} (hl : sp.lv < W.length) (tick : Int) :
    visited W B sp (va (lv W sp.lv) sp.pt tick - 1) (va (lv W sp.lv) sp.pt tick) ≠ [] :=
  visGo_ne _ (mem_order.mpr hl) (va_vis (by have := ok.all _ hl; omega) (by have := ok.all _ hl; omega) _ _)

/-- how many turns are enough -/
def mu (sp : Spot) (tick : Int) : Nat := if sp.lv = 0 then 1 else 2 + (sp.due - tick).toNat
theorem visGo_zero {W : List Lv} {B : Bk} {before now : Int} : ∀ (is : List Nat) {sp : Spot}, sp.lv = 0 → ∀ x ∈ visGo W B before now is sp, x = none
  | [], sp, _, x, h => by simp [visGo] at h
  | i :: is, sp, h0, x, h => by
    unfold visGo at h
    split at h
    · have e : taken W B sp now = none := by unfold taken; rw [if_pos (.inl h0)]
      rw [e] at h
      simpa using h
    · exact visGo_zero is h0 x h
theorem skipped_pos {W : List Lv} {sp : Spot} {tick : Int} {limit : Option Int} (h : 0 < (skipped W sp tick limit).1) :
    sp.lv = W.length - 1 ∧ reach W ≤ sp.due - tick ∧ (skipped W sp tick limit).2 = va (lv W sp.lv) sp.pt tick - tick ∧ (skipped W sp tick limit).1 ≤ (sp.due - tick - reach W) / (va (lv W sp.lv) sp.pt tick - tick) := by
  unfold skipped at h ⊢
  split at h
  · simp at h
  · rename_i hn
    have h1 : sp.lv = W.length - 1 := Classical.byContradiction fun e => hn (.inl e)
    have h2 : reach W ≤ sp.due - tick := by
      rcases Int.lt_or_le (sp.due - tick) (reach W) with e | e
      · exact absurd (.inr e) hn
      · exact e
    rw [if_neg hn]
    refine ⟨h1, h2, ?_⟩
    cases limit with
    | none => exact ⟨rfl, Int.le_refl _⟩
    | some l => exact ⟨rfl, Int.min_le_left _ _⟩
theorem fol_ends {W : List Lv} (ok : WOk W) (B : Bk) (limit : Option Int) : ∀ (n : Nat) (sp : Spot) (tick mv : Int), sp.lv < W.length → mu sp tick ≤ n → ∃ r, fol W B limit n sp tick mv = some r
  | 0, sp, tick, mv, _, h => by unfold mu at h; split at h <;> omega
  | n + 1, sp, tick, mv, hl, h => by
    have hall := ok.all _ hl
    have hgt := va_gt (l := lv W sp.lv) (by omega) (by omega) sp.pt tick
    unfold fol
    dsimp only
    split
    · exact ⟨_, rfl⟩
    · have hne := visited_ne ok (B := B) hl tick
      cases hq : (visited W B sp (va (lv W sp.lv) sp.pt tick - 1) (va (lv W sp.lv) sp.pt tick)).getLast? with
      | none => exact absurd (List.getLast?_eq_none_iff.mp hq) hne
      | some o =>
        cases o with
        | none => exact ⟨_, rfl⟩
        | some sp' =>
          have h0 : sp.lv ≠ 0 := fun e => by
            have := visGo_zero (W := W) (B := B) (before := va (lv W sp.lv) sp.pt tick - 1) (now := va (lv W sp.lv) sp.pt tick) (order W B) e (some sp') (List.mem_of_getLast? hq)
            cases this
          obtain ⟨c1, c2, c3, c4⟩ := visGo_last ok _ hq
          have hm : 2 + (sp.due - tick).toNat ≤ n + 1 := by unfold mu at h; rw [if_neg h0] at h; exact h
          have hmu : mu sp' (va (lv W sp.lv) sp.pt tick) ≤ n := by
            unfold mu
            split
            · omega
            · rename_i hz
              rcases c4 with ⟨d1, d2⟩ | ⟨d1, d2⟩
              · rw [c2]; omega
              · exact absurd (by rw [d2]) hz
          dsimp only
          split
          · rename_i hk
            obtain ⟨k1, k2, k3, k4⟩ := skipped_pos hk
            refine fol_ends ok B limit n _ _ _ (spotAt_lt ok _ _ _ _) ?_
            have hs : 0 < va (lv W sp'.lv) sp'.pt (va (lv W sp.lv) sp.pt tick) - va (lv W sp.lv) sp.pt tick := by
              have hall' := ok.all _ c1
              have := va_gt (l := lv W sp'.lv) (by omega) (by omega) sp'.pt (va (lv W sp.lv) sp.pt tick)
              omega
            have hadd : 0 < (skipped W sp' (va (lv W sp.lv) sp.pt tick) limit).1 * (skipped W sp' (va (lv W sp.lv) sp.pt tick) limit).2 := Int.mul_pos hk (by rw [k3]; exact hs)
            have hr := ok.all (W.length - 1) (by have := ok.pos; omega)
            unfold mu
            split
            · omega
            · rw [spotAt_due, c2]
              rw [c2] at k2
              unfold reach at k2
              omega
          · exact fol_ends ok B limit n sp' _ _ c1 hmu
end TwM
/-! Tw: what stands in the heap; the readings' short words -/
namespace Tw
open PySem PySem.Spec PyProof.Rows L2 He TwM
open PySem.W (Frag)

/-! ### operators by short names -/
abbrev oAdd : R2 := rI0 fun i j => .int (i + j)
abbrev oSub : R2 := rI0 fun i j => .int (i - j)
abbrev oMul : R2 := rI CMul fun i j => .int (i * j)
abbrev oDiv : R2 := rI CDiv fun i j => .int (i / j)
abbrev oMod : R2 := rI (fun _ j => 0 < j) fun i j => .int (i % j)
abbrev oPow : R2 := rI CPow fun i j => .int (i ^ j.toNat)
abbrev oDivW : R2 := rI CDivW fun i j => .int (i / j)
abbrev oMulW : R2 := rI CMulW fun i j => .int (i * j)
abbrev oNeg : V → Hp → VK → Prop := rU fun i => .int (-i)
abbrev oLt : R2 := rI0 fun i j => .bl (decide (i < j))
abbrev oLe : R2 := rI0 fun i j => .bl (decide (i ≤ j))
abbrev oGt : R2 := rI0 fun i j => .bl (decide (j < i))
abbrev oGe : R2 := rI0 fun i j => .bl (decide (j ≤ i))
abbrev oAddS : R2 := fun x y H Q => ∃ i j, x = .str i ∧ y = .str j ∧ i.length + j.length ≤ sizeLine ∧ Q (.str (i ++ j)) H
abbrev oIsN : R2 := fun x y H Q => y = .non ∧ Q (.bl (decide (x = .non))) H
abbrev oNotN : R2 := fun x y H Q => y = .non ∧ Q (.bl (!decide (x = .non))) H
abbrev oTru (K : Frag) (ta : TE) : TT := fun σ H Q => ta σ H fun x H' => ∃ k, TruV K x H' k ∧ Q k H'
abbrev oAbs : List V → Hp → VK → Prop := fun xs H Q => ∃ i, xs = [.int i] ∧ Q (.int (if i < 0 then -i else i)) H
abbrev oMax2 : List V → Hp → VK → Prop := fun xs H Q => ∃ i j, xs = [.int i, .int j] ∧ Q (.int (if j > i then j else i)) H
abbrev oMin2 : List V → Hp → VK → Prop := fun xs H Q => ∃ i j, xs = [.int i, .int j] ∧ Q (.int (if j < i then j else i)) H
abbrev oInt1 : List V → Hp → VK → Prop := fun xs H Q => (∃ i, xs = [.int i] ∧ Q (.int i) H) ∨ ∃ k, xs = [.bl k] ∧ Q (.int (if k then 1 else 0)) H
abbrev oBool1 : List V → Hp → VK → Prop := fun xs H Q => (∃ i, xs = [.int i] ∧ Q (.bl (i != 0)) H) ∨ ∃ k, xs = [.bl k] ∧ Q (.bl k) H
abbrev oStrI : List V → Hp → VK → Prop := fun xs H Q => ∃ i, xs = [.int i] ∧ i.natAbs.log2 < 1920 ∧ Q (.str (toString i)) H
abbrev oLen (K : Frag) : List V → Hp → VK → Prop := fun xs H Q => ∃ p ys, xs = [.ref p] ∧ (SqL K H p ys ∨ SqT K H p ys) ∧ Q (.int ys.length) H
abbrev oLenS : List V → Hp → VK → Prop := fun xs H Q => ∃ z, xs = [.str z] ∧ z.length ≤ sizeLine ∧ Q (.int z.length) H
abbrev oTupT (K : Frag) : List V → Hp → VK → Prop := fun xs H Q => ∃ a ys, xs = [.ref a] ∧ SqT K H a ys ∧ Q (.ref a) H
abbrev oTupOf (K : Frag) : List V → Hp → VK → Prop := fun xs H Q => ∃ p ys, xs = [.ref p] ∧ ((SqL K H p ys ∧ ∀ l, H l = none → Q (.ref l) (upd H l (.tup ys))) ∨ (SqT K H p ys ∧ Q (.ref p) H))
abbrev oLstOf (K : Frag) : List V → Hp → VK → Prop := fun xs H Q => ∃ p ys, xs = [.ref p] ∧ (SqL K H p ys ∨ SqT K H p ys) ∧ ∀ l, H l = none → Q (.ref l) (upd H l (.lst ys))
abbrev oSplit : V → List V → Hp → VK → Prop := fun x xs H Q => ∃ a b, x = .str a ∧ xs = [.str b] ∧ (b.length == 0) = false ∧ a.length + 2 ≤ sizeLine ∧ rNewStrs (Txt.split a b) H Q
abbrev oJoin (K : Frag) : V → List V → Hp → VK → Prop := fun x xs H Q => ∃ a p, ∃ ys : List Str, x = .str a ∧ xs = [.ref p] ∧ (SqL K H p (ys.map V.str) ∨ SqT K H p (ys.map V.str)) ∧
  (ys.map (·.length)).sum + ys.length * a.length ≤ 16777216 ∧ Q (.str (Txt.join a ys)) H

theorem sc_ii (i j : Int) : scal (.int i) (.int j) = true := rfl
theorem sc_ss (i j : Str) : scal (.str i) (.str j) = true := rfl
theorem sc_bb (i j : Bool) : scal (.bl i) (.bl j) = true := rfl
theorem sc_ni (j : Int) : scal .non (.int j) = true := rfl
theorem sc_in (j : Int) : scal (.int j) .non = true := rfl
theorem sc_nn : scal .non .non = true := rfl
theorem sc_is (i : Int) (j : Str) : scal (.int i) (.str j) = true := rfl
theorem isi_base {K : Frag} {H : Hp} {Q : VK} {x : V} {t n : String} {b : Bool} (ty : TyX K H x (.type t)) (h : kitB t n = some b) (q : Q (.bl b) H) : rIsi K [x, .ty n] H Q := ⟨x, .ty n, _, _, b, rfl, .ty n, ty, kit_ty h, q⟩
abbrev six : List Str := ["rounding", "action", "order", "due", "zero", "beyond"]
/-- what the readings lean on of the written part -/
structure Klv (K : Frag) (w : World) : Prop where
  cL : Cls K (ga K "Level")
  nLg : NoAttr K (ga K "Level") "kept_grain"
  nLs : NoAttr K (ga K "Level") "kept_slots"
  nLp : NoAttr K (ga K "Level") "kept_span"
  iL : IsiC K (ga K "Level")
  kL : PySem.W.kitOne K (.ref (ga K "Level")) (.ref (ga K "Level")) = some true
structure Kl (K : Frag) (w : World) : Prop extends Klv K w where
  cW : Cls K (ga K "Wheel")
  nWl : NoAttr K (ga K "Wheel") "kept_levels"
structure Kf (K : Frag) (w : World) : Prop extends Kl K w where
  cB : Cls K (ga K "Book")
  nBv : NoAttr K (ga K "Book") "kept_values"
  sw : ∀ H, SqT K H (ga K "SWITCHES") (six.map V.str)
  vd : ∀ x, x ∈ six → KDct K w (ga K "VALUES") x (.ref (dva K (ga K "VALUES") x))
  v0 : ∀ H, SqT K H (dva K (ga K "VALUES") "rounding") [.str "down", .str "up"]
  v1 : ∀ H, SqT K H (dva K (ga K "VALUES") "action") [.str "fire", .str "move"]
  v2 : ∀ H, SqT K H (dva K (ga K "VALUES") "order") [.str "high", .str "low"]
  v3 : ∀ H, SqT K H (dva K (ga K "VALUES") "due") [.str "now", .str "put"]
  v4 : ∀ H, SqT K H (dva K (ga K "VALUES") "zero") [.str "now", .str "one"]
  v5 : ∀ H, SqT K H (dva K (ga K "VALUES") "beyond") [.str "refuse", .str "last", .str "cut"]
/-! ### what stands in the heap -/
structure LOk (l : Lv) : Prop where
  g1 : 1 ≤ l.g
  g2 : l.g ≤ 1000
  s1 : 2 ≤ l.s
  s2 : l.s ≤ 100
def lfs (l : Lv) : List (Str × V) := [("kept_grain", .int l.g), ("kept_slots", .int l.s), ("kept_span", .int l.p)]
structure LvAt (K : Frag) (H : Hp) (a : Addr) (l : Lv) : Prop where
  ok : LOk l
  at_ : ∃ dx, H a = some (.ins (ga K "Level") dx (lfs l))
structure WhAt (K : Frag) (H : Hp) (a : Addr) (W : List Lv) : Prop where
  ok : WOk W
  at_ : ∃ (dx t : Addr) (as : List Addr), H a = some (.ins (ga K "Wheel") dx [("kept_levels", .ref t)]) ∧ H t = some (.tup (as.map V.ref)) ∧ as.length = W.length ∧ ∀ i c, as[i]? = some c → LvAt K H c (lv W i)
def sUp (b : Bool) : Str := if b then "up" else "down"
def sFire (b : Bool) : Str := if b then "fire" else "move"
def sHigh (b : Bool) : Str := if b then "high" else "low"
def sPut (b : Bool) : Str := if b then "put" else "now"
def sZone (b : Bool) : Str := if b then "one" else "now"
def sBey (n : Nat) : Str := match n with | 0 => "refuse" | 1 => "last" | _ => "cut"
def bws (B : Bk) : List Str := [sUp B.up, sFire B.fire, sHigh B.high, sPut B.put, sZone B.zone, sBey B.bey]
structure BkAt (K : Frag) (H : Hp) (a : Addr) (B : Bk) : Prop where
  ok : B.bey < 3
  at_ : ∃ dx t, H a = some (.ins (ga K "Book") dx [("kept_values", .ref t)]) ∧ H t = some (.tup ((bws B).map V.str))
def SpAt (H : Hp) (p : Addr) (sp : Spot) : Prop := H p = some (.tup [.int sp.lv, .int sp.pt, .int sp.due])
def OSp (H : Hp) (v : V) (o : Option Spot) : Prop := match o with
  | none => v = .non
  | some sp => ∃ p, v = .ref p ∧ SpAt H p sp
def OSps (H : Hp) (xs : List V) (os : List (Option Spot)) : Prop := xs.length = os.length ∧ ∀ (i : Nat) (v : V) (o : Option Spot), xs[i]? = some v → os[i]? = some o → OSp H v o
def optI (o : Option Nat) : V := match o with
  | none => .non
  | some i => .int i
def optV (o : Option Int) : V := match o with
  | none => .non
  | some i => .int i
section
variable {K : Frag} {H H' : Hp} {a p : Addr}
theorem LvAt.same {l : Lv} (h : LvAt K H a l) (e : Same H H') : LvAt K H' a l := ⟨h.ok, h.at_.elim fun dx q => ⟨dx, e _ _ q⟩⟩
theorem WhAt.same {W : List Lv} (h : WhAt K H a W) (e : Same H H') : WhAt K H' a W := by
  obtain ⟨ok, dx, t, as, h1, h2, h3, h4⟩ := h
  exact ⟨ok, dx, t, as, e _ _ h1, e _ _ h2, h3, fun i c q => (h4 i c q).same e⟩
theorem BkAt.same {B : Bk} (h : BkAt K H a B) (e : Same H H') : BkAt K H' a B := by
  obtain ⟨ok, dx, t, h1, h2⟩ := h
  exact ⟨ok, dx, t, e _ _ h1, e _ _ h2⟩
theorem SpAt.same {sp : Spot} (h : SpAt H p sp) (e : Same H H') : SpAt H' p sp := e _ _ h
theorem OSp.same {v : V} {o : Option Spot} (h : OSp H v o) (e : Same H H') : OSp H' v o := by
  cases o with
  | none => exact h
  | some sp => exact h.elim fun p q => ⟨p, q.1, q.2.same e⟩
theorem OSps.same {xs : List V} {os : List (Option Spot)} (h : OSps H xs os) (e : Same H H') : OSps H' xs os := ⟨h.1, fun i v o q r => (h.2 i v o q r).same e⟩
theorem OSps.nil : OSps H [] [] := ⟨rfl, fun i v o q => by simp at q⟩
theorem OSps.snoc {xs : List V} {os : List (Option Spot)} {v : V} {o : Option Spot} (h : OSps H xs os) (q : OSp H v o) : OSps H (xs ++ [v]) (os ++ [o]) := by
  refine ⟨by simp [h.1], fun i v' o' e1 e2 => ?_⟩
  rw [List.getElem?_append] at e1 e2
  have hl := h.1
  split at e1
  · rw [if_pos (by omega)] at e2
    exact h.2 i v' o' e1 e2
  · rw [if_neg (by omega)] at e2
    rw [hl] at e1
    cases hk : i - os.length with
    | zero =>
      rw [hk] at e1 e2
      simp at e1 e2
      subst e1 e2
      exact q
    | succ k => rw [hk] at e1; simp at e1
theorem LvAt.inj {l l' : Lv} (h : LvAt K H a l) (h' : LvAt K H a l') : l' = l := by
  obtain ⟨_, dx, h1⟩ := h
  obtain ⟨_, dx', h2⟩ := h'
  rw [h1] at h2
  have h3 := Option.some.inj h2
  injection h3 with _ _ h4
  obtain ⟨g, s, p⟩ := l
  obtain ⟨g', s', p'⟩ := l'
  simp only [lfs, List.cons.injEq, Prod.mk.injEq, V.int.injEq, true_and, and_true] at h4
  obtain ⟨e1, e2, e3⟩ := h4
  rw [e1, e2, e3]
theorem lv_ex {l : Lv} (h : LvAt K H a l) {P : Lv → Prop} : (∃ l', LvAt K H a l' ∧ P l') = P l :=
  propext ⟨fun ⟨l', h', q⟩ => h.inj h' ▸ q, fun q => ⟨l, h, q⟩⟩
theorem lv_ext {W W' : List Lv} (hl : W'.length = W.length) (h : ∀ i, i < W.length → lv W' i = lv W i) : W' = W := by
  refine List.ext_getElem hl fun i h1 h2 => ?_
  have := h i h2
  simpa [lv, List.getD_eq_getElem?_getD, h1, h2] using this
theorem map_inj {α β : Type} {f : α → β} (hf : ∀ a b, f a = f b → a = b) : ∀ {l l' : List α}, l.map f = l'.map f → l = l'
  | [], [], _ => rfl
  | [], _ :: _, h => by simp at h
  | _ :: _, [], h => by simp at h
  | a :: l, b :: l', h => by
    rw [List.map_cons, List.map_cons] at h
    injection h with h1 h2
    rw [hf a b h1, map_inj hf h2]
theorem refs_inj {l l' : List Addr} (h : l.map V.ref = l'.map V.ref) : l = l' := map_inj (fun a b e => V.ref.inj e) h
theorem strs_inj {l l' : List Str} (h : l.map V.str = l'.map V.str) : l = l' := map_inj (fun a b e => V.str.inj e) h
theorem WhAt.inj {W W' : List Lv} (h : WhAt K H a W) (h' : WhAt K H a W') : W' = W := by
  obtain ⟨_, dx, t, as, h1, h2, h3, h4⟩ := h
  obtain ⟨_, dx', t', as', h1', h2', h3', h4'⟩ := h'
  rw [h1] at h1'
  have e1 := Option.some.inj h1'
  injection e1 with _ _ e2
  simp only [List.cons.injEq, Prod.mk.injEq, V.ref.injEq, true_and, and_true] at e2
  subst e2
  rw [h2] at h2'
  have e3 := Option.some.inj h2'
  injection e3 with e4
  have e5 := refs_inj e4
  subst e5
  refine lv_ext (by omega) fun i hi => ?_
  have hi' : i < as.length := by omega
  exact (h4 i _ (List.getElem?_eq_getElem hi')).inj (h4' i _ (List.getElem?_eq_getElem hi'))
theorem wh_ex {W : List Lv} (h : WhAt K H a W) {P : List Lv → Prop} : (∃ W', WhAt K H a W' ∧ P W') = P W :=
  propext ⟨fun ⟨l', h', q⟩ => h.inj h' ▸ q, fun q => ⟨W, h, q⟩⟩
theorem bws_inj {B B' : Bk} (hb : B.bey < 3) (hb' : B'.bey < 3) (h : bws B' = bws B) : B' = B := by
  obtain ⟨u, f, h1, p, z, n⟩ := B
  obtain ⟨u', f', h1', p', z', n'⟩ := B'
  simp only [bws, List.cons.injEq, and_true] at h
  obtain ⟨e1, e2, e3, e4, e5, e6⟩ := h
  have a1 : u' = u := by revert e1; cases u <;> cases u' <;> decide +kernel
  have a2 : f' = f := by revert e2; cases f <;> cases f' <;> decide +kernel
  have a3 : h1' = h1 := by revert e3; cases h1 <;> cases h1' <;> decide +kernel
  have a4 : p' = p := by revert e4; cases p <;> cases p' <;> decide +kernel
  have a5 : z' = z := by revert e5; cases z <;> cases z' <;> decide +kernel
  have a6 : n' = n := by
    dsimp only at hb hb'
    revert e6
    match n, n', hb, hb' with
    | 0, 0, _, _ => decide +kernel
    | 0, 1, _, _ => decide +kernel
    | 0, 2, _, _ => decide +kernel
    | 1, 0, _, _ => decide +kernel
    | 1, 1, _, _ => decide +kernel
    | 1, 2, _, _ => decide +kernel
    | 2, 0, _, _ => decide +kernel
    | 2, 1, _, _ => decide +kernel
    | 2, 2, _, _ => decide +kernel
  rw [a1, a2, a3, a4, a5, a6]
theorem BkAt.inj {B B' : Bk} (h : BkAt K H a B) (h' : BkAt K H a B') : B' = B := by
  obtain ⟨ok, dx, t, h1, h2⟩ := h
  obtain ⟨ok', dx', t', h1', h2'⟩ := h'
  rw [h1] at h1'
  have e1 := Option.some.inj h1'
  injection e1 with _ _ e2
  simp only [List.cons.injEq, Prod.mk.injEq, V.ref.injEq, true_and, and_true] at e2
  subst e2
  rw [h2] at h2'
  have e3 := Option.some.inj h2'
  injection e3 with e4
  exact (bws_inj ok' ok (strs_inj e4)).symm
theorem bk_ex {B : Bk} (h : BkAt K H a B) {P : Bk → Prop} : (∃ B', BkAt K H a B' ∧ P B') = P B :=
  propext ⟨fun ⟨l', h', q⟩ => h.inj h' ▸ q, fun q => ⟨B, h, q⟩⟩
theorem SpAt.inj {s s' : Spot} (h : SpAt H p s) (h' : SpAt H p s') : s' = s := by
  unfold SpAt at h h'
  rw [h] at h'
  have e1 := Option.some.inj h'
  obtain ⟨l, a, b⟩ := s
  obtain ⟨l', a', b'⟩ := s'
  simp only [HO.tup.injEq, List.cons.injEq, V.int.injEq, and_true] at e1
  obtain ⟨e1, e2, e3⟩ := e1
  have e4 : l' = l := by omega
  rw [e4, e2, e3]
theorem sp_ex {s : Spot} (h : SpAt H p s) {P : Spot → Prop} : (∃ s', SpAt H p s' ∧ P s') = P s :=
  propext ⟨fun ⟨l', h', q⟩ => h.inj h' ▸ q, fun q => ⟨s, h, q⟩⟩
theorem sz0 : (0 ≤ sizeLine) = True := eq_true (by decide)
theorem sz1 : (1 ≤ sizeLine) = True := eq_true (by decide)
theorem sz2 : (2 ≤ sizeLine) = True := eq_true (by decide)
theorem sz3 : (3 ≤ sizeLine) = True := eq_true (by decide)
theorem sz4 : (4 ≤ sizeLine) = True := eq_true (by decide)
theorem sz5 : (5 ≤ sizeLine) = True := eq_true (by decide)
theorem sz6 : (6 ≤ sizeLine) = True := eq_true (by decide)
theorem lk1 (x : Str) (v : V) (r : List (Str × V)) : List.lookup x ((x, v) :: r) = some v := by
  rw [List.lookup_cons, show (x == x) = true from beq_self_eq_true x]
theorem lk2 (x y : Str) (v : V) (r : List (Str × V)) (h : (x == y) = false) : List.lookup x ((y, v) :: r) = List.lookup x r := by
  rw [List.lookup_cons, h]
theorem lfs_g (l : Lv) : (lfs l).lookup ("kept_grain" : Str) = some (.int l.g) := lk1 _ _ _
theorem lfs_s (l : Lv) : (lfs l).lookup ("kept_slots" : Str) = some (.int l.s) := by
  unfold lfs
  rw [lk2 _ _ _ _ (by decide +kernel), lk1]
theorem lfs_p (l : Lv) : (lfs l).lookup ("kept_span" : Str) = some (.int l.p) := by
  unfold lfs
  rw [lk2 _ _ _ _ (by decide +kernel), lk2 _ _ _ _ (by decide +kernel), lk1]
theorem sUp_up (b : Bool) : (sUp b = "up") = (b = true) := by cases b <;> decide +kernel
theorem sFire_fire (b : Bool) : (sFire b = "fire") = (b = true) := by cases b <;> decide +kernel
theorem sHigh_high (b : Bool) : (sHigh b = "high") = (b = true) := by cases b <;> decide +kernel
theorem sPut_put (b : Bool) : (sPut b = "put") = (b = true) := by cases b <;> decide +kernel
theorem sZone_now (b : Bool) : (sZone b = "now") = (b = false) := by cases b <;> decide +kernel
theorem sBey_refuse (n : Nat) : (sBey n = "refuse") = (n = 0) := by
  match n with
  | 0 => decide +kernel
  | 1 => decide +kernel
  | n + 2 => exact propext ⟨fun h => absurd h (by show ¬ (("cut" : Str) = "refuse"); decide +kernel), fun h => by omega⟩
theorem sBey_cut (n : Nat) : (sBey n = "cut") = (2 ≤ n) := by
  match n with
  | 0 => exact propext ⟨fun h => absurd h (by decide +kernel), fun h => by omega⟩
  | 1 => exact propext ⟨fun h => absurd h (by decide +kernel), fun h => by omega⟩
  | n + 2 => exact propext ⟨fun h => by omega, fun h => rfl⟩
end
end Tw
/-! Tw: promises and readings of the package's defs -/
namespace Tw
open PySem PySem.Spec PyProof.Rows L2 He TwM
open PySem.W (Frag)
local macro_rules | `(tactic| walk_at "rs") => `(tactic| simp only [and_assoc, tNever, tSeq, tAsg, gName, tVar, tC, tOp, rI, rI0, rU, tUn, oAdd, oSub, oMul, oDiv, oMod, oNeg, oLt, oLe, oGt, oGe, oIsN, oNotN, tFn, tCons, tNil, tIfS, tIf, tTest, tB, tNot, tAnd, tOr, tAndV, tOrV, tNotV,
  tRet, tRetN, tNext, tCB, tDrop, tChain, rEq, rNe, oMax2, oMin2, oInt1, rLenF, L2.start, List.map_cons, List.map_nil, List.length_cons, List.length_nil, List.replicate_succ, List.replicate_zero, List.cons_append, List.nil_append, Nat.reduceAdd, Nat.reduceSub, Nat.zero_add,
  List.set_cons_zero, List.set_cons_succ, List.getElem?_cons_zero, List.getElem?_cons_succ, Option.some.injEq, V.int.injEq, V.ref.injEq, V.str.injEq, V.bl.injEq, exists_eq_left', exists_eq_left, exists_and_left, List.cons.injEq, and_true, true_and, decide_eq_true_eq, sc_ii, sc_ss, sc_bb, sc_ni, sc_in, sc_nn, sc_is, reduceCtorEq,
  Bool.not_eq_true', decide_eq_false_iff_not, if_true, if_false, Bool.false_eq_true, exists_eq', exists_const, false_and, and_false, or_false, false_or, exists_false, Bool.not_not, Bool.not_true, Bool.not_false, sUp_up, sFire_fire, sHigh_high, sPut_put, sZone_now, sBey_refuse, sBey_cut, tTup, tLst, sz0, sz1, sz2, sz3, sz4, sz5, sz6])
section
variable {K : Frag} {w : World}
/-! ### shares -/
def sp_is_integer (K : Frag) : Sp := fun vs H Q _ => ∃ i : Int, vs = [.int i] ∧ Q (.bl true) H
def t_is_integer (K : Frag) (w : World) : TS :=
  (tRet (tAndV (tCB (rIsi K) (tCons (tVar 0) (tCons (tC (.ty "int")) tNil))) (tNotV (tCB (rIsi K) (tCons (tVar 0) (tCons (tC (.ty "bool")) tNil))))))
def n_is_integer : List Str := ["value"]
theorem rd_is_integer (vs : List V) (H : Hp) (Q : VK) (E : XK) (h : sp_is_integer K vs H Q E) : t_is_integer K w { nx := fun _ H' => Q .non H', rt := Q } (start n_is_integer vs) H := by
  obtain ⟨i, rfl, q⟩ := h
  unfold t_is_integer n_is_integer
  walk_at "rs"
  refine isi_base (.base (.int i)) (b := true) (by decide +kernel) ⟨true, rfl, iteT ?_⟩
  exact isi_base (.base (.int i)) (b := false) (by decide +kernel) ⟨false, rfl, q⟩
def sp_is_count (K : Frag) : Sp := fun vs H Q _ => ∃ i : Int, vs = [.int i] ∧ Q (.bl (decide (0 ≤ i))) H
def t_is_count (K : Frag) (w : World) : TS :=
  (tRet (tAndV (tFn (sp_is_integer K) E0 (tCons (tVar 0) tNil)) (tOp oGe (tVar 0) (tC (.int 0)))))
def n_is_count : List Str := ["value"]
theorem rd_is_count (vs : List V) (H : Hp) (Q : VK) (E : XK) (h : sp_is_count K vs H Q E) : t_is_count K w { nx := fun _ H' => Q .non H', rt := Q } (start n_is_count vs) H := by
  obtain ⟨i, rfl, q⟩ := h
  unfold t_is_count n_is_count
  walk_at "rs"
  exact ⟨i, rfl, true, rfl, iteT q⟩
def sp_rounded (K : Frag) : Sp := fun vs H Q _ => ∃ (t g : Int) (u : Bool), vs = [.int t, .int g, .str (sUp u)] ∧ 0 < g ∧ g < 1073741824 ∧ Q (.int (rnd u t g)) H
def t_rounded (K : Frag) (w : World) : TS :=
  (tSeq (tIfS (tTest (tOp rEq (tVar 2) (tC (.str "up")))) (tRet (tUn oNeg (tOp oDiv (tUn oNeg (tVar 0)) (tVar 1)))) tNext)
  (tRet (tOp oDiv (tVar 0) (tVar 1))))
def n_rounded : List Str := ["tick", "grain", "rounding"]
theorem rd_rounded (vs : List V) (H : Hp) (Q : VK) (E : XK) (h : sp_rounded K vs H Q E) : t_rounded K w { nx := fun _ H' => Q .non H', rt := Q } (L2.start n_rounded vs) H := by
  obtain ⟨t, g, u, rfl, h1, h2, q⟩ := h
  unfold t_rounded n_rounded
  walk_at "rs"
  unfold rnd at q
  refine ite2 (fun hu => ?_) fun hu => ?_
  · rw [if_pos hu] at q
    exact ⟨⟨h1, h2⟩, q⟩
  · rw [if_neg hu] at q
    exact ⟨⟨h1, h2⟩, q⟩
def sp_is_within (K : Frag) : Sp := fun vs H Q _ => ∃ (i lo hi : Int), vs = [.int i, .int lo, .int hi] ∧ Q (.bl (decide (lo ≤ i ∧ i ≤ hi))) H
def t_is_within (K : Frag) (w : World) : TS :=
  (tRet (tAndV (tFn (sp_is_integer K) E0 (tCons (tVar 0) tNil)) (tChain oLe oLe (tVar 1) (tVar 0) (tVar 2))))
def n_is_within : List Str := ["value", "low", "high"]
theorem rd_is_within (vs : List V) (H : Hp) (Q : VK) (E : XK) (h : sp_is_within K vs H Q E) : t_is_within K w { nx := fun _ H' => Q .non H', rt := Q } (L2.start n_is_within vs) H := by
  obtain ⟨i, lo, hi, rfl, q⟩ := h
  unfold t_is_within n_is_within
  walk_at "rs"
  refine ⟨i, rfl, true, rfl, iteT ?_⟩
  by_cases h1 : lo ≤ i
  · by_cases h2 : i ≤ hi <;> simpa [h1, h2] using q
  · simpa [h1] using q
local macro_rules | `(tactic| walk_at "rsx") => `(tactic| simp only [*, and_assoc, tNever, List.length_map, tFld, rIxTH, rIxLH, rLenTH, rLenLH, lk1, lfs_g, lfs_s, lfs_p, HO.ins.injEq, HO.tup.injEq, HO.lst.injEq, sp_is_integer, sp_is_count, sp_is_within, sp_rounded, tSeq, tAsg, gName, tVar, tC, tOp, rI, rI0, rU, tUn, oAdd, oSub, oMul, oDiv, oMod, oNeg, oLt, oLe, oGt, oGe, oIsN, oNotN, tFn, tCons, tNil, tIfS, tIf, tTest, tB, tNot, tAnd, tOr, tAndV, tOrV, tNotV,
    tRet, tRetN, tNext, tCB, tDrop, tChain, rEq, rNe, oMax2, oMin2, oInt1, rLenF, L2.start, List.map_cons, List.map_nil, List.length_cons, List.length_nil, List.replicate_succ, List.replicate_zero, List.cons_append, List.nil_append, Nat.reduceAdd, Nat.reduceSub, Nat.zero_add,
    List.set_cons_zero, List.set_cons_succ, List.getElem?_cons_zero, List.getElem?_cons_succ, Option.some.injEq, V.int.injEq, V.ref.injEq, V.str.injEq, V.bl.injEq, exists_eq_left', exists_eq_left, exists_and_left, List.cons.injEq, and_true, true_and, decide_eq_true_eq, sc_ii, sc_ss, sc_bb, sc_ni, sc_in, sc_nn, sc_is, reduceCtorEq,
    Bool.not_eq_true', decide_eq_false_iff_not, if_true, if_false, Bool.false_eq_true, exists_eq', exists_const, false_and, and_false, or_false, false_or, exists_false, Bool.not_not, Bool.not_true, Bool.not_false, sUp_up, sFire_fire, sHigh_high, sPut_put, sZone_now, sBey_refuse, sBey_cut, tTup, tLst, sz0, sz1, sz2, sz3, sz4, sz5, sz6])
/-! ### levels, wheels -/
def sp_Level_grain (K : Frag) : Sp := fun vs H Q _ => ∃ a, vs = [.ref a] ∧ ∃ l, LvAt K H a l ∧ Q (.int l.g) H
def sp_Level_slots (K : Frag) : Sp := fun vs H Q _ => ∃ a, vs = [.ref a] ∧ ∃ l, LvAt K H a l ∧ Q (.int l.s) H
def sp_Level_span (K : Frag) : Sp := fun vs H Q _ => ∃ a, vs = [.ref a] ∧ ∃ l, LvAt K H a l ∧ Q (.int l.p) H
theorem in_Level_grain (K : Frag) : InsAt (ga K "Level") (sp_Level_grain K) := fun vs H Q E ⟨a, e, l, ⟨_, dx, h⟩, _⟩ => ⟨a, dx, _, [], e, h⟩
theorem in_Level_slots (K : Frag) : InsAt (ga K "Level") (sp_Level_slots K) := fun vs H Q E ⟨a, e, l, ⟨_, dx, h⟩, _⟩ => ⟨a, dx, _, [], e, h⟩
theorem in_Level_span (K : Frag) : InsAt (ga K "Level") (sp_Level_span K) := fun vs H Q E ⟨a, e, l, ⟨_, dx, h⟩, _⟩ => ⟨a, dx, _, [], e, h⟩
def t_Level_grain (K : Frag) (w : World) : TS :=
  (tRet (tFld K (tVar 0) "kept_grain"))
def n_Level_grain : List Str := ["self"]
def t_Level_slots (K : Frag) (w : World) : TS :=
  (tRet (tFld K (tVar 0) "kept_slots"))
def n_Level_slots : List Str := ["self"]
def t_Level_span (K : Frag) (w : World) : TS :=
  (tRet (tFld K (tVar 0) "kept_span"))
def n_Level_span : List Str := ["self"]
theorem rd_Level_grain (T : Klv K w) (vs : List V) (H : Hp) (Q : VK) (E : XK) (h : sp_Level_grain K vs H Q E) : t_Level_grain K w { nx := fun _ H' => Q .non H', rt := Q } (L2.start n_Level_grain vs) H := by
  obtain ⟨a, rfl, l, ⟨ok, dx, h⟩, q⟩ := h
  exact ⟨_, rfl, a, _, dx, _, _, rfl, h, T.cL, T.nLg, rfl, q⟩
theorem rd_Level_slots (T : Klv K w) (vs : List V) (H : Hp) (Q : VK) (E : XK) (h : sp_Level_slots K vs H Q E) : t_Level_slots K w { nx := fun _ H' => Q .non H', rt := Q } (L2.start n_Level_slots vs) H := by
  obtain ⟨a, rfl, l, ⟨ok, dx, h⟩, q⟩ := h
  exact ⟨_, rfl, a, _, dx, _, _, rfl, h, T.cL, T.nLs, lfs_s l, q⟩
theorem rd_Level_span (T : Klv K w) (vs : List V) (H : Hp) (Q : VK) (E : XK) (h : sp_Level_span K vs H Q E) : t_Level_span K w { nx := fun _ H' => Q .non H', rt := Q } (L2.start n_Level_span vs) H := by
  obtain ⟨a, rfl, l, ⟨ok, dx, h⟩, q⟩ := h
  exact ⟨_, rfl, a, _, dx, _, _, rfl, h, T.cL, T.nLp, lfs_p l, q⟩

def sp_Wheel_reach (K : Frag) : Sp := fun vs H Q _ => ∃ a, vs = [.ref a] ∧ ∃ W, WhAt K H a W ∧ Q (.int (reach W)) H
theorem in_Wheel_reach (K : Frag) : InsAt (ga K "Wheel") (sp_Wheel_reach K) := fun vs H Q E ⟨a, e, W, ⟨_, dx, _, _, h, _⟩, _⟩ => ⟨a, dx, _, [], e, h⟩
def t_Wheel_reach (K : Frag) (w : World) : TS :=
  (tRet (tFn (sp_Level_span K) E0 (tCons (tOp rIxTH (tFld K (tVar 0) "kept_levels") (tUn oNeg (tC (.int 1)))) tNil)))
def n_Wheel_reach : List Str := ["self"]
theorem rd_Wheel_reach (T : Kl K w) (vs : List V) (H : Hp) (Q : VK) (E : XK) (h : sp_Wheel_reach K vs H Q E) : t_Wheel_reach K w { nx := fun _ H' => Q .non H', rt := Q } (L2.start n_Wheel_reach vs) H := by
  obtain ⟨a, rfl, W, ⟨ok, dx, t, as, h1, h2, h3, h4⟩, q⟩ := h
  have hp := ok.pos
  obtain ⟨c, hc⟩ : ∃ c, as[W.length - 1]? = some c := ⟨as[W.length - 1]'(by omega), List.getElem?_eq_getElem (by omega)⟩
  have hl : atI (as.map V.ref) (-1) = some (.ref c) := by
    unfold atI ixN
    rw [List.length_map, if_neg (by omega), if_pos (by omega), h3]
    show (as.map V.ref)[(-1 + (W.length : Int)).toNat]? = _
    rw [show (-1 + (W.length : Int)).toNat = W.length - 1 by omega, List.getElem?_map, hc]
    rfl
  refine ⟨_, rfl, a, _, dx, _, _, rfl, h1, T.cW, T.nWl, lk1 _ _ _, 1, rfl, t, _, _, _, rfl, rfl, h2, hl, c, rfl, _, h4 _ c hc, q⟩
def sp_Wheel___len__ (K : Frag) : Sp := fun vs H Q _ => ∃ a, vs = [.ref a] ∧ ∃ W, WhAt K H a W ∧ Q (.int W.length) H
theorem in_Wheel___len__ (K : Frag) : InsAt (ga K "Wheel") (sp_Wheel___len__ K) := fun vs H Q E ⟨a, e, W, ⟨_, dx, _, _, h, _⟩, _⟩ => ⟨a, dx, _, [], e, h⟩
theorem ln_Wheel___len__ (K : Frag) : ∀ vs H Q E, sp_Wheel___len__ K vs H Q E → vs.length = 1 := fun vs H Q E ⟨a, e, _⟩ => by rw [e]; rfl
def t_Wheel___len__ (K : Frag) (w : World) : TS :=
  (tRet (tCB rLenTH (tCons (tFld K (tVar 0) "kept_levels") tNil)))
def n_Wheel___len__ : List Str := ["self"]
theorem rd_Wheel___len__ (T : Kl K w) (vs : List V) (H : Hp) (Q : VK) (E : XK) (h : sp_Wheel___len__ K vs H Q E) : t_Wheel___len__ K w { nx := fun _ H' => Q .non H', rt := Q } (L2.start n_Wheel___len__ vs) H := by
  obtain ⟨a, rfl, W, ⟨ok, dx, t, as, h1, h2, h3, h4⟩, q⟩ := h
  have c1 := T.cW
  have c2 := T.nWl
  unfold t_Wheel___len__ n_Wheel___len__
  walk_at "rsx"
local macro_rules | `(tactic| walk_at "rsy") => `(tactic| simp only [*, and_assoc, tNever, List.length_map, tFld, rIxTH, rIxLH, rLenTH, rLenLH, lk1, lfs_g, lfs_s, lfs_p, HO.ins.injEq, HO.tup.injEq, HO.lst.injEq, sp_Level_grain, sp_Level_slots, sp_Level_span, sp_Wheel_reach, sp_Wheel___len__, sp_is_integer, sp_is_count, sp_is_within, sp_rounded, tSeq, tAsg, gName, tVar, tC, tOp, rI, rI0, rU, tUn, oAdd, oSub, oMul, oDiv, oMod, oNeg, oLt, oLe, oGt, oGe, oIsN, oNotN, tFn, tCons, tNil, tIfS, tIf, tTest, tB, tNot, tAnd, tOr, tAndV, tOrV, tNotV,
    tRet, tRetN, tNext, tCB, tDrop, tChain, rEq, rNe, oMax2, oMin2, oInt1, rLenF, L2.start, List.map_cons, List.map_nil, List.length_cons, List.length_nil, List.replicate_succ, List.replicate_zero, List.cons_append, List.nil_append, Nat.reduceAdd, Nat.reduceSub, Nat.zero_add,
    List.set_cons_zero, List.set_cons_succ, List.getElem?_cons_zero, List.getElem?_cons_succ, Option.some.injEq, V.int.injEq, V.ref.injEq, V.str.injEq, V.bl.injEq, exists_eq_left', exists_eq_left, exists_and_left, List.cons.injEq, and_true, true_and, decide_eq_true_eq, sc_ii, sc_ss, sc_bb, sc_ni, sc_in, sc_nn, sc_is, reduceCtorEq,
    Bool.not_eq_true', decide_eq_false_iff_not, if_true, if_false, Bool.false_eq_true, exists_eq', exists_const, false_and, and_false, or_false, false_or, exists_false, Bool.not_not, Bool.not_true, Bool.not_false, sUp_up, sFire_fire, sHigh_high, sPut_put, sZone_now, sBey_refuse, sBey_cut, tTup, tLst, sz0, sz1, sz2, sz3, sz4, sz5, sz6])
def sp_Wheel___getitem__ (K : Frag) : Sp := fun vs H Q _ => ∃ a i, vs = [.ref a, .int i] ∧ ∃ W, WhAt K H a W ∧ 0 ≤ i ∧ i < W.length ∧ ∀ c, LvAt K H c (lv W i.toNat) → Q (.ref c) H
theorem in_Wheel___getitem__ (K : Frag) : InsAt (ga K "Wheel") (sp_Wheel___getitem__ K) := fun vs H Q E ⟨a, i, e, W, ⟨_, dx, _, _, h, _⟩, _⟩ => ⟨a, dx, _, _, e, h⟩
def t_Wheel___getitem__ (K : Frag) (w : World) : TS :=
  (tSeq (tIfS (tNot (tB (tFn (sp_is_within K) E0 (tCons (tVar 1) (tCons (tC (.int 0)) (tCons (tOp oSub (tCB rLenTH (tCons (tFld K (tVar 0) "kept_levels") tNil)) (tC (.int 1))) tNil)))))) tNever tNext)
  (tRet (tOp rIxTH (tFld K (tVar 0) "kept_levels") (tVar 1))))
def n_Wheel___getitem__ : List Str := ["self", "index"]
theorem rd_Wheel___getitem__ (T : Kl K w) (vs : List V) (H : Hp) (Q : VK) (E : XK) (h : sp_Wheel___getitem__ K vs H Q E) : t_Wheel___getitem__ K w { nx := fun _ H' => Q .non H', rt := Q } (L2.start n_Wheel___getitem__ vs) H := by
  obtain ⟨a, i, rfl, W, ⟨ok, dx, t, as, h1, h2, h3, h4⟩, hi0, hi1, q⟩ := h
  have c1 := T.cW
  have c2 := T.nWl
  unfold t_Wheel___getitem__ n_Wheel___getitem__
  walk_at "rsx"
  obtain ⟨j, rfl⟩ : ∃ j : Nat, i = (j : Int) := ⟨i.toNat, by omega⟩
  have hj : j < as.length := by omega
  have hc := List.getElem?_eq_getElem hj
  rw [if_neg (by omega)]
  exact ⟨_, atI_nat (v := V.ref as[j]) (by rw [List.getElem?_map, hc]; rfl), q _ (h4 j _ hc)⟩
def sp_Wheel_level_of (K : Frag) : Sp := fun vs H Q _ => ∃ a d, vs = [.ref a, .int d] ∧ ∃ W, WhAt K H a W ∧ 0 ≤ d ∧ ∀ H', Same H H' → Q (optI (levelOf W d)) H'
def t_Wheel_level_of (K : Frag) (w : World) : TS :=
  (tSeq (tIfS (tNot (tB (tFn (sp_is_count K) E0 (tCons (tVar 1) tNil)))) tNever tNext)
  (tSeq (tFor (iEnT K (tCons (tFld K (tVar 0) "kept_levels") tNil)) (gTup K 2 (gCons (gName 2) (gCons (gName 3) gNil)))
    (tIfS (tTest (tOp oLt (tVar 1) (tFn (sp_Level_span K) E0 (tCons (tVar 3) tNil)))) (tRet (tVar 2)) tNext))
  (tRet (tC .non))))
def n_Wheel_level_of : List Str := ["self", "delay", "index", "level"]
theorem rd_Wheel_level_of (T : Kl K w) (vs : List V) (H : Hp) (Q : VK) (E : XK) (h : sp_Wheel_level_of K vs H Q E) : t_Wheel_level_of K w { nx := fun _ H' => Q .non H', rt := Q } (L2.start n_Wheel_level_of vs) H := by
  obtain ⟨a, d, rfl, W, hW, hd, q⟩ := h
  obtain ⟨ok, dx, t, as, h1, h2, h3, h4⟩ := hW
  have c1 := T.cW
  have c2 := T.nWl
  unfold t_Wheel_level_of n_Wheel_level_of
  walk_at "rsx"
  refine ⟨_, rfl, a, _, _, _, _, rfl, h1, c1, c2, lk1 _ _ _, t, _, rfl, SqT.of h2, for_enT (xs := as.map V.ref)
    (fun i σ H' => ∃ v2 v3, σ = [some (.ref a), some (.int d), v2, v3] ∧ Same H H' ∧ ∀ j, j < i → (lv W j).p ≤ d) ⟨none, none, rfl, Same.refl H, fun j hj => by omega⟩ (fun i σ H' ⟨_, _, _, s, _⟩ => SqT.of (s _ _ h2)) ?_ ?_⟩
  · rintro i x p σ H1 hx ⟨v2, v3, rfl, s, hp⟩ hn
    obtain ⟨c, hc, rfl⟩ : ∃ c, as[i]? = some c ∧ x = V.ref c := by
      rw [List.getElem?_map] at hx
      cases e : as[i]? with
      | none => rw [e] at hx; cases hx
      | some c => rw [e] at hx; exact ⟨c, rfl, (Option.some.inj hx).symm⟩
    have hi : i < W.length := by have := (List.getElem?_eq_some_iff.mp hc).1; omega
    have s' : Same H (upd H1 p (.tup [.int (i : Nat), .ref c])) := s.trans (Same.new hn)
    refine ⟨p, _, rfl, SqT.of upd_same, rfl, _, _, rfl, _, _, rfl, rfl, ?_⟩
    have e := @lv_ex K _ c (lv W i) ((h4 i c hc).same s')
    walk_at "rsy"
    refine ite2 (fun hlt => ?_) fun hge => ?_
    · have : levelOf W d = some i := levelOf_is hi hp hlt
      have q' := q _ s'
      rw [this] at q'
      exact q'
    · refine fun j hj => ?_
      by_cases hji : j = i
      · subst hji; omega
      · exact hp j (by omega)
  · rintro σ H1 ⟨v2, v3, rfl, s, hp⟩
    have : levelOf W d = none := levelOf_isN fun j hj => hp j (by simpa [h3] using hj)
    have q' := q _ s
    rw [this] at q'
    exact q'
def sp_visit_after (K : Frag) : Sp := fun vs H Q _ => ∃ a pt now, vs = [.ref a, .int pt, .int now] ∧ ∃ l, LvAt K H a l ∧ Q (.int (va l pt now)) H
def t_visit_after (K : Frag) (w : World) : TS :=
  (tSeq (tAsg (tOp oDiv (tVar 2) (tFn (sp_Level_grain K) E0 (tCons (tVar 0) tNil))) (gName 3))
  (tRet (tOp oMul (tOp oAdd (tOp oAdd (tVar 3) (tC (.int 1))) (tOp oMod (tOp oSub (tOp oSub (tVar 1) (tVar 3)) (tC (.int 1))) (tFn (sp_Level_slots K) E0 (tCons (tVar 0) tNil)))) (tFn (sp_Level_grain K) E0 (tCons (tVar 0) tNil)))))
def n_visit_after : List Str := ["level", "point", "now", "base"]
theorem rd_visit_after (vs : List V) (H : Hp) (Q : VK) (E : XK) (h : sp_visit_after K vs H Q E) : t_visit_after K w { nx := fun _ H' => Q .non H', rt := Q } (L2.start n_visit_after vs) H := by
  obtain ⟨a, pt, now, rfl, l, hL, q⟩ := h
  obtain ⟨h1, h2, h3, h4⟩ := hL.ok
  have e := @lv_ex K H a l hL
  unfold t_visit_after n_visit_after
  walk_at "rsy"
  exact ⟨⟨by omega, by omega⟩, by omega, .inr ⟨by omega, by omega⟩, q⟩
def sp_is_visited (K : Frag) : Sp := fun vs H Q _ => ∃ a pt before now, vs = [.ref a, .int pt, .int before, .int now] ∧ ∃ l, LvAt K H a l ∧ Q (.bl (isVis l pt before now)) H
def t_is_visited (K : Frag) (w : World) : TS :=
  (tSeq (tAsg (tOp oDiv (tVar 2) (tFn (sp_Level_grain K) E0 (tCons (tVar 0) tNil))) (gName 4))
  (tSeq (tAsg (tOp oSub (tOp oDiv (tVar 3) (tFn (sp_Level_grain K) E0 (tCons (tVar 0) tNil))) (tVar 4)) (gName 5))
  (tRet (tOp oLt (tOp oMod (tOp oSub (tOp oSub (tVar 1) (tVar 4)) (tC (.int 1))) (tFn (sp_Level_slots K) E0 (tCons (tVar 0) tNil))) (tVar 5)))))
def n_is_visited : List Str := ["level", "point", "before", "now", "base", "many"]
theorem rd_is_visited (vs : List V) (H : Hp) (Q : VK) (E : XK) (h : sp_is_visited K vs H Q E) : t_is_visited K w { nx := fun _ H' => Q .non H', rt := Q } (L2.start n_is_visited vs) H := by
  obtain ⟨a, pt, before, now, rfl, l, hL, q⟩ := h
  obtain ⟨h1, h2, h3, h4⟩ := hL.ok
  have e := @lv_ex K H a l hL
  unfold t_is_visited n_is_visited
  walk_at "rsy"
  exact ⟨⟨by omega, by omega⟩, ⟨by omega, by omega⟩, by omega, q⟩
/-! ### books -/
def sp_Book_rounding (K : Frag) : Sp := fun vs H Q _ => ∃ a, vs = [.ref a] ∧ ∃ B, BkAt K H a B ∧ Q (.str (sUp B.up)) H
theorem in_Book_rounding (K : Frag) : InsAt (ga K "Book") (sp_Book_rounding K) := fun vs H Q E ⟨a, e, B, ⟨_, dx, _, h, _⟩, _⟩ => ⟨a, dx, _, [], e, h⟩
def t_Book_rounding (K : Frag) (w : World) : TS :=
  (tRet (tOp rIxTH (tFld K (tVar 0) "kept_values") (tC (.int 0))))
def n_Book_rounding : List Str := ["self"]
theorem rd_Book_rounding (T : Kf K w) (vs : List V) (H : Hp) (Q : VK) (E : XK) (h : sp_Book_rounding K vs H Q E) : t_Book_rounding K w { nx := fun _ H' => Q .non H', rt := Q } (L2.start n_Book_rounding vs) H := by
  obtain ⟨a, rfl, B, ⟨ok, dx, t, h1, h2⟩, q⟩ := h
  have c1 := T.cB
  have c2 := T.nBv
  unfold t_Book_rounding n_Book_rounding
  walk_at "rsx"
  exact ⟨_, rfl, q⟩
def sp_Book_action (K : Frag) : Sp := fun vs H Q _ => ∃ a, vs = [.ref a] ∧ ∃ B, BkAt K H a B ∧ Q (.str (sFire B.fire)) H
theorem in_Book_action (K : Frag) : InsAt (ga K "Book") (sp_Book_action K) := fun vs H Q E ⟨a, e, B, ⟨_, dx, _, h, _⟩, _⟩ => ⟨a, dx, _, [], e, h⟩
def t_Book_action (K : Frag) (w : World) : TS :=
  (tRet (tOp rIxTH (tFld K (tVar 0) "kept_values") (tC (.int 1))))
def n_Book_action : List Str := ["self"]
theorem rd_Book_action (T : Kf K w) (vs : List V) (H : Hp) (Q : VK) (E : XK) (h : sp_Book_action K vs H Q E) : t_Book_action K w { nx := fun _ H' => Q .non H', rt := Q } (L2.start n_Book_action vs) H := by
  obtain ⟨a, rfl, B, ⟨ok, dx, t, h1, h2⟩, q⟩ := h
  have c1 := T.cB
  have c2 := T.nBv
  unfold t_Book_action n_Book_action
  walk_at "rsx"
  exact ⟨_, rfl, q⟩
def sp_Book_order (K : Frag) : Sp := fun vs H Q _ => ∃ a, vs = [.ref a] ∧ ∃ B, BkAt K H a B ∧ Q (.str (sHigh B.high)) H
theorem in_Book_order (K : Frag) : InsAt (ga K "Book") (sp_Book_order K) := fun vs H Q E ⟨a, e, B, ⟨_, dx, _, h, _⟩, _⟩ => ⟨a, dx, _, [], e, h⟩
def t_Book_order (K : Frag) (w : World) : TS :=
  (tRet (tOp rIxTH (tFld K (tVar 0) "kept_values") (tC (.int 2))))
def n_Book_order : List Str := ["self"]
theorem rd_Book_order (T : Kf K w) (vs : List V) (H : Hp) (Q : VK) (E : XK) (h : sp_Book_order K vs H Q E) : t_Book_order K w { nx := fun _ H' => Q .non H', rt := Q } (L2.start n_Book_order vs) H := by
  obtain ⟨a, rfl, B, ⟨ok, dx, t, h1, h2⟩, q⟩ := h
  have c1 := T.cB
  have c2 := T.nBv
  unfold t_Book_order n_Book_order
  walk_at "rsx"
  exact ⟨_, rfl, q⟩
def sp_Book_due (K : Frag) : Sp := fun vs H Q _ => ∃ a, vs = [.ref a] ∧ ∃ B, BkAt K H a B ∧ Q (.str (sPut B.put)) H
theorem in_Book_due (K : Frag) : InsAt (ga K "Book") (sp_Book_due K) := fun vs H Q E ⟨a, e, B, ⟨_, dx, _, h, _⟩, _⟩ => ⟨a, dx, _, [], e, h⟩
def t_Book_due (K : Frag) (w : World) : TS :=
  (tRet (tOp rIxTH (tFld K (tVar 0) "kept_values") (tC (.int 3))))
def n_Book_due : List Str := ["self"]
theorem rd_Book_due (T : Kf K w) (vs : List V) (H : Hp) (Q : VK) (E : XK) (h : sp_Book_due K vs H Q E) : t_Book_due K w { nx := fun _ H' => Q .non H', rt := Q } (L2.start n_Book_due vs) H := by
  obtain ⟨a, rfl, B, ⟨ok, dx, t, h1, h2⟩, q⟩ := h
  have c1 := T.cB
  have c2 := T.nBv
  unfold t_Book_due n_Book_due
  walk_at "rsx"
  exact ⟨_, rfl, q⟩
def sp_Book_zero (K : Frag) : Sp := fun vs H Q _ => ∃ a, vs = [.ref a] ∧ ∃ B, BkAt K H a B ∧ Q (.str (sZone B.zone)) H
theorem in_Book_zero (K : Frag) : InsAt (ga K "Book") (sp_Book_zero K) := fun vs H Q E ⟨a, e, B, ⟨_, dx, _, h, _⟩, _⟩ => ⟨a, dx, _, [], e, h⟩
def t_Book_zero (K : Frag) (w : World) : TS :=
  (tRet (tOp rIxTH (tFld K (tVar 0) "kept_values") (tC (.int 4))))
def n_Book_zero : List Str := ["self"]
theorem rd_Book_zero (T : Kf K w) (vs : List V) (H : Hp) (Q : VK) (E : XK) (h : sp_Book_zero K vs H Q E) : t_Book_zero K w { nx := fun _ H' => Q .non H', rt := Q } (L2.start n_Book_zero vs) H := by
  obtain ⟨a, rfl, B, ⟨ok, dx, t, h1, h2⟩, q⟩ := h
  have c1 := T.cB
  have c2 := T.nBv
  unfold t_Book_zero n_Book_zero
  walk_at "rsx"
  exact ⟨_, rfl, q⟩
def sp_Book_beyond (K : Frag) : Sp := fun vs H Q _ => ∃ a, vs = [.ref a] ∧ ∃ B, BkAt K H a B ∧ Q (.str (sBey B.bey)) H
theorem in_Book_beyond (K : Frag) : InsAt (ga K "Book") (sp_Book_beyond K) := fun vs H Q E ⟨a, e, B, ⟨_, dx, _, h, _⟩, _⟩ => ⟨a, dx, _, [], e, h⟩
def t_Book_beyond (K : Frag) (w : World) : TS :=
  (tRet (tOp rIxTH (tFld K (tVar 0) "kept_values") (tC (.int 5))))
def n_Book_beyond : List Str := ["self"]
theorem rd_Book_beyond (T : Kf K w) (vs : List V) (H : Hp) (Q : VK) (E : XK) (h : sp_Book_beyond K vs H Q E) : t_Book_beyond K w { nx := fun _ H' => Q .non H', rt := Q } (L2.start n_Book_beyond vs) H := by
  obtain ⟨a, rfl, B, ⟨ok, dx, t, h1, h2⟩, q⟩ := h
  have c1 := T.cB
  have c2 := T.nBv
  unfold t_Book_beyond n_Book_beyond
  walk_at "rsx"
  exact ⟨_, rfl, q⟩
local macro_rules | `(tactic| walk_at "rsz") => `(tactic| simp only [*, and_assoc, tNever, List.length_map, tFld, rIxTH, rIxLH, rLenTH, rLenLH, lk1, lfs_g, lfs_s, lfs_p, HO.ins.injEq, HO.tup.injEq, HO.lst.injEq, sp_Book_rounding, sp_Book_action, sp_Book_order, sp_Book_due, sp_Book_zero, sp_Book_beyond, Int.toNat_natCast, sp_visit_after, sp_is_visited, sp_Level_grain, sp_Level_slots, sp_Level_span, sp_Wheel_reach, sp_Wheel___len__, sp_is_integer, sp_is_count, sp_is_within, sp_rounded, tSeq, tAsg, gName, tVar, tC, tOp, rI, rI0, rU, tUn, oAdd, oSub, oMul, oDiv, oMod, oNeg, oLt, oLe, oGt, oGe, oIsN, oNotN, tFn, tCons, tNil, tIfS, tIf, tTest, tB, tNot, tAnd, tOr, tAndV, tOrV, tNotV,
    tRet, tRetN, tNext, tCB, tDrop, tChain, rEq, rNe, oMax2, oMin2, oInt1, rLenF, L2.start, List.map_cons, List.map_nil, List.length_cons, List.length_nil, List.replicate_succ, List.replicate_zero, List.cons_append, List.nil_append, Nat.reduceAdd, Nat.reduceSub, Nat.zero_add,
    List.set_cons_zero, List.set_cons_succ, List.getElem?_cons_zero, List.getElem?_cons_succ, Option.some.injEq, V.int.injEq, V.ref.injEq, V.str.injEq, V.bl.injEq, exists_eq_left', exists_eq_left, exists_and_left, List.cons.injEq, and_true, true_and, decide_eq_true_eq, sc_ii, sc_ss, sc_bb, sc_ni, sc_in, sc_nn, sc_is, reduceCtorEq,
    Bool.not_eq_true', decide_eq_false_iff_not, if_true, if_false, Bool.false_eq_true, exists_eq', exists_const, false_and, and_false, or_false, false_or, exists_false, Bool.not_not, Bool.not_true, Bool.not_false, sUp_up, sFire_fire, sHigh_high, sPut_put, sZone_now, sBey_refuse, sBey_cut, tTup, tLst, sz0, sz1, sz2, sz3, sz4, sz5, sz6])
/-! ### points -/
def sp_spot_at (K : Frag) : Sp := fun vs H Q _ => ∃ (a b : Addr) (now rest due : Int), vs = [.ref a, .ref b, .int now, .int rest, .int due] ∧ ∃ W B, WhAt K H a W ∧ BkAt K H b B ∧ 0 ≤ rest ∧
  ∀ p H', Same H H' → SpAt H' p (spotAt W B now rest due) → Q (.ref p) H'
def t_spot_at (K : Frag) (w : World) : TS :=
  (tSeq (tAsg (tMethR (ga K "Wheel") "level_of" (sp_Wheel_level_of K) E0 (tVar 0) (tCons (tVar 3) tNil)) (gName 5))
  (tSeq (tAsg (tOp oAdd (tVar 2) (tVar 3)) (gName 6))
  (tSeq (tIfS (tTest (tOp oIsN (tVar 5) (tC .non))) (tSeq (tAsg (tOp oSub (tCB (rLenF (sp_Wheel___len__ K) E0) (tCons (tVar 0) tNil)) (tC (.int 1))) (gName 5))
  (tAsg (tOp oSub (tOp oAdd (tVar 2) (tFn (sp_Wheel_reach K) E0 (tCons (tVar 0) tNil))) (tC (.int 1))) (gName 6))) tNext)
  (tRet (tTup (tCons (tVar 5) (tCons (tFn (sp_rounded K) E0 (tCons (tVar 6) (tCons (tFn (sp_Level_grain K) E0 (tCons (tFn (sp_Wheel___getitem__ K) E0 (tCons (tVar 0) (tCons (tVar 5) tNil))) tNil)) (tCons (tFn (sp_Book_rounding K) E0 (tCons (tVar 1) tNil)) tNil)))) (tCons (tVar 4) tNil))))))))
def n_spot_at : List Str := ["wheel", "book", "now", "rest", "due", "index", "end"]
theorem rd_spot_at (vs : List V) (H : Hp) (Q : VK) (E : XK) (h : sp_spot_at K vs H Q E) : t_spot_at K w { nx := fun _ H' => Q .non H', rt := Q } (L2.start n_spot_at vs) H := by
  obtain ⟨a, b, now, rest, due, rfl, W, B, hW, hB, hr, q⟩ := h
  obtain ⟨ok, dx, t, as, h1, h2, h3, h4⟩ := id hW
  unfold t_spot_at n_spot_at
  refine ⟨_, rfl, a, dx, _, rfl, h1, rfl, _, rfl, a, rest, rfl, W, hW, hr, fun H1 s1 => ?_⟩
  have hW1 := hW.same s1
  have eW := @wh_ex K H1 a W hW1
  have eB := @bk_ex K H1 b B (hB.same s1)
  have hlen := ok.pos
  have hl5 := ok.len
  cases hl : levelOf W rest with
  | some i =>
    obtain ⟨hi, hd⟩ := levelOf_lt hl
    have hg := ok.all i hi
    have q' : ∀ p H', Same H H' → SpAt H' p ⟨i, rnd B.up (now + rest) (lv W i).g, due⟩ → Q (.ref p) H' := fun p H' s z => q p H' s (by unfold spotAt; rw [hl]; exact z)
    unfold optI
    walk_at "rsz"
    refine ⟨a, i, rfl, W, hW1, by omega, by omega, fun c hc => ?_⟩
    have eL := @lv_ex K H1 c (lv W i) hc
    walk_at "rsz"
    refine ⟨_, rfl, by omega, by omega, fun p hp => q' p _ (s1.trans (Same.new hp)) upd_same⟩
  | none =>
    have hg := ok.all (W.length - 1) (by omega)
    have ei : ((W.length : Int) - 1) = ((W.length - 1 : Nat) : Int) := by omega
    have q' : ∀ p H', Same H H' → SpAt H' p ⟨W.length - 1, rnd B.up (now + reach W - 1) (lv W (W.length - 1)).g, due⟩ → Q (.ref p) H' := fun p H' s z => q p H' s (by unfold spotAt; rw [hl]; exact z)
    unfold optI
    walk_at "rsz"
    refine ⟨by omega, by omega, a, (W.length - 1 : Nat), rfl, W, hW1, by omega, by omega, fun c hc => ?_⟩
    have eL := @lv_ex K H1 c (lv W (W.length - 1)) hc
    walk_at "rsz"
    exact ⟨_, rfl, by omega, by omega, fun p hp => q' p _ (s1.trans (Same.new hp)) upd_same⟩
end
end Tw
/-! Tw: readings of placing, visiting, following -/
namespace Tw
open PySem PySem.Spec PyProof.Rows L2 He TwM
open PySem.W (Frag)
local macro_rules | `(tactic| walk_at "rsz") => `(tactic| simp only [*, and_assoc, not_true_eq_false, not_false_eq_true, tNever, List.length_map, tFld, rIxTH, rIxLH, rLenTH, rLenLH, lk1, lfs_g, lfs_s, lfs_p, HO.ins.injEq, HO.tup.injEq, HO.lst.injEq, sp_Book_rounding, sp_Book_action, sp_Book_order, sp_Book_due, sp_Book_zero, sp_Book_beyond, Int.toNat_natCast, sp_visit_after, sp_is_visited, sp_Level_grain, sp_Level_slots, sp_Level_span, sp_Wheel_reach, sp_Wheel___len__, sp_is_integer, sp_is_count, sp_is_within, sp_rounded, tSeq, tAsg, gName, tVar, tC, tOp, rI, rI0, rU, tUn, oAdd, oSub, oMul, oDiv, oMod, oNeg, oLt, oLe, oGt, oGe, oIsN, oNotN, tFn, tCons, tNil, tIfS, tIf, tTest, tB, tNot, tAnd, tOr, tAndV, tOrV, tNotV,
    tRet, tRetN, tNext, tCB, tDrop, tChain, rEq, rNe, oMax2, oMin2, oInt1, rLenF, L2.start, List.map_cons, List.map_nil, List.length_cons, List.length_nil, List.replicate_succ, List.replicate_zero, List.cons_append, List.nil_append, Nat.reduceAdd, Nat.reduceSub, Nat.zero_add,
    List.set_cons_zero, List.set_cons_succ, List.getElem?_cons_zero, List.getElem?_cons_succ, Option.some.injEq, V.int.injEq, V.ref.injEq, V.str.injEq, V.bl.injEq, exists_eq_left', exists_eq_left, exists_and_left, List.cons.injEq, and_true, true_and, decide_eq_true_eq, sc_ii, sc_ss, sc_bb, sc_ni, sc_in, sc_nn, sc_is, reduceCtorEq,
    Bool.not_eq_true', decide_eq_false_iff_not, if_true, if_false, Bool.false_eq_true, exists_eq', exists_const, false_and, and_false, or_false, false_or, exists_false, Bool.not_not, Bool.not_true, Bool.not_false, sUp_up, sFire_fire, sHigh_high, sPut_put, sZone_now, sBey_refuse, sBey_cut, tTup, tLst, sz0, sz1, sz2, sz3, sz4, sz5, sz6])
theorem at3_0 (a b c : V) : atI [a, b, c] 0 = some a := rfl
theorem at3_1 (a b c : V) : atI [a, b, c] 1 = some b := rfl
theorem at3_2 (a b c : V) : atI [a, b, c] 2 = some c := rfl
theorem at2_0 (a b : V) : atI [a, b] 0 = some a := rfl
theorem at2_1 (a b : V) : atI [a, b] 1 = some b := rfl
theorem atI_m1 {xs : List V} {v : V} (h : xs.getLast? = some v) : atI xs (-1) = some v := by
  have hne : xs ≠ [] := fun e => by rw [e] at h; simp at h
  have e : xs = xs.dropLast ++ [v] := by
    rw [List.getLast?_eq_some_getLast hne] at h
    rw [← Option.some.inj h]
    exact (List.dropLast_concat_getLast hne).symm
  rw [e]
  exact atI_last _ _
theorem Same.updN {H H1 : Hp} {f : Addr} {o : HO} (s : Same H H1) (hn : H f = none) : Same H (upd H1 f o) := fun a u e => by
  rw [upd_ne (ne_of_none e hn)]
  exact s _ _ e
theorem OSp.updL {H : Hp} {v : V} {o : Option Spot} {f : Addr} {xs : List V} {u : HO} (h : OSp H v o) (hf : H f = some (.lst xs)) : OSp (upd H f u) v o := by
  cases o with
  | none => exact h
  | some sp =>
    obtain ⟨p, e, hp⟩ := h
    refine ⟨p, e, ?_⟩
    unfold SpAt at hp ⊢
    rw [upd_ne (fun e => by rw [e, hf] at hp; cases hp)]
    exact hp
theorem OSps.updL {H : Hp} {vs : List V} {os : List (Option Spot)} {f : Addr} {xs : List V} {u : HO} (h : OSps H vs os) (hf : H f = some (.lst xs)) : OSps (upd H f u) vs os := ⟨h.1, fun i v o q r => (h.2 i v o q r).updL hf⟩
section
variable {K : Frag} {w : World}
def placeM (W : List Lv) (B : Bk) (now delay : Int) : Option Spot :=
  if delay = 0 ∧ B.zone = false then none
  else
    let r0 := if 1 > delay then 1 else delay
    let r := if reach W ≤ r0 ∧ B.bey = 2 then reach W - 1 else r0
    some (spotAt W B now r (now + r))
def sp_place (K : Frag) : Sp := fun vs H Q _ => ∃ (a b : Addr) (now delay : Int), vs = [.ref a, .ref b, .int now, .int delay] ∧ ∃ W B, WhAt K H a W ∧ BkAt K H b B ∧ 0 ≤ now ∧ 0 ≤ delay ∧ (reach W ≤ delay → B.bey ≠ 0) ∧
  ∀ v H', Same H H' → OSp H' v (placeM W B now delay) → Q v H'
def t_place (K : Frag) (w : World) : TS :=
  (tSeq (tIfS (tNot (tB (tFn (sp_is_count K) E0 (tCons (tVar 2) tNil)))) tNever tNext)
  (tSeq (tIfS (tNot (tB (tFn (sp_is_count K) E0 (tCons (tVar 3) tNil)))) tNever tNext)
  (tSeq (tIfS (tAnd (tTest (tOp rEq (tVar 3) (tC (.int 0)))) (tTest (tOp rEq (tFn (sp_Book_zero K) E0 (tCons (tVar 1) tNil)) (tC (.str "now"))))) (tRet (tC .non)) tNext)
  (tSeq (tAsg (tCB oMax2 (tCons (tVar 3) (tCons (tC (.int 1)) tNil))) (gName 4))
  (tSeq (tIfS (tAnd (tTest (tOp oGe (tVar 4) (tFn (sp_Wheel_reach K) E0 (tCons (tVar 0) tNil)))) (tTest (tOp rEq (tFn (sp_Book_beyond K) E0 (tCons (tVar 1) tNil)) (tC (.str "refuse"))))) tNever tNext)
  (tSeq (tIfS (tAnd (tTest (tOp oGe (tVar 4) (tFn (sp_Wheel_reach K) E0 (tCons (tVar 0) tNil)))) (tTest (tOp rEq (tFn (sp_Book_beyond K) E0 (tCons (tVar 1) tNil)) (tC (.str "cut"))))) (tAsg (tOp oSub (tFn (sp_Wheel_reach K) E0 (tCons (tVar 0) tNil)) (tC (.int 1))) (gName 4)) tNext)
  (tRet (tFn (sp_spot_at K) E0 (tCons (tVar 0) (tCons (tVar 1) (tCons (tVar 2) (tCons (tVar 4) (tCons (tOp oAdd (tVar 2) (tVar 4)) tNil)))))))))))))
def n_place : List Str := ["wheel", "book", "now", "delay", "rest"]
theorem rd_place (vs : List V) (H : Hp) (Q : VK) (E : XK) (h : sp_place K vs H Q E) : t_place K w { nx := fun _ H' => Q .non H', rt := Q } (L2.start n_place vs) H := by
  obtain ⟨a, b, now, delay, rfl, W, B, hW, hB, hn, hd, hr, q⟩ := h
  have hre : 2 ≤ reach W := (hW.ok.all (W.length - 1) (by have := hW.ok.pos; omega)).2.2.2.2
  have eW := @wh_ex K H a W hW
  have eB := @bk_ex K H b B hB
  have hb3 := hB.ok
  have key : ∀ r : Int, 0 ≤ r → (∀ v H', Same H H' → OSp H' v (some (spotAt W B now r (now + r))) → Q v H') → sp_spot_at K [.ref a, .ref b, .int now, .int r, .int (now + r)] H Q E0 :=
    fun r hr q => ⟨a, b, now, r, now + r, rfl, W, B, hW, hB, hr, fun p H' s z => q _ _ s ⟨p, rfl, z⟩⟩
  unfold t_place n_place
  walk_at "rsz"
  unfold placeM at q
  generalize hg : (if 1 > delay then 1 else delay) = r0 at q ⊢
  have h1 : 1 ≤ r0 := by rw [← hg]; split <;> omega
  have h2 : reach W ≤ r0 → B.bey ≠ 0 := fun h => hr (by rw [← hg] at h; split at h <;> omega)
  by_cases hz : delay = 0 ∧ B.zone = false
  · rw [if_pos hz] at q
    rw [if_pos hz.1, if_pos hz.2]
    exact q _ _ (Same.refl H) rfl
  · rw [if_neg hz] at q
    dsimp only at q
    by_cases hl : reach W ≤ r0
    · have hb := h2 hl
      by_cases hc : 2 ≤ B.bey
      · have q' := key (reach W - 1) (by omega) (by have := q; rw [if_pos ⟨hl, by omega⟩] at this; exact this)
        repeat' (refine ite2 (fun _ => ?_) fun _ => ?_)
        all_goals first | exact q' | (exact absurd ⟨by assumption, by assumption⟩ hz) | (exfalso; omega)
      · have q' := key r0 (by omega) (by have := q; rw [if_neg (fun z : reach W ≤ r0 ∧ B.bey = 2 => hc (by omega))] at this; exact this)
        repeat' (refine ite2 (fun _ => ?_) fun _ => ?_)
        all_goals first | exact q' | (exact absurd ⟨by assumption, by assumption⟩ hz) | (exfalso; omega)
    · have q' := key r0 (by omega) (by have := q; rw [if_neg (fun z : reach W ≤ r0 ∧ B.bey = 2 => hl z.1)] at this; exact this)
      repeat' (refine ite2 (fun _ => ?_) fun _ => ?_)
      all_goals first | exact q' | (exact absurd ⟨by assumption, by assumption⟩ hz) | (exfalso; omega)
def sp_taken_out (K : Frag) : Sp := fun vs H Q _ => ∃ (a b p : Addr) (tick : Int), vs = [.ref a, .ref b, .ref p, .int tick] ∧ ∃ W B sp, WhAt K H a W ∧ BkAt K H b B ∧ SpAt H p sp ∧ ∀ v H', Same H H' → OSp H' v (taken W B sp tick) → Q v H'
local macro_rules | `(tactic| walk_at "rst") => `(tactic| simp only [*, at3_0, at3_1, at3_2, at2_0, at2_1, and_assoc, not_true_eq_false, not_false_eq_true, tNever, List.length_map, tFld, rIxTH, rIxLH, rLenTH, rLenLH, lk1, lfs_g, lfs_s, lfs_p, HO.ins.injEq, HO.tup.injEq, HO.lst.injEq, sp_Book_rounding, sp_Book_action, sp_Book_order, sp_Book_due, sp_Book_zero, sp_Book_beyond, Int.toNat_natCast, sp_visit_after, sp_is_visited, sp_Level_grain, sp_Level_slots, sp_Level_span, sp_Wheel_reach, sp_Wheel___len__, sp_is_integer, sp_is_count, sp_is_within, sp_rounded, tSeq, tAsg, gName, tVar, tC, tOp, rI, rI0, rU, tUn, oAdd, oSub, oMul, oDiv, oMod, oNeg, oLt, oLe, oGt, oGe, oIsN, oNotN, tFn, tCons, tNil, tIfS, tIf, tTest, tB, tNot, tAnd, tOr, tAndV, tOrV, tNotV,
    tRet, tRetN, tNext, tCB, tDrop, tChain, rEq, rNe, oMax2, oMin2, oInt1, rLenF, L2.start, List.map_cons, List.map_nil, List.length_cons, List.length_nil, List.replicate_succ, List.replicate_zero, List.cons_append, List.nil_append, Nat.reduceAdd, Nat.reduceSub, Nat.zero_add,
    List.set_cons_zero, List.set_cons_succ, List.getElem?_cons_zero, List.getElem?_cons_succ, Option.some.injEq, V.int.injEq, V.ref.injEq, V.str.injEq, V.bl.injEq, exists_eq_left', exists_eq_left, exists_and_left, List.cons.injEq, and_true, true_and, decide_eq_true_eq, sc_ii, sc_ss, sc_bb, sc_ni, sc_in, sc_nn, sc_is, reduceCtorEq,
    Bool.not_eq_true', decide_eq_false_iff_not, if_true, if_false, Bool.false_eq_true, exists_eq', exists_const, false_and, and_false, or_false, false_or, exists_false, Bool.not_not, Bool.not_true, Bool.not_false, sUp_up, sFire_fire, sHigh_high, sPut_put, sZone_now, sBey_refuse, sBey_cut, tTup, tLst, sz0, sz1, sz2, sz3, sz4, sz5, sz6])
def t_taken_out (K : Frag) (w : World) : TS :=
  (tSeq (tIfS (tOr (tTest (tOp rEq (tOp rIxTH (tVar 2) (tC (.int 0))) (tC (.int 0)))) (tTest (tOp rEq (tFn (sp_Book_action K) E0 (tCons (tVar 1) tNil)) (tC (.str "fire"))))) (tRet (tC .non)) tNext)
  (tSeq (tAsg (tOp rIxTH (tVar 2) (tC (.int 2))) (gName 4))
  (tSeq (tIfS (tTest (tOp oGt (tVar 4) (tVar 3))) (tRet (tFn (sp_spot_at K) E0 (tCons (tVar 0) (tCons (tVar 1) (tCons (tVar 3) (tCons (tOp oSub (tVar 4) (tVar 3)) (tCons (tVar 4) tNil))))))) tNext)
  (tSeq (tIfS (tTest (tOp rEq (tFn (sp_Book_due K) E0 (tCons (tVar 1) tNil)) (tC (.str "put")))) (tRet (tTup (tCons (tC (.int 0)) (tCons (tVar 3) (tCons (tVar 4) tNil))))) tNext)
  (tRet (tC .non))))))
def n_taken_out : List Str := ["wheel", "book", "spot", "tick", "due"]
theorem rd_taken_out (vs : List V) (H : Hp) (Q : VK) (E : XK) (h : sp_taken_out K vs H Q E) : t_taken_out K w { nx := fun _ H' => Q .non H', rt := Q } (L2.start n_taken_out vs) H := by
  obtain ⟨a, b, p, tick, rfl, W, B, sp, hW, hB, hS, q⟩ := h
  have eB := @bk_ex K H b B hB
  have hS' := hS
  unfold SpAt at hS'
  unfold t_taken_out n_taken_out
  unfold taken at q
  walk_at "rst"
  by_cases h0 : (sp.lv : Int) = 0
  · rw [if_pos (.inl (by omega))] at q
    rw [if_pos h0]
    exact q _ _ (Same.refl H) rfl
  · rw [if_neg h0]
    by_cases h1 : B.fire = true
    · rw [if_pos (.inr h1)] at q
      rw [if_pos h1]
      exact q _ _ (Same.refl H) rfl
    · rw [if_neg (fun z => z.elim (fun z => h0 (by omega)) h1)] at q
      rw [if_neg h1]
      refine ite2 (fun h2 => ?_) fun h2 => ?_
      · rw [if_pos h2] at q
        exact ⟨a, b, tick, sp.due - tick, sp.due, rfl, W, B, hW, hB, by omega, fun p' H' s z => q _ _ s ⟨p', rfl, z⟩⟩
      · rw [if_neg h2] at q
        refine ite2 (fun h3 => ?_) fun h3 => ?_
        · rw [if_pos h3] at q
          exact fun p' hp => q _ _ (Same.new hp) ⟨p', rfl, upd_same⟩
        · rw [if_neg h3] at q
          exact q _ _ (Same.refl H) rfl
def ordV (W : List Lv) (B : Bk) : List V := (order W B).map fun i => V.int (i : Nat)
def sp_level_order (K : Frag) : Sp := fun vs H Q _ => ∃ (a b : Addr), vs = [.ref a, .ref b] ∧ ∃ W B, WhAt K H a W ∧ BkAt K H b B ∧ ∀ p H', Same H H' → H p = none → H' p = some (.lst (ordV W B)) → Q (.ref p) H'
def t_level_order (K : Frag) (w : World) : TS :=
  (tSeq (tAsg (tLstRg (tRg1 (tCB (rLenF (sp_Wheel___len__ K) E0) (tCons (tVar 0) tNil)))) (gName 2))
  (tSeq (tIfS (tTest (tOp rEq (tFn (sp_Book_order K) E0 (tCons (tVar 1) tNil)) (tC (.str "high")))) (tRet (tRevL K (tVar 2))) tNext)
  (tRet (tVar 2))))
def n_level_order : List Str := ["wheel", "book", "indices"]
theorem rd_level_order (vs : List V) (H : Hp) (Q : VK) (E : XK) (h : sp_level_order K vs H Q E) : t_level_order K w { nx := fun _ H' => Q .non H', rt := Q } (L2.start n_level_order vs) H := by
  obtain ⟨a, b, rfl, W, B, hW, hB, q⟩ := h
  have eW := @wh_ex K H a W hW
  have hl := hW.ok.len
  have e1 : rgV 0 (W.length : Int) = (List.range W.length).map fun i => V.int (i : Nat) := by
    unfold rgV
    rw [show ((W.length : Int) - 0).toNat = W.length by omega]
    refine List.map_congr_left fun i _ => ?_
    rw [Int.zero_add]
  unfold t_level_order n_level_order tLstRg tRg1 tRevL
  walk_at "rst"
  refine ⟨by omega, by omega, RgOk.of_le (by omega) (by omega) (by omega) (by omega), fun p hp => ?_⟩
  have s := Same.new (o := .lst (rgV 0 (W.length : Int))) hp
  have eB := @bk_ex K _ b B (hB.same s)
  unfold ordV order at q
  rw [e1] at eB s
  walk_at "rst"
  refine ite2 (fun h1 => ?_) fun h1 => ?_
  · rw [if_pos h1, List.map_reverse] at q
    exact ⟨_, SqL.of upd_same, fun p' hp' => q p' _ (s.trans (Same.new hp')) (s.free hp') upd_same⟩
  · rw [if_neg h1] at q
    exact q p _ s hp upd_same
def sp_visited (K : Frag) : Sp := fun vs H Q _ => ∃ (a b p : Addr) (before now : Int), vs = [.ref a, .ref b, .ref p, .int before, .int now] ∧ ∃ W B sp, WhAt K H a W ∧ BkAt K H b B ∧ SpAt H p sp ∧
  ∀ f xs H', Same H H' → H f = none → H' f = some (.lst xs) → OSps H' xs (visited W B sp before now) → Q (.ref f) H'
def t_visited (K : Frag) (w : World) : TS :=
  (tSeq (tAsg (tLst tNil) (gName 5))
  (tSeq (tFor (iList K (tFn (sp_level_order K) E0 (tCons (tVar 0) (tCons (tVar 1) tNil)))) (gName 6)
    (tIfS (tAnd (tTest (tOp rEq (tOp rIxTH (tVar 2) (tC (.int 0))) (tVar 6))) (tB (tFn (sp_is_visited K) E0 (tCons (tFn (sp_Wheel___getitem__ K) E0 (tCons (tVar 0) (tCons (tVar 6) tNil))) (tCons (tOp rIxTH (tVar 2) (tC (.int 1))) (tCons (tVar 3) (tCons (tVar 4) tNil))))))) (tSeq (tAsg (tFn (sp_taken_out K) E0 (tCons (tVar 0) (tCons (tVar 1) (tCons (tVar 2) (tCons (tVar 4) tNil))))) (gName 2))
  (tSeq (tDrop (tBM K "list" rAppend (tVar 5) (tCons (tVar 2) tNil)))
  (tIfS (tTest (tOp oIsN (tVar 2) (tC .non))) (tRet (tVar 5)) tNext))) tNext))
  (tRet (tVar 5))))
def n_visited : List Str := ["wheel", "book", "spot", "before", "now", "found", "index"]
def visInv (K : Frag) (W : List Lv) (B : Bk) (sp : Spot) (before now : Int) (a b f qd : Addr) (H : Hp) (i : Nat) (σ : L2.St) (H' : Hp) : Prop :=
  ∃ (p' : Addr) (sp' : Spot) (v6 : Option V) (xs : List V) (os : List (Option Spot)), σ = [some (.ref a), some (.ref b), some (.ref p'), some (.int before), some (.int now), some (.ref f), v6] ∧ Same H H' ∧ H' qd = some (.lst (ordV W B)) ∧
      H' f = some (.lst xs) ∧ xs.length ≤ i ∧ SpAt H' p' sp' ∧ OSps H' xs os ∧ visited W B sp before now = os ++ visGo W B before now ((order W B).drop i) sp'
theorem rd_visited (vs : List V) (H : Hp) (Q : VK) (E : XK) (h : sp_visited K vs H Q E) : t_visited K w { nx := fun _ H' => Q .non H', rt := Q } (L2.start n_visited vs) H := by
  obtain ⟨a, b, p, before, now, rfl, W, B, sp, hW, hB, hS, q⟩ := h
  have hl5 := hW.ok.len
  unfold t_visited n_visited tBM rAppend
  walk_at "rst"
  intro f hf
  have s0 := Same.new (o := .lst []) hf
  refine ⟨_, rfl, _, rfl, a, b, rfl, W, B, hW.same s0, hB.same s0, fun qd H1 s1 hqn hq => ?_⟩
  have hqf : qd ≠ f := fun e => by rw [e, upd_same] at hqn; cases hqn
  refine ⟨qd, rfl, ⟨_, SqL.of hq⟩, for_list (xs := ordV W B) (visInv K W B sp before now a b f qd H)
    ⟨p, sp, none, [], [], rfl, s0.trans s1, hq, s1 _ _ upd_same, Nat.le_refl _, (hS.same s0).same s1, OSps.nil, rfl⟩ (fun i σ H' _ ⟨_, _, _, _, _, _, _, h, _⟩ => SqL.of h) ?_ ?_⟩
  · rintro i x σ H2 hx ⟨p', sp', v6, xs, os, rfl, s2, h1, h2, h3, h4, h5, h6⟩
    obtain ⟨j, hj, rfl⟩ : ∃ j, (order W B)[i]? = some j ∧ x = V.int (j : Nat) := by
      unfold ordV at hx
      rw [List.getElem?_map] at hx
      cases e : (order W B)[i]? with
      | none => rw [e] at hx; cases hx
      | some c => rw [e] at hx; exact ⟨c, rfl, (Option.some.inj hx).symm⟩
    have hi := (List.getElem?_eq_some_iff.mp hj).1
    have hjW : j < W.length := mem_order.mp (List.mem_of_getElem? hj)
    have hol : (order W B).length = W.length := by unfold order; split <;> simp
    have hdr : (order W B).drop i = j :: (order W B).drop (i + 1) := by
      rw [List.drop_eq_getElem_cons hi]
      rw [(List.getElem?_eq_some_iff.mp hj).2]
    rw [hdr] at h6
    unfold visGo at h6
    have hS2 := h4
    unfold SpAt at hS2
    have hW2 := hW.same s2
    walk_at "rst"
    refine ite2 (fun ht => ?_) fun ht => ?_
    · refine ⟨a, j, rfl, W, hW2, by omega, by omega, fun c hc => ?_⟩
      have eL := @lv_ex K H2 c (lv W j) hc
      walk_at "rst"
      refine ite2 (fun hv => ?_) fun hv => ?_
      · rw [if_pos ⟨by omega, hv⟩] at h6
        refine ⟨a, b, p', now, rfl, W, B, sp', hW2, hB.same s2, h4, fun v H3 s3 ho => ?_⟩
        have hf3 := s3 _ _ h2
        refine ⟨.inl ⟨rfl, xs, SqL.of hf3⟩, xs, hf3, by have : sizeLine = 16777216 := rfl; omega, ?_⟩
        have s4 : Same H (upd H3 f (.lst (xs ++ [v]))) := Same.updN (s2.trans s3) hf
        have hx4 : OSps (upd H3 f (.lst (xs ++ [v]))) (xs ++ [v]) (os ++ [taken W B sp' now]) := ((h5.same s3).updL hf3).snoc (ho.updL hf3)
        cases hk : taken W B sp' now with
        | none =>
          rw [hk] at ho h6 hx4
          have ev : v = .non := ho
          subst ev
          walk_at "rst"
          exact q f _ _ s4 hf upd_same (by rw [h6]; exact hx4)
        | some s' =>
          rw [hk] at ho h6 hx4
          obtain ⟨p2, ev, hp2⟩ := id ho
          subst ev
          have hq3 := s3 _ _ h1
          have hfin : visInv K W B sp before now a b f qd H (i + 1) [some (.ref a), some (.ref b), some (.ref p2), some (.int before), some (.int now), some (.ref f), some (.int (j : Nat))] (upd H3 f (.lst (xs ++ [.ref p2]))) :=
            ⟨p2, s', _, _, _, rfl, s4, by rw [upd_ne hqf]; exact hq3, upd_same, by simp; exact h3, (by
              unfold SpAt at hp2 ⊢
              rw [upd_ne (fun e => by rw [e, hf3] at hp2; cases hp2)]
              exact hp2), hx4, by rw [h6, List.append_assoc]; rfl⟩
          walk_at "rst"
      · rw [if_neg (fun z => hv z.2)] at h6
        exact ⟨p', sp', _, xs, os, rfl, s2, h1, h2, by omega, h4, h5, h6⟩
    · rw [if_neg (fun z => ht (by rw [z.1]))] at h6
      exact ⟨p', sp', _, xs, os, rfl, s2, h1, h2, by omega, h4, h5, h6⟩
  · rintro σ H2 ⟨p', sp', v6, xs, os, rfl, s2, h1, h2, h3, h4, h5, h6⟩
    exact ⟨_, rfl, q f xs H2 s2 hf h2 (by
      rw [h6, List.drop_of_length_le (by unfold ordV; simp)]
      simpa [visGo] using h5)⟩
def sp_skipped (K : Frag) : Sp := fun vs H Q _ => ∃ (a p : Addr) (tick : Int) (lim : Option Int), vs = [.ref a, .ref p, .int tick, optV lim] ∧ ∃ W sp, WhAt K H a W ∧ SpAt H p sp ∧ sp.lv < W.length ∧
  ∀ f H', Same H H' → H' f = some (.tup [.int (skipped W sp tick lim).1, .int (skipped W sp tick lim).2]) → Q (.ref f) H'
def t_skipped (K : Frag) (w : World) : TS :=
  (tSeq (tAsg (tOp oSub (tOp rIxTH (tVar 1) (tC (.int 2))) (tVar 2)) (gName 4))
  (tSeq (tIfS (tOr (tTest (tOp rNe (tOp rIxTH (tVar 1) (tC (.int 0))) (tOp oSub (tCB (rLenF (sp_Wheel___len__ K) E0) (tCons (tVar 0) tNil)) (tC (.int 1))))) (tTest (tOp oLt (tVar 4) (tFn (sp_Wheel_reach K) E0 (tCons (tVar 0) tNil))))) (tRet (tTup (tCons (tC (.int 0)) (tCons (tC (.int 0)) tNil)))) tNext)
  (tSeq (tAsg (tOp oSub (tFn (sp_visit_after K) E0 (tCons (tFn (sp_Wheel___getitem__ K) E0 (tCons (tVar 0) (tCons (tOp rIxTH (tVar 1) (tC (.int 0))) tNil))) (tCons (tOp rIxTH (tVar 1) (tC (.int 1))) (tCons (tVar 2) tNil)))) (tVar 2)) (gName 5))
  (tSeq (tAsg (tOp oDiv (tOp oSub (tVar 4) (tFn (sp_Wheel_reach K) E0 (tCons (tVar 0) tNil))) (tVar 5)) (gName 6))
  (tSeq (tIfS (tTest (tOp oNotN (tVar 3) (tC .non))) (tAsg (tCB oMin2 (tCons (tCB oInt1 (tCons (tVar 6) tNil)) (tCons (tCB oInt1 (tCons (tOp oDiv (tOp oSub (tVar 3) (tVar 2)) (tVar 5)) tNil)) tNil))) (gName 6)) tNext)
  (tRet (tTup (tCons (tVar 6) (tCons (tVar 5) tNil)))))))))
def n_skipped : List Str := ["wheel", "spot", "tick", "limit", "rest", "step", "many"]
theorem va_le {l : Lv} (hg : 0 < l.g) (hs : 0 < l.s) (pt now : Int) : va l pt now - now ≤ l.s * l.g := by
  unfold va
  have h1 : (pt - now / l.g - 1) % l.s < l.s := Int.emod_lt_of_pos _ hs
  have h2 : (now / l.g + 1 + (pt - now / l.g - 1) % l.s) * l.g ≤ (now / l.g + l.s) * l.g := Int.mul_le_mul_of_nonneg_right (by omega) (by omega)
  have h3 : now / l.g * l.g ≤ now := Int.ediv_mul_le now (by omega)
  rw [Int.add_mul (now / l.g) l.s l.g] at h2
  omega
theorem va_small {W : List Lv} (ok : WOk W) {i : Nat} (hi : i < W.length) (pt now : Int) : CDiv 0 (va (lv W i) pt now - now) := by
  have ha := ok.all _ hi
  have h1 := va_gt (l := lv W i) (by omega) (by omega) pt now
  have h2 := va_le (l := lv W i) (by omega) (by omega) pt now
  have h3 : (lv W i).s * (lv W i).g ≤ 100 * 1000 := Int.mul_le_mul (by omega) (by omega) (by omega) (by omega)
  exact ⟨by omega, by omega⟩
theorem rd_skipped (vs : List V) (H : Hp) (Q : VK) (E : XK) (h : sp_skipped K vs H Q E) : t_skipped K w { nx := fun _ H' => Q .non H', rt := Q } (L2.start n_skipped vs) H := by
  obtain ⟨a, p, tick, lim, rfl, W, sp, hW, hS, hlv, q⟩ := h
  have hp := hW.ok.pos
  have hl5 := hW.ok.len
  have hS2 := hS
  unfold SpAt at hS2
  have eW := @wh_ex K H a W hW
  have key : ∀ x, CDiv x (va (lv W sp.lv) sp.pt tick - tick) := fun x => va_small hW.ok hlv sp.pt tick
  unfold skipped at q
  unfold t_skipped n_skipped
  walk_at "rst"
  refine ⟨by omega, by omega, ite2 (fun h1 => ?_) fun h1 => ite2 (fun h2 => ?_) fun h2 => ?_⟩
  · rw [if_pos (.inl (by omega))] at q
    exact fun f hf => q f _ (Same.new hf) upd_same
  · rw [if_pos (.inr (by omega))] at q
    exact fun f hf => q f _ (Same.new hf) upd_same
  · rw [if_neg (fun z => z.elim (fun z => h1 fun e => z (by omega)) h2)] at q
    refine ⟨a, sp.lv, rfl, W, hW, by omega, by omega, fun c hc => ?_⟩
    have eL := @lv_ex K H c (lv W sp.lv) hc
    cases lim with
    | none =>
      unfold optV
      walk_at "rst"
      exact fun f hf => q f _ (Same.new hf) upd_same
    | some l =>
      unfold optV
      walk_at "rst"
      intro f hf
      refine q f _ (Same.new hf) ?_
      dsimp only
      rw [upd_same]
      have e : min ((sp.due - tick - reach W) / (va (lv W sp.lv) sp.pt tick - tick)) ((l - tick) / (va (lv W sp.lv) sp.pt tick - tick)) = if (l - tick) / (va (lv W sp.lv) sp.pt tick - tick) < (sp.due - tick - reach W) / (va (lv W sp.lv) sp.pt tick - tick) then (l - tick) / (va (lv W sp.lv) sp.pt tick - tick) else (sp.due - tick - reach W) / (va (lv W sp.lv) sp.pt tick - tick) := by
        split <;> omega
      rw [e]
def sp_shifted (K : Frag) : Sp := fun vs H Q _ => ∃ (a b p : Addr) (tick : Int), vs = [.ref a, .ref b, .ref p, .int tick] ∧ ∃ W B sp, WhAt K H a W ∧ BkAt K H b B ∧ SpAt H p sp ∧ tick ≤ sp.due ∧
  ∀ p' H', Same H H' → SpAt H' p' (spotAt W B tick (sp.due - tick) sp.due) → Q (.ref p') H'
def t_shifted (K : Frag) (w : World) : TS :=
  (tRet (tFn (sp_spot_at K) E0 (tCons (tVar 0) (tCons (tVar 1) (tCons (tVar 3) (tCons (tOp oSub (tOp rIxTH (tVar 2) (tC (.int 2))) (tVar 3)) (tCons (tOp rIxTH (tVar 2) (tC (.int 2))) tNil)))))))
def n_shifted : List Str := ["wheel", "book", "spot", "tick"]
theorem rd_shifted (vs : List V) (H : Hp) (Q : VK) (E : XK) (h : sp_shifted K vs H Q E) : t_shifted K w { nx := fun _ H' => Q .non H', rt := Q } (L2.start n_shifted vs) H := by
  obtain ⟨a, b, p, tick, rfl, W, B, sp, hW, hB, hS, hd, q⟩ := h
  have hS2 := hS
  unfold SpAt at hS2
  unfold t_shifted n_shifted
  walk_at "rst"
  exact ⟨a, b, tick, sp.due - tick, sp.due, rfl, W, B, hW, hB, by omega, q⟩
theorem OSps.last {H : Hp} {xs : List V} {os : List (Option Spot)} {o : Option Spot} (h : OSps H xs os) (e : os.getLast? = some o) : ∃ v, xs.getLast? = some v ∧ OSp H v o := by
  have hne : os ≠ [] := fun z => by rw [z] at e; simp at e
  have hpos : 0 < os.length := List.length_pos_iff.mpr hne
  have hl := h.1
  rw [List.getLast?_eq_getElem?] at e ⊢
  have hx : xs.length - 1 < xs.length := by omega
  refine ⟨xs[xs.length - 1], List.getElem?_eq_getElem hx, h.2 _ _ _ (List.getElem?_eq_getElem hx) (by rw [hl]; exact e)⟩
theorem while_true {tb : TS} {D : Ends} {σ : L2.St} {H : Hp} (M : Nat → L2.St → Hp → Prop) (h0 : ∃ m, M m σ H)
    (hs : ∀ m σ H, M m σ H → ∃ n, m = n + 1 ∧ tb { D with nx := M n, ct := M n, bk := D.nx } σ H) : tWhile (tB (tC (.bl true))) tb D σ H := by
  refine ⟨M, h0, fun m σ H hm => ?_⟩
  obtain ⟨n, rfl, ht⟩ := hs m σ H hm
  refine ⟨true, rfl, ?_⟩
  dsimp only
  rw [if_pos rfl]
  exact ⟨M n, fun σ' H' q => ⟨n, by omega, q⟩, ht⟩
def sp_followed (K : Frag) : Sp := fun vs H Q _ => ∃ (a b p : Addr) (before : Int) (lim : Option Int), vs = [.ref a, .ref b, .ref p, .int before, optV lim] ∧ ∃ W B sp, WhAt K H a W ∧ BkAt K H b B ∧ SpAt H p sp ∧ sp.lv < W.length ∧
  ∀ n r, fol W B lim n sp before 0 = some r → ∀ v f H', Same H H' → OSp H' v r.1 → H' f = some (.tup [v, .int r.2.1, .int r.2.2]) → Q (.ref f) H'
def folInv (W : List Lv) (B : Bk) (lim : Option Int) (a b : Addr) (before : Int) (H : Hp) (r : Res) (m : Nat) (σ : L2.St) (H' : Hp) : Prop :=
  ∃ (p' : Addr) (sp' : Spot) (tick mv : Int) (v7 v8 v9 v10 : Option V), σ = [some (.ref a), some (.ref b), some (.ref p'), some (.int before), some (optV lim), some (.int tick), some (.int mv), v7, v8, v9, v10] ∧ Same H H' ∧ SpAt H' p' sp' ∧ sp'.lv < W.length ∧ fol W B lim m sp' tick mv = some r
theorem limSplit {lim : Option Int} {t : Int} {A C : Prop} (h1 : over lim t = true → A) (h2 : over lim t = false → C) : if ¬optV lim = V.non then ∃ x, optV lim = V.int x ∧ if x < t then A else C else C := by
  cases lim with
  | none => rw [if_neg (fun z => z rfl)]; exact h2 rfl
  | some l =>
    rw [if_pos (by unfold optV; intro e; cases e)]
    refine ⟨l, rfl, ite2 (fun h => h1 (decide_eq_true h)) fun h => h2 (decide_eq_false h)⟩
def t_followed (K : Frag) (w : World) : TS :=
  (tSeq (tAsg (tVar 3) (gName 5))
  (tSeq (tAsg (tC (.int 0)) (gName 6))
  (tWhile (tB (tC (.bl true)))
    (tSeq (tAsg (tFn (sp_visit_after K) E0 (tCons (tFn (sp_Wheel___getitem__ K) E0 (tCons (tVar 0) (tCons (tOp rIxTH (tVar 2) (tC (.int 0))) tNil))) (tCons (tOp rIxTH (tVar 2) (tC (.int 1))) (tCons (tVar 5) tNil)))) (gName 7))
  (tSeq (tIfS (tAnd (tTest (tOp oNotN (tVar 4) (tC .non))) (tTest (tOp oGt (tVar 7) (tVar 4)))) (tRet (tTup (tCons (tVar 2) (tCons (tVar 5) (tCons (tVar 6) tNil))))) tNext)
  (tSeq (tAsg (tFn (sp_visited K) E0 (tCons (tVar 0) (tCons (tVar 1) (tCons (tVar 2) (tCons (tOp oSub (tVar 7) (tC (.int 1))) (tCons (tVar 7) tNil)))))) (gName 8))
  (tSeq (tAsg (tVar 7) (gName 5))
  (tSeq (tIfS (tTest (tOp oIsN (tOp rIxLH (tVar 8) (tUn oNeg (tC (.int 1)))) (tC .non))) (tRet (tTup (tCons (tC .non) (tCons (tVar 5) (tCons (tOp oSub (tOp oAdd (tVar 6) (tCB rLenLH (tCons (tVar 8) tNil))) (tC (.int 1))) tNil))))) tNext)
  (tSeq (tAsg (tOp rIxLH (tVar 8) (tUn oNeg (tC (.int 1)))) (gName 2))
  (tSeq (tAsg (tOp oAdd (tVar 6) (tCB rLenLH (tCons (tVar 8) tNil))) (gName 6))
  (tSeq (tAsg (tFn (sp_skipped K) E0 (tCons (tVar 0) (tCons (tVar 2) (tCons (tVar 5) (tCons (tVar 4) tNil))))) (gTup K 2 (gCons (gName 9) (gCons (gName 10) gNil))))
  (tIfS (tTest (tOp oGt (tVar 9) (tC (.int 0)))) (tSeq (tAsg (tOp oAdd (tVar 5) (tOp oMul (tVar 9) (tVar 10))) (gName 5))
  (tSeq (tAsg (tFn (sp_shifted K) E0 (tCons (tVar 0) (tCons (tVar 1) (tCons (tVar 2) (tCons (tVar 5) tNil))))) (gName 2))
  (tAsg (tOp oAdd (tVar 6) (tVar 9)) (gName 6)))) tNext))))))))))))
def n_followed : List Str := ["wheel", "book", "spot", "before", "limit", "tick", "moves", "at", "found", "many", "step"]
theorem rd_followed (vs : List V) (H : Hp) (Q : VK) (E : XK) (h : sp_followed K vs H Q E) : t_followed K w { nx := fun _ H' => Q .non H', rt := Q } (L2.start n_followed vs) H := by
  obtain ⟨a, b, p, before, lim, rfl, W, B, sp, hW, hB, hS, hlv, q⟩ := h
  obtain ⟨r, hr⟩ := fol_ends hW.ok B lim (mu sp before) sp before 0 hlv (Nat.le_refl _)
  have q := q _ r hr
  refine ⟨_, rfl, ?_⟩
  refine while_true (folInv W B lim a b before H r) ⟨_, p, sp, before, 0, none, none, none, none, rfl, Same.refl H, hS, hlv, hr⟩ ?_
  rintro m σ H1 ⟨p', sp', tick, mv, v7, v8, v9, v10, rfl, s1, hS1, hl1, hf⟩
  cases m with
  | zero => cases hf
  | succ n =>
  refine ⟨n, rfl, ?_⟩
  have hW1 := hW.same s1
  have hB1 := hB.same s1
  have hS2 := hS1
  unfold SpAt at hS2
  unfold fol at hf
  unfold gTup gCons gNil
  walk_at "rst"
  refine ⟨a, sp'.lv, rfl, W, hW1, by omega, by omega, fun c hc => ?_⟩
  have eL := @lv_ex K H1 c (lv W sp'.lv) hc
  walk_at "rst"
  refine limSplit (fun ho => ?_) fun ho => ?_
  · dsimp only at hf
    rw [if_pos ho] at hf
    obtain rfl := Option.some.inj hf
    exact fun f hfn => q _ f _ (s1.trans (Same.new hfn)) ⟨p', rfl, hS1.same (Same.new hfn)⟩ upd_same
  · dsimp only at hf
    rw [if_neg (by rw [ho]; decide)] at hf
    refine ⟨a, b, p', _, _, rfl, W, B, sp', hW1, hB1, hS1, fun f xs H2 s2 hfn hx hos => ?_⟩
    cases hlast : (visited W B sp' (va (lv W sp'.lv) sp'.pt tick - 1) (va (lv W sp'.lv) sp'.pt tick)).getLast? with
    | none => rw [hlast] at hf; cases hf
    | some o =>
      rw [hlast] at hf
      obtain ⟨v, hv, hov⟩ := hos.last hlast
      have hat := atI_m1 hv
      have hlen := hos.1
      have s3 := s1.trans s2
      cases o with
      | none =>
        have ev : v = .non := hov
        subst ev
        have hf2 := Option.some.inj hf
        clear hf
        subst hf2
        walk_at "rst"
        exact fun f2 hf2 => q _ f2 _ (s3.trans (Same.new hf2)) rfl (by rw [upd_same])
      | some sp2 =>
        obtain ⟨p2, ev, hp2⟩ := id hov
        subst ev
        obtain ⟨c1, c2, c3, c4⟩ := visGo_last hW.ok _ hlast
        dsimp only at hf
        walk_at "rst"
        refine ⟨a, p2, _, lim, rfl, W, sp2, hW.same s3, hp2, c1, fun f2 H3 s4 hf2 => ?_⟩
        refine ⟨f2, rfl, _, SqT.of hf2, rfl, ?_⟩
        have hp3 := hp2.same s4
        have s5 := s3.trans s4
        have hsm := va_small hW.ok c1 sp2.pt (va (lv W sp'.lv) sp'.pt tick)
        have hk : CMul (skipped W sp2 (va (lv W sp'.lv) sp'.pt tick) lim).1 (skipped W sp2 (va (lv W sp'.lv) sp'.pt tick) lim).2 := by
          refine .inr ?_
          obtain ⟨z1, z2⟩ := hsm
          unfold skipped
          split
          · exact ⟨by decide, by decide⟩
          · cases lim <;> exact ⟨by dsimp only; omega, by dsimp only; omega⟩
        have hdue : 0 < (skipped W sp2 (va (lv W sp'.lv) sp'.pt tick) lim).1 → va (lv W sp'.lv) sp'.pt tick + (skipped W sp2 (va (lv W sp'.lv) sp'.pt tick) lim).1 * (skipped W sp2 (va (lv W sp'.lv) sp'.pt tick) lim).2 ≤ sp2.due := by
          intro hk0
          obtain ⟨k1, k2, k3, k4⟩ := skipped_pos hk0
          rw [k3]
          have h1 := Int.mul_le_mul_of_nonneg_right (c := va (lv W sp2.lv) sp2.pt (va (lv W sp'.lv) sp'.pt tick) - va (lv W sp'.lv) sp'.pt tick) k4 (by have := hsm.1; omega)
          have h2 := Int.ediv_mul_le (sp2.due - va (lv W sp'.lv) sp'.pt tick - reach W) (b := va (lv W sp2.lv) sp2.pt (va (lv W sp'.lv) sp'.pt tick) - va (lv W sp'.lv) sp'.pt tick) (by have := hsm.1; omega)
          have h3 : 2 ≤ reach W := (hW.ok.all (W.length - 1) (by have := hW.ok.pos; omega)).2.2.2.2
          omega
        generalize hkk : skipped W sp2 (va (lv W sp'.lv) sp'.pt tick) lim = kk at hf hk hdue
        walk_at "rst"
        refine ite2 (fun h0 => ?_) fun h0 => ?_
        · rw [if_pos h0] at hf
          refine ⟨a, b, p2, _, rfl, W, B, sp2, hW.same s5, hB.same s5, hp3, hdue h0, fun p4 H4 s6 hp4 => ?_⟩
          exact ⟨p4, _, _, _, _, _, _, _, rfl, s5.trans s6, hp4, spotAt_lt hW.ok _ _ _ _, hf⟩
        · rw [if_neg h0] at hf
          exact ⟨p2, sp2, _, _, _, _, _, _, rfl, s5, hp3, c1, hf⟩
/-- the tick at which a timer fires, and how often it is moved -/
def fin (W : List Lv) (B : Bk) (start delay : Int) : Int × Int := match placeM W B start delay with
  | none => (start, 0)
  | some sp => match fol W B none (mu sp start) sp start 0 with
    | none => (0, 0)
    | some r => r.2
theorem fin_none {W : List Lv} {B : Bk} {start delay : Int} (h : placeM W B start delay = none) : fin W B start delay = (start, 0) := by
  unfold fin
  rw [h]
theorem fol_mono {W : List Lv} {B : Bk} {lim : Option Int} : ∀ (n : Nat) {sp : Spot} {tick mv : Int} {r : Res}, fol W B lim n sp tick mv = some r → ∀ m, n ≤ m → fol W B lim m sp tick mv = some r
  | 0, _, _, _, _, h, _, _ => by cases h
  | n + 1, sp, tick, mv, r, h, m, hm => by
    obtain ⟨m, rfl⟩ : ∃ k, m = k + 1 := ⟨m - 1, by omega⟩
    unfold fol at h ⊢
    dsimp only at h ⊢
    split at h
    · rename_i h1
      rw [if_pos h1]; exact h
    · rename_i h1
      rw [if_neg h1]
      split at h
      · cases h
      · exact h
      · split at h
        · rename_i h2
          rw [if_pos h2]; exact fol_mono n h m (by omega)
        · rename_i h2
          rw [if_neg h2]; exact fol_mono n h m (by omega)
theorem fin_some {W : List Lv} {B : Bk} {start delay : Int} {sp : Spot} {n : Nat} {r : Res} (h : placeM W B start delay = some sp) (ok : WOk W) (hl : sp.lv < W.length) (hf : fol W B none n sp start 0 = some r) : fin W B start delay = r.2 := by
  unfold fin
  rw [h]
  obtain ⟨r', hr'⟩ := fol_ends ok B none (mu sp start) sp start 0 hl (Nat.le_refl _)
  have e1 := fol_mono _ hr' (max n (mu sp start)) (Nat.le_max_right _ _)
  have e2 := fol_mono _ hf (max n (mu sp start)) (Nat.le_max_left _ _)
  rw [e1] at e2
  obtain rfl := Option.some.inj e2
  dsimp only
  rw [hr']
theorem placeM_lt {W : List Lv} (ok : WOk W) {B : Bk} {now delay : Int} {sp : Spot} (h : placeM W B now delay = some sp) : sp.lv < W.length := by
  unfold placeM at h
  split at h
  · cases h
  · obtain rfl := Option.some.inj h
    exact spotAt_lt ok _ _ _ _
def sp_fire_tick (K : Frag) : Sp := fun vs H Q _ => ∃ (a b : Addr) (now delay : Int), vs = [.ref a, .ref b, .int now, .int delay] ∧ ∃ W B, WhAt K H a W ∧ BkAt K H b B ∧ 0 ≤ now ∧ 0 ≤ delay ∧ (reach W ≤ delay → B.bey ≠ 0) ∧
  ∀ H', Same H H' → Q (.int (fin W B now delay).1) H'
def t_fire_tick (K : Frag) (w : World) : TS :=
  (tSeq (tAsg (tFn (sp_place K) E0 (tCons (tVar 0) (tCons (tVar 1) (tCons (tVar 2) (tCons (tVar 3) tNil))))) (gName 4))
  (tSeq (tIfS (tTest (tOp oIsN (tVar 4) (tC .non))) (tRet (tVar 2)) tNext)
  (tRet (tOp rIxTH (tFn (sp_followed K) E0 (tCons (tVar 0) (tCons (tVar 1) (tCons (tVar 4) (tCons (tVar 2) (tCons (tC .non) tNil)))))) (tC (.int 1))))))
def n_fire_tick : List Str := ["wheel", "book", "start", "delay", "spot"]
theorem rd_fire_tick (vs : List V) (H : Hp) (Q : VK) (E : XK) (h : sp_fire_tick K vs H Q E) : t_fire_tick K w { nx := fun _ H' => Q .non H', rt := Q } (L2.start n_fire_tick vs) H := by
  obtain ⟨a, b, now, delay, rfl, W, B, hW, hB, hn, hd, hr, q⟩ := h
  unfold t_fire_tick n_fire_tick
  walk_at "rst"
  refine ⟨a, b, now, delay, rfl, W, B, hW, hB, hn, hd, hr, fun v H1 s1 ho => ?_⟩
  cases hp : placeM W B now delay with
  | none =>
    rw [hp] at ho
    have ev : v = .non := ho
    subst ev
    rw [fin_none hp] at q
    walk_at "rst"

  | some sp =>
    rw [hp] at ho
    obtain ⟨p, ev, hs⟩ := ho
    subst ev
    walk_at "rst"
    refine ⟨a, b, p, now, none, rfl, W, B, sp, hW.same s1, hB.same s1, hs, placeM_lt hW.ok hp, fun n r hf v f H2 s2 _ h2 => ?_⟩
    rw [fin_some hp hW.ok (placeM_lt hW.ok hp) hf] at q
    walk_at "rst"
    exact q H2 (s1.trans s2)
def sp_moves (K : Frag) : Sp := fun vs H Q _ => ∃ (a b : Addr) (now delay : Int), vs = [.ref a, .ref b, .int now, .int delay] ∧ ∃ W B, WhAt K H a W ∧ BkAt K H b B ∧ 0 ≤ now ∧ 0 ≤ delay ∧ (reach W ≤ delay → B.bey ≠ 0) ∧
  ∀ H', Same H H' → Q (.int (fin W B now delay).2) H'
def t_moves (K : Frag) (w : World) : TS :=
  (tSeq (tAsg (tFn (sp_place K) E0 (tCons (tVar 0) (tCons (tVar 1) (tCons (tVar 2) (tCons (tVar 3) tNil))))) (gName 4))
  (tSeq (tIfS (tTest (tOp oIsN (tVar 4) (tC .non))) (tRet (tC (.int 0))) tNext)
  (tRet (tOp rIxTH (tFn (sp_followed K) E0 (tCons (tVar 0) (tCons (tVar 1) (tCons (tVar 4) (tCons (tVar 2) (tCons (tC .non) tNil)))))) (tC (.int 2))))))
def n_moves : List Str := ["wheel", "book", "start", "delay", "spot"]
theorem rd_moves (vs : List V) (H : Hp) (Q : VK) (E : XK) (h : sp_moves K vs H Q E) : t_moves K w { nx := fun _ H' => Q .non H', rt := Q } (L2.start n_moves vs) H := by
  obtain ⟨a, b, now, delay, rfl, W, B, hW, hB, hn, hd, hr, q⟩ := h
  unfold t_moves n_moves
  walk_at "rst"
  refine ⟨a, b, now, delay, rfl, W, B, hW, hB, hn, hd, hr, fun v H1 s1 ho => ?_⟩
  cases hp : placeM W B now delay with
  | none =>
    rw [hp] at ho
    have ev : v = .non := ho
    subst ev
    rw [fin_none hp] at q
    walk_at "rst"

  | some sp =>
    rw [hp] at ho
    obtain ⟨p, ev, hs⟩ := ho
    subst ev
    walk_at "rst"
    refine ⟨a, b, p, now, none, rfl, W, B, sp, hW.same s1, hB.same s1, hs, placeM_lt hW.ok hp, fun n r hf v f H2 s2 _ h2 => ?_⟩
    rw [fin_some hp hW.ok (placeM_lt hW.ok hp) hf] at q
    walk_at "rst"
    exact q H2 (s1.trans s2)
end
end Tw
namespace Tw
open PySem PySem.Spec PyProof.Rows L2 He TwM
open PySem.W (Frag)
theorem split_bws (B : Bk) (hb : B.bey < 3) : Txt.split (Txt.join " " (bws B)) " " = bws B ∧ (Txt.join " " (bws B)).length ≤ 100 := by
  obtain ⟨u, f, hi, p, z, n⟩ := B
  have key : ∀ (u f hi p z : Bool), ∀ n : Fin 3, Txt.split (Txt.join " " (bws ⟨u, f, hi, p, z, n.val⟩)) " " = bws ⟨u, f, hi, p, z, n.val⟩ ∧ (Txt.join " " (bws ⟨u, f, hi, p, z, n.val⟩)).length ≤ 100 := by decide +kernel
  exact key u f hi p z ⟨n, hb⟩
end Tw
/-! Tw: unpacking what is a list or a tuple -/
namespace Tw
open PySem PySem.Spec PyProof.Rows L2
/-- (a, b, ..) = a list or a tuple of that length -/
def gUnA (K : PySem.W.Frag) (n : Nat) (t : TGs) : TG := fun v σ H Q => ∃ a xs, v = .ref a ∧ (SqL K H a xs ∨ SqT K H a xs) ∧ xs.length = n ∧ t xs σ H Q
theorem pg_or {X : Cx} {e : Expr} {n : Nat} {t : TGs} (h1 : PG X e (gUnl X.K n t)) (h2 : PG X e (gTup X.K n t)) : PG X e (gUnA X.K n t) := by
  refine ⟨fun pins s σ H v u Q I r hw => ?_⟩
  obtain ⟨a, xs, e1, hq | hq, hl, hw⟩ := hw
  · exact h1.run pins s σ H v u Q I r ⟨a, xs, e1, hq, hl, hw⟩
  · exact h2.run pins s σ H v u Q I r ⟨a, xs, e1, hq, hl, hw⟩
end Tw
/-! Tw: readings of what makes books, levels, wheels -/
namespace Tw
open PySem PySem.Spec PyProof.Rows L2 He TwM
open PySem.W (Frag)
local macro_rules | `(tactic| walk_at "rsu") => `(tactic| simp only [*, at3_0, at3_1, at3_2, at2_0, at2_1, and_assoc, not_true_eq_false, not_false_eq_true, tNever, List.length_map, tFld, rIxTH, rIxLH, rLenTH, rLenLH, lk1, lfs_g, lfs_s, lfs_p, HO.ins.injEq, HO.tup.injEq, HO.lst.injEq, sp_Book_rounding, sp_Book_action, sp_Book_order, sp_Book_due, sp_Book_zero, sp_Book_beyond, Int.toNat_natCast, sp_visit_after, sp_is_visited, sp_Level_grain, sp_Level_slots, sp_Level_span, sp_Wheel_reach, sp_Wheel___len__, sp_is_integer, sp_is_count, sp_is_within, sp_rounded, tSeq, tAsg, gName, tVar, tC, tOp, rI, rI0, rU, tUn, oAdd, oSub, oMul, oDiv, oMod, oNeg, oLt, oLe, oGt, oGe, oIsN, oNotN, tFn, tCons, tNil, tIfS, tIf, tTest, tB, tNot, tAnd, tOr, tAndV, tOrV, tNotV,
    tRet, tRetN, tNext, tCB, tDrop, tChain, rEq, rNe, oMax2, oMin2, oInt1, rLenF, L2.start, List.map_cons, List.map_nil, List.length_cons, List.length_nil, List.replicate_succ, List.replicate_zero, List.cons_append, List.nil_append, Nat.reduceAdd, Nat.reduceSub, Nat.zero_add,
    List.set_cons_zero, List.set_cons_succ, List.getElem?_cons_zero, List.getElem?_cons_succ, Option.some.injEq, V.int.injEq, V.ref.injEq, V.str.injEq, V.bl.injEq, exists_eq_left', exists_eq_left, exists_and_left, List.cons.injEq, and_true, true_and, decide_eq_true_eq, sc_ii, sc_ss, sc_bb, sc_ni, sc_in, sc_nn, sc_is, reduceCtorEq,
    Bool.not_eq_true', decide_eq_false_iff_not, if_true, if_false, Bool.false_eq_true, exists_eq', exists_const, false_and, and_false, or_false, false_or, exists_false, Bool.not_not, Bool.not_true, Bool.not_false, sUp_up, sFire_fire, sHigh_high, sPut_put, sZone_now, sBey_refuse, sBey_cut, tTup, tLst, sz0, sz1, sz2, sz3, sz4, sz5, sz6])
section
variable {K : Frag} {w : World}
/-- all but x stays -/
def SameX (x : Addr) (H H' : Hp) : Prop := ∀ b o, b ≠ x → H b = some o → H' b = some o
theorem SameX.refl (x : Addr) (H : Hp) : SameX x H H := fun _ _ _ h => h
theorem SameX.same {x : Addr} {H H1 H2 : Hp} (h : SameX x H H1) (s : Same H1 H2) : SameX x H H2 := fun b o n e => s _ _ (h b o n e)
theorem SameX.upd {x : Addr} {H H1 : Hp} {o : HO} (h : SameX x H H1) : SameX x H (upd H1 x o) := fun b u n e => by
  rw [upd_ne n]; exact h b u n e
theorem Same.toX {x : Addr} {H H1 : Hp} (s : Same H H1) : SameX x H H1 := fun b o _ e => s b o e
/-- after a making: what stood ahead of it stays -/
theorem SameX.made {H2 H' : Hp} {x dx : Addr} {o o' : HO} (hx : H2 x = none) (hd : H2 dx = none) (h : SameX x (L2.upd (L2.upd H2 dx o) x o') H') : Same H2 H' := fun b u e => by
  have n1 : b ≠ x := ne_of_none e hx
  have n2 : b ≠ dx := ne_of_none e hd
  exact h b u n1 (by rw [upd_ne n1, upd_ne n2]; exact e)
theorem bws_len (B : Bk) : (bws B).length = 6 := rfl
theorem iv0 (b : Bool) : inV (.str (sUp b)) [.str "down", .str "up"] = true := by cases b <;> decide +kernel
theorem iv1 (b : Bool) : inV (.str (sFire b)) [.str "fire", .str "move"] = true := by cases b <;> decide +kernel
theorem iv2 (b : Bool) : inV (.str (sHigh b)) [.str "high", .str "low"] = true := by cases b <;> decide +kernel
theorem iv3 (b : Bool) : inV (.str (sPut b)) [.str "now", .str "put"] = true := by cases b <;> decide +kernel
theorem iv4 (b : Bool) : inV (.str (sZone b)) [.str "now", .str "one"] = true := by cases b <;> decide +kernel
theorem iv5 (n : Nat) (h : n < 3) : inV (.str (sBey n)) [.str "refuse", .str "last", .str "cut"] = true := by
  match n, h with
  | 0, _ => decide +kernel
  | 1, _ => decide +kernel
  | 2, _ => decide +kernel
def sp_is_value (K : Frag) : Sp := fun vs H Q _ => ∃ (i : Nat) (B : Bk) (x y : Str), vs = [.str x, .str y] ∧ B.bey < 3 ∧ six[i]? = some x ∧ (bws B)[i]? = some y ∧ Q (.bl true) H
def t_is_value (K : Frag) (w : World) : TS :=
  (tRet (tAndV (tCB (rIsi K) (tCons (tVar 1) (tCons (tC (.ty "str")) tNil))) (tOp (rIn K false) (tVar 1) (tOp (rIxD K w) (tC (.ref (ga K "VALUES"))) (tVar 0)))))
def n_is_value : List Str := ["switch", "value"]
theorem rd_is_value (T : Kf K w) (vs : List V) (H : Hp) (Q : VK) (E : XK) (h : sp_is_value K vs H Q E) : t_is_value K w { nx := fun _ H' => Q .non H', rt := Q } (L2.start n_is_value vs) H := by
  obtain ⟨i, B, x, y, rfl, hb, hx, hy, q⟩ := h
  have key : ∀ xs, SqT K H (dva K (ga K "VALUES") x) xs → xs.all flatV = true → inV (.str y) xs = true → t_is_value K w { nx := fun _ H' => Q .non H', rt := Q } (L2.start n_is_value [.str x, .str y]) H := by
    intro xs h1 h2 h3
    unfold t_is_value n_is_value
    walk_at "rsu"
    refine isi_base (.base (.str y)) (b := true) (by decide +kernel) ⟨true, rfl, iteT ?_⟩
    have hm : x ∈ six := List.mem_of_getElem? hx
    exact ⟨_, x, _, rfl, rfl, T.vd x hm, _, xs, rfl, .inr h1, rfl, h2, by rw [if_neg Bool.false_ne_true, h3]; exact q⟩
  obtain ⟨u, f, hi, p, z, n⟩ := B
  have hn : n < 3 := hb
  match i with
  | 0 =>
    obtain rfl := Option.some.inj hx
    obtain rfl := Option.some.inj hy
    exact key _ (T.v0 H) (by decide +kernel) (iv0 u)
  | 1 =>
    obtain rfl := Option.some.inj hx
    obtain rfl := Option.some.inj hy
    exact key _ (T.v1 H) (by decide +kernel) (iv1 f)
  | 2 =>
    obtain rfl := Option.some.inj hx
    obtain rfl := Option.some.inj hy
    exact key _ (T.v2 H) (by decide +kernel) (iv2 hi)
  | 3 =>
    obtain rfl := Option.some.inj hx
    obtain rfl := Option.some.inj hy
    exact key _ (T.v3 H) (by decide +kernel) (iv3 p)
  | 4 =>
    obtain rfl := Option.some.inj hx
    obtain rfl := Option.some.inj hy
    exact key _ (T.v4 H) (by decide +kernel) (iv4 z)
  | 5 =>
    obtain rfl := Option.some.inj hx
    obtain rfl := Option.some.inj hy
    exact key _ (T.v5 H) (by decide +kernel) (iv5 n hn)
  | i + 6 => cases hx
def sp_Book___init__ (K : Frag) : Sp := fun vs H Q _ => ∃ (x dx : Addr) (B : Bk), vs = .ref x :: (bws B).map V.str ∧ B.bey < 3 ∧ H x = some (.ins (ga K "Book") dx []) ∧ ∀ H', SameX x H H' → BkAt K H' x B → Q .non H'
def t_Book___init__ (K : Frag) (w : World) : TS :=
  (tSeq (tAsg (tTup (tCons (tVar 1) (tCons (tVar 2) (tCons (tVar 3) (tCons (tVar 4) (tCons (tVar 5) (tCons (tVar 6) tNil))))))) (gName 7))
  (tSeq (tFor (RZ.iZipA K (tCons (tC (.ref (ga K "SWITCHES"))) (tCons (tVar 7) tNil))) (gTup K 2 (gCons (gName 8) (gCons (gName 9) gNil)))
    (tIfS (tNot (tB (tFn (sp_is_value K) E0 (tCons (tVar 8) (tCons (tVar 9) tNil))))) tNever tNext))
  (sFld K (tVar 0) (tVar 7) "kept_values")))
def n_Book___init__ : List Str := ["self", "rounding", "action", "order", "due", "zero", "beyond", "given", "switch", "value"]
theorem rd_Book___init__ (T : Kf K w) (vs : List V) (H : Hp) (Q : VK) (E : XK) (h : sp_Book___init__ K vs H Q E) : t_Book___init__ K w { nx := fun _ H' => Q .non H', rt := Q } (L2.start n_Book___init__ vs) H := by
  obtain ⟨x, dx, B, rfl, hb, hx, q⟩ := h
  have c1 := T.cB
  have c2 := T.nBv
  have e0 : (bws B).map V.str = [.str (sUp B.up), .str (sFire B.fire), .str (sHigh B.high), .str (sPut B.put), .str (sZone B.zone), .str (sBey B.bey)] := rfl
  rw [e0]
  unfold t_Book___init__ n_Book___init__ sFld
  walk_at "rsu"
  intro g hg
  have s0 := Same.new (o := .tup ((bws B).map V.str)) hg
  rw [← e0]
  refine ⟨_, rfl, _, _, _, _, rfl, .inr ⟨T.sw _, SqT.of upd_same, RZ.for_zipT (K := K) (a := ga K "SWITCHES") (b := g) (xs := six.map V.str) (ys := (bws B).map V.str) rfl
    (fun i σ H' => ∃ v8 v9, σ = [some (.ref x), some (.str (sUp B.up)), some (.str (sFire B.fire)), some (.str (sHigh B.high)), some (.str (sPut B.put)), some (.str (sZone B.zone)), some (.str (sBey B.bey)), some (.ref g), v8, v9] ∧ Same (upd H g (.tup ((bws B).map V.str))) H')
    ⟨none, none, rfl, Same.refl _⟩ (fun i σ H' ⟨_, _, _, s⟩ => ⟨T.sw H', SqT.of (s _ _ upd_same)⟩) ?_ ?_⟩⟩
  · rintro i a b Tq σ H1 ha hb' ⟨v8, v9, rfl, s⟩ hT
    rw [List.getElem?_map] at ha hb'
    cases ea : six[i]? with
    | none => rw [ea] at ha; cases ha
    | some x1 =>
      cases eb : (bws B)[i]? with
      | none => rw [eb] at hb'; cases hb'
      | some y1 =>
        rw [ea] at ha
        rw [eb] at hb'
        obtain rfl := Option.some.inj ha
        obtain rfl := Option.some.inj hb'
        refine ⟨_, _, rfl, SqT.of upd_same, rfl, _, _, rfl, _, _, rfl, rfl, ?_⟩
        have s' := s.trans (Same.new (o := .tup [.str x1, .str y1]) hT)
        walk_at "rsu"
        exact ⟨i, B, x1, y1, rfl, hb, ea, eb, true, rfl, by rw [if_neg Bool.noConfusion]; exact s'⟩
  · rintro σ H1 ⟨v8, v9, rfl, s⟩
    have hx1 := s _ _ (s0 _ _ hx)
    have ht1 := s _ _ (upd_same (H := H) (a := g) (o := .tup ((bws B).map V.str)))
    have hgx : g ≠ x := fun e => by rw [e, hx] at hg; cases hg
    walk_at "rsu"
    refine ⟨by decide, q _ (SameX.upd (Same.toX (s0.trans s))) ⟨hb, dx, g, ?_, ?_⟩⟩
    · rw [upd_same]; rfl
    · rw [upd_ne hgx]; exact ht1
def gV_Book_rounding_action_order_due_zero_beyond : List V → List V → List V := fun vs zs => vs ++ zs
def gV_Level_span : List V → List V → List V := fun vs zs => vs ++ zs
def sp_book_of (K : Frag) : Sp := fun vs H Q _ => ∃ (l : Addr) (B : Bk), vs = [.ref l] ∧ B.bey < 3 ∧ (H l = some (.lst ((bws B).map V.str)) ∨ H l = some (.tup ((bws B).map V.str))) ∧ ∀ a H', Same H H' → BkAt K H' a B → Q (.ref a) H'
def t_book_of (K : Frag) (w : World) : TS :=
  (tSeq (tAsg (tVar 0) (gUnA K 6 (gCons (gName 1) (gCons (gName 2) (gCons (gName 3) (gCons (gName 4) (gCons (gName 5) (gCons (gName 6) gNil))))))))
  (tRet (tMakeK (ga K "Book") 0 6 (sp_Book___init__ K) gV_Book_rounding_action_order_due_zero_beyond E0 tNil (tCons (tVar 1) (tCons (tVar 2) (tCons (tVar 3) (tCons (tVar 4) (tCons (tVar 5) (tCons (tVar 6) tNil)))))))))
def n_book_of : List Str := ["values", "rounding", "action", "order", "due", "zero", "beyond"]
theorem rd_book_of (vs : List V) (H : Hp) (Q : VK) (E : XK) (h : sp_book_of K vs H Q E) : t_book_of K w { nx := fun _ H' => Q .non H', rt := Q } (L2.start n_book_of vs) H := by
  obtain ⟨l, B, rfl, hb, hl, q⟩ := h
  refine ⟨_, rfl, l, _, rfl, hl.imp SqL.of SqT.of, rfl, _, _, rfl, _, _, rfl, _, _, rfl, _, _, rfl, _, _, rfl, _, _, rfl, rfl, ?_⟩
  refine ⟨_, rfl, _, rfl, _, rfl, _, rfl, _, rfl, _, rfl, rfl, rfl, fun x dx hx hd hn => ?_⟩
  exact ⟨x, dx, B, rfl, hb, upd_same, fun H' s z => ⟨rfl, q x H' (SameX.made hx hd s) z⟩⟩
def sp_Book_from_text (K : Frag) : Sp := fun vs H Q _ => ∃ (B : Bk), vs = [.ref (ga K "Book"), .str (Txt.join " " (bws B))] ∧ B.bey < 3 ∧ ∀ a H', Same H H' → BkAt K H' a B → Q (.ref a) H'
def t_Book_from_text (K : Frag) (w : World) : TS :=
  (tSeq (tIfS (tNot (tB (tCB (rIsi K) (tCons (tVar 1) (tCons (tC (.ty "str")) tNil))))) tNever tNext)
  (tSeq (tAsg (tM1 oSplit (tVar 1) (tC (.str " "))) (gName 2))
  (tSeq (tIfS (tTest (tOp rNe (tCB rLenLH (tCons (tVar 2) tNil)) (tCB (oLen K) (tCons (tC (.ref (ga K "SWITCHES"))) tNil)))) tNever tNext)
  (tSeq (tFor (iZm K (tCons (tC (.ref (ga K "SWITCHES"))) (tCons (tVar 2) tNil))) (gTup K 2 (gCons (gName 3) (gCons (gName 4) gNil)))
    (tIfS (tNot (tB (tFn (sp_is_value K) E0 (tCons (tVar 3) (tCons (tVar 4) tNil))))) tNever tNext))
  (tRet (tFn (sp_book_of K) E0 (tCons (tVar 2) tNil)))))))
def n_Book_from_text : List Str := ["cls", "text", "words", "switch", "word"]
theorem rd_Book_from_text (T : Kf K w) (vs : List V) (H : Hp) (Q : VK) (E : XK) (h : sp_Book_from_text K vs H Q E) : t_Book_from_text K w { nx := fun _ H' => Q .non H', rt := Q } (L2.start n_Book_from_text vs) H := by
  obtain ⟨B, rfl, hb, q⟩ := h
  obtain ⟨e1, e2⟩ := split_bws B hb
  have e6 := bws_len B
  generalize Txt.join " " (bws B) = tx at e1 e2 ⊢
  unfold t_Book_from_text n_Book_from_text tM1 oSplit oLen rNewStrs
  walk_at "rsu"
  refine isi_base (.base (.str tx)) (b := true) (by decide +kernel) ⟨true, rfl, ?_⟩
  rw [if_neg Bool.noConfusion]
  refine ⟨rfl, Nat.le_trans (Nat.add_le_add_right e2 2) (by decide), fun l hl => ⟨_, upd_same, _, .inr (T.sw _), ?_⟩⟩
  have s0 := Same.new (o := .lst ((bws B).map V.str)) hl
  rw [if_neg (fun z => z rfl)]
  refine ⟨_, rfl, _, _, _, _, rfl, T.sw _, SqL.of upd_same, for_zm (K := K) (a := ga K "SWITCHES") (b := l) (xs := six.map V.str) (ys := (bws B).map V.str) rfl
    (fun i σ H' => ∃ v8 v9, σ = [some (.ref (ga K "Book")), some (.str tx), some (.ref l), v8, v9] ∧ Same (upd H l (.lst ((bws B).map V.str))) H')
    ⟨none, none, rfl, Same.refl _⟩ (fun i σ H' ⟨_, _, _, s⟩ => ⟨T.sw H', SqL.of (s _ _ upd_same)⟩) ?_ ?_⟩
  · rintro i a b Tq σ H1 ha hb' ⟨v8, v9, rfl, s⟩ hT
    rw [List.getElem?_map] at ha hb'
    cases ea : six[i]? with
    | none => rw [ea] at ha; cases ha
    | some x1 =>
      cases eb : (bws B)[i]? with
      | none => rw [eb] at hb'; cases hb'
      | some y1 =>
        rw [ea] at ha
        rw [eb] at hb'
        obtain rfl := Option.some.inj ha
        obtain rfl := Option.some.inj hb'
        refine ⟨_, _, rfl, SqT.of upd_same, rfl, _, _, rfl, _, _, rfl, rfl, ?_⟩
        have s' := s.trans (Same.new (o := .tup [.str x1, .str y1]) hT)
        walk_at "rsu"
        exact ⟨i, B, x1, y1, rfl, hb, ea, eb, true, rfl, by rw [if_neg Bool.noConfusion]; exact s'⟩
  · rintro σ H1 ⟨v8, v9, rfl, s⟩
    exact ⟨_, rfl, l, B, rfl, hb, .inl (s _ _ upd_same), fun a H' s' z => q a H' ((s0.trans s).trans s') z⟩
def sp_Level___init__ (K : Frag) : Sp := fun vs H Q _ => ∃ (x dx : Addr) (l : Lv) (v : V), vs = [.ref x, .int l.g, .int l.s, v] ∧ (v = .int l.p ∨ v = .non ∧ l.p = l.s * l.g) ∧ LOk l ∧ 2 ≤ l.p ∧ l.p ≤ 4 * l.s * l.g ∧ H x = some (.ins (ga K "Level") dx []) ∧ ∀ H', SameX x H H' → LvAt K H' x l → Q .non H'
def t_Level___init__ (K : Frag) (w : World) : TS :=
  (tSeq (tIfS (tNot (tB (tFn (sp_is_within K) E0 (tCons (tVar 1) (tCons (tC (.int 1)) (tCons (tC (.int 1000)) tNil)))))) tNever tNext)
  (tSeq (tIfS (tNot (tB (tFn (sp_is_within K) E0 (tCons (tVar 2) (tCons (tC (.int 2)) (tCons (tC (.int 100)) tNil)))))) tNever tNext)
  (tSeq (tIfS (tAnd (tTest (tOp oNotN (tVar 3) (tC .non))) (tNot (tB (tFn (sp_is_within K) E0 (tCons (tVar 3) (tCons (tC (.int 2)) (tCons (tOp oMul (tOp oMul (tC (.int 4)) (tVar 2)) (tVar 1)) tNil))))))) tNever tNext)
  (tSeq (sFld K (tVar 0) (tVar 1) "kept_grain")
  (tSeq (sFld K (tVar 0) (tVar 2) "kept_slots")
  (sFld K (tVar 0) (tIf (tTest (tOp oIsN (tVar 3) (tC .non))) (tOp oMul (tVar 2) (tVar 1)) (tVar 3)) "kept_span"))))))
def n_Level___init__ : List Str := ["self", "grain", "slots", "span"]
theorem rd_Level___init__ (T : Klv K w) (vs : List V) (H : Hp) (Q : VK) (E : XK) (h : sp_Level___init__ K vs H Q E) : t_Level___init__ K w { nx := fun _ H' => Q .non H', rt := Q } (L2.start n_Level___init__ vs) H := by
  obtain ⟨x, dx, l, v, rfl, hv, ok, hp1, hp2, hx, q⟩ := h
  obtain ⟨g1, g2, s1, s2⟩ := id ok
  have c1 := T.cL
  have c2 := T.nLg
  have c3 := T.nLs
  have c4 := T.nLp
  have hpt : putF "kept_span" (.int l.p) (putF "kept_slots" (.int l.s) (putF "kept_grain" (.int l.g) [])) = lfs l := rfl
  have hfin : Q .non (upd (upd (upd H x (.ins (ga K "Level") dx (putF "kept_grain" (.int l.g) []))) x (.ins (ga K "Level") dx (putF "kept_slots" (.int l.s) (putF "kept_grain" (.int l.g) []))))
      x (.ins (ga K "Level") dx (putF "kept_span" (.int l.p) (putF "kept_slots" (.int l.s) (putF "kept_grain" (.int l.g) []))))) :=
    q _ (SameX.upd (SameX.upd (SameX.upd (SameX.refl x H)))) ⟨ok, dx, by rw [upd_same, hpt]⟩
  unfold t_Level___init__ n_Level___init__ sFld
  rcases hv with rfl | ⟨rfl, hpe⟩
  · walk_at "rsu"
    exact ⟨.inr ⟨by omega, by omega⟩, .inr ⟨by omega, by omega⟩, by decide, _, _, _, upd_same, c1, c3, by show 1 < 1000; decide, _, _, _, upd_same, c1, c4, by show 2 < 1000; decide, hfin⟩
  · rw [hpe] at hfin
    walk_at "rsu"
    exact ⟨by decide, _, _, _, upd_same, c1, c3, by show 1 < 1000; decide, .inr ⟨by omega, by omega⟩, _, _, _, upd_same, c1, c4, by show 2 < 1000; decide, hfin⟩
/-- a loop over zip of two tuples of any lengths -/
theorem for_zipN {K : PySem.W.Frag} {a b : Addr} {xs ys : List V} {g : TG} {tb : TS} {D : Ends} {σ : L2.St} {H : Hp} (hl : ys.length ≤ xs.length) (Pv : Nat → L2.St → Hp → Prop) (h0 : Pv 0 σ H) (hq : ∀ i σ H, Pv i σ H → SqT K H a xs ∧ SqT K H b ys)
    (hs : ∀ (i : Nat) (x y : V) (T : Addr) (σ : L2.St) (H : Hp), xs[i]? = some x → ys[i]? = some y → Pv i σ H → H T = none → g (.ref T) σ (upd H T (.tup [x, y])) fun σ2 H2 => tb { D with nx := Pv (i + 1), ct := Pv (i + 1), bk := D.nx } σ2 H2) (hd : ∀ σ H, Pv ys.length σ H → D.nx σ H) :
    ∃ W : Nat → Nat → L2.St → Hp → Prop, (∃ m, W 0 m σ H) ∧ ∀ i m σ H, W i m σ H →
      ((RZ.ItzT K a b).stop i H ∧ D.nx σ H) ∨ ((RZ.ItzT K a b).go i H ∧ ∃ N : L2.St → Hp → Prop, (∀ σ' H', N σ' H' → ∃ m', m' < m ∧ W (i + 1) m' σ' H') ∧ ∀ v H', (RZ.ItzT K a b).yld i H v H' → g v σ H' fun σ2 H2 => tb { D with nx := N, ct := N, bk := D.nx } σ2 H2) := by
  refine ⟨fun i m σ H => m = ys.length - i ∧ i ≤ ys.length ∧ Pv i σ H, ⟨ys.length, rfl, Nat.zero_le _, h0⟩, ?_⟩
  rintro i m σ H ⟨rfl, hi, p⟩
  obtain ⟨qx, qy⟩ := hq i σ H p
  rcases Nat.lt_or_ge i ys.length with hy | hy
  · refine .inr ⟨⟨xs, ys, _, _, qx, qy, List.getElem?_eq_getElem (by omega), List.getElem?_eq_getElem hy⟩, Pv (i + 1), ?_, ?_⟩
    · exact fun σ' H' p' => ⟨ys.length - (i + 1), by omega, rfl, hy, p'⟩
    · rintro v H' ⟨T, x', y', rfl, hT, rfl, f1, f2⟩
      exact hs i x' y' T σ H (f1 xs qx) (f2 ys qy) p hT
  · obtain rfl : i = ys.length := by omega
    exact .inl ⟨⟨xs, ys, qx, qy, .inr hy⟩, hd σ H p⟩
def sp_are_levels (K : Frag) : Sp := fun vs H Q _ => ∃ (t : Addr) (as : List Addr) (W : List Lv), vs = [.ref t] ∧ H t = some (.tup (as.map V.ref)) ∧ as.length = W.length ∧ (∀ i c, as[i]? = some c → LvAt K H c (lv W i)) ∧ WOk W ∧ ∀ H', Same H H' → Q (.bl true) H'
def t_are_levels (K : Frag) (w : World) : TS :=
  (tSeq (tIfS (tOr (tNot (tTest (tChain oLe oLe (tC (.int 1)) (tCB rLenTH (tCons (tVar 0) tNil)) (tC (.int 5))))) (tNot (tB (tCB (rAll K) (tCons (tLc (iTup K (tVar 0)) (gName 1) tYes (tCB (rIsi K) (tCons (tVar 1) (tCons (tC (.ref (ga K "Level"))) tNil))) [1]) tNil))))) (tRet (tC (.bl false))) tNext)
  (tSeq (tIfS (tTest (tOp rNe (tFn (sp_Level_grain K) E0 (tCons (tOp rIxTH (tVar 0) (tC (.int 0))) tNil)) (tC (.int 1)))) (tRet (tC (.bl false))) tNext)
  (tSeq (tFor (RZ.iZipA K (tCons (tVar 0) (tCons (tSl (rSlT K) (tVar 0) (tPart (tC (.int 1))) tNoPart) tNil))) (gTup K 2 (gCons (gName 2) (gCons (gName 3) gNil)))
    (tIfS (tOr (tTest (tOp rNe (tOp oMod (tFn (sp_Level_grain K) E0 (tCons (tVar 3) tNil)) (tFn (sp_Level_grain K) E0 (tCons (tVar 2) tNil))) (tC (.int 0)))) (tTest (tOp oLe (tFn (sp_Level_span K) E0 (tCons (tVar 3) tNil)) (tFn (sp_Level_span K) E0 (tCons (tVar 2) tNil))))) (tRet (tC (.bl false))) tNext))
  (tRet (tC (.bl true))))))
def n_are_levels : List Str := ["levels", "level", "one", "other"]
theorem rd_are_levels (T : Kl K w) (vs : List V) (H : Hp) (Q : VK) (E : XK) (h : sp_are_levels K vs H Q E) : t_are_levels K w { nx := fun _ H' => Q .non H', rt := Q } (L2.start n_are_levels vs) H := by
  obtain ⟨t, as, W, rfl, ht, hl, hc, ok, q⟩ := h
  have hp := ok.pos
  have hl5 := ok.len
  have c1 := T.cL
  have a0 : ∃ c, as[0]? = some c := ⟨as[0]'(by omega), List.getElem?_eq_getElem (by omega)⟩
  obtain ⟨c0, hc0⟩ := a0
  have hat : atI (as.map V.ref) 0 = some (.ref c0) := atI_nat (j := 0) (by rw [List.getElem?_map, hc0]; rfl)
  have hcut : cutV (as.map V.ref) (some 1) none = (as.drop 1).map V.ref := by
    unfold cutV
    have e1 : HT.sIx (as.map V.ref).length 0 (some 1) = 1 := by
      rw [List.length_map]
      show min (1 : Int).toNat as.length = 1
      have : (1 : Int).toNat = 1 := rfl
      omega
    rw [e1]
    show List.take ((as.map V.ref).length - 1) _ = _
    rw [List.take_of_length_le (by simp), List.map_drop]
  unfold t_are_levels n_are_levels
  walk_at "rsu"
  rw [if_pos (by omega), if_neg (by omega)]
  refine ⟨_, rfl, t, rfl, ⟨_, SqT.of ht⟩, fun D hD => lc_tup (K := K) (a := t) (xs := as.map V.ref) (fun i H' => Same H H' ∧ H' D = some (.lst ((List.replicate i true).map V.bl)))
    ⟨Same.new hD, upd_same⟩ (fun i H' _ z => SqT.of (z.1 _ _ ht)) ?_ ?_⟩
  · rintro i x H1 hx ⟨s1, hD1⟩
    obtain ⟨c, hci, rfl⟩ : ∃ c, as[i]? = some c ∧ x = V.ref c := by
      rw [List.getElem?_map] at hx
      cases e : as[i]? with
      | none => rw [e] at hx; cases hx
      | some c => rw [e] at hx; exact ⟨c, rfl, (Option.some.inj hx).symm⟩
    obtain ⟨_, dx, hca⟩ := (hc i c hci).same s1
    have hi : i < as.length := (List.getElem?_eq_some_iff.mp hci).1
    refine ⟨rfl, ?_⟩
    simp only [tYes, if_true]
    refine ⟨_, rfl, .ref c, _, _, _, true, rfl, .own _, .base (.ins hca c1 T.iL.ca T.iL.cn T.iL.ct T.iL.cm), T.kL, _, hD1, ?_, ?_⟩
    · have : sizeLine = 16777216 := rfl
      simp
      omega
    · exact ⟨Same.updN s1 hD, by rw [upd_same, List.replicate_succ', List.map_append]; rfl⟩
  · rintro H1 ⟨s1, hD1⟩
    have ht1 := s1 _ _ ht
    have eL := @lv_ex K H1 c0 (lv W 0) ((hc 0 c0 hc0).same s1)
    have hf := ok.first
    refine ⟨D, _, rfl, SqL.of hD1, ?_⟩
    walk_at "rsu"
    rw [if_neg (by simp)]
    refine ⟨_, rfl, _, rfl, _, rfl, t, _, rfl, SqT.of ht1, ?_, fun p hp => ?_⟩
    · rintro ⟨z, _⟩
      have : (as.map V.ref).length = as.length := List.length_map ..
      revert z
      show min (1 : Int).toNat (as.map V.ref).length ≠ 0
      have : (1 : Int).toNat = 1 := rfl
      omega
    rw [hcut]
    have s2 : Same H1 (upd H1 p (.tup ((as.drop 1).map V.ref))) := Same.new hp
    refine ⟨_, _, _, _, rfl, .inr ⟨SqT.of (s2 _ _ ht1), SqT.of upd_same, for_zipN (K := K) (a := t) (b := p) (xs := as.map V.ref) (ys := (as.drop 1).map V.ref) (by simp)
      (fun i σ H' => ∃ v2 v3, σ = [some (.ref t), none, v2, v3] ∧ Same H H' ∧ H' p = some (.tup ((as.drop 1).map V.ref))) ⟨none, none, rfl, Same.trans s1 s2, upd_same⟩ (fun i σ H' ⟨_, _, _, z, z2⟩ => ⟨SqT.of (z _ _ ht), SqT.of z2⟩) ?_ ?_⟩⟩
    · rintro i x y Tq σ H2 hx hy ⟨v2, v3, rfl, s3, hp2⟩ hT
      obtain ⟨c, hci, rfl⟩ : ∃ c, as[i]? = some c ∧ x = V.ref c := by
        rw [List.getElem?_map] at hx
        cases e : as[i]? with
        | none => rw [e] at hx; cases hx
        | some c => rw [e] at hx; exact ⟨c, rfl, (Option.some.inj hx).symm⟩
      obtain ⟨d, hdi, rfl⟩ : ∃ c, as[i + 1]? = some c ∧ y = V.ref c := by
        rw [List.getElem?_map, List.getElem?_drop, Nat.add_comm] at hy
        cases e : as[i + 1]? with
        | none => rw [e] at hy; cases hy
        | some c => rw [e] at hy; exact ⟨c, rfl, (Option.some.inj hy).symm⟩
      have hi : i + 1 < as.length := (List.getElem?_eq_some_iff.mp hdi).1
      have s4 : Same H2 (upd H2 Tq (.tup [.ref c, .ref d])) := Same.new hT
      have e1 := @lv_ex K _ c (lv W i) (((hc i c hci).same s3).same s4)
      have e2 := @lv_ex K _ d (lv W (i + 1)) (((hc (i + 1) d hdi).same s3).same s4)
      have hdv := ok.dv i (by omega)
      have has := ok.asc i (by omega)
      have hall := ok.all i (by omega)
      have s5 := Same.trans s3 s4
      have hpT := s4 _ _ hp2
      refine ⟨_, _, rfl, SqT.of upd_same, rfl, _, _, rfl, _, _, rfl, rfl, ?_⟩
      walk_at "rsu"
      refine ⟨by omega, ?_⟩
      rw [if_neg (fun z => z (Int.emod_eq_zero_of_dvd hdv)), if_neg (by omega)]
      exact trivial
    · rintro σ H2 ⟨v2, v3, rfl, s3, hp2⟩
      exact q H2 s3
def sq_Wheel___init__ (K : Frag) : Sp := fun vs H Q _ => ∃ (x dx t : Addr) (as : List Addr) (W : List Lv), vs = [.ref x, .ref t] ∧ H x = some (.ins (ga K "Wheel") dx []) ∧ H t = some (.tup (as.map V.ref)) ∧ as.length = W.length ∧ (∀ i c, as[i]? = some c → LvAt K H c (lv W i)) ∧ WOk W ∧
  ∀ H', SameX x H H' → WhAt K H' x W → Q .non H'
def sp_Wheel___init__ (K : Frag) : Sp := fun vs H Q E => ∃ ws rest, vs = ws ++ rest ∧ ws.length = 1 ∧ rest.length ≤ sizeLine ∧ ∀ p, H p = none → sq_Wheel___init__ K (ws ++ [V.ref p]) (upd H p (.tup rest)) Q E
def t_Wheel___init__ (K : Frag) (w : World) : TS :=
  (tSeq (tIfS (tNot (tB (tFn (sp_are_levels K) E0 (tCons (tVar 1) tNil)))) tNever tNext)
  (sFld K (tVar 0) (tCB (oTupT K) (tCons (tVar 1) tNil)) "kept_levels"))
def n_Wheel___init__ : List Str := ["self", "levels"]
theorem rd_Wheel___init__ (T : Kl K w) (vs : List V) (H : Hp) (Q : VK) (E : XK) (h : sq_Wheel___init__ K vs H Q E) : t_Wheel___init__ K w { nx := fun _ H' => Q .non H', rt := Q } (L2.start n_Wheel___init__ vs) H := by
  obtain ⟨x, dx, t, as, W, rfl, hx, ht, hl, hc, ok, q⟩ := h
  refine ⟨_, rfl, t, as, W, rfl, ht, hl, hc, ok, fun H1 s1 => ⟨true, rfl, iteF ?_⟩⟩
  have hx1 := s1 _ _ hx
  have ht1 := s1 _ _ ht
  refine ⟨_, rfl, t, _, rfl, SqT.of ht1, _, rfl, x, _, dx, _, rfl, hx1, T.cW, T.nWl, by decide, ?_⟩
  have hxt : t ≠ x := fun e => by rw [e, hx] at ht; cases ht
  refine q _ (SameX.upd (Same.toX s1)) ⟨ok, dx, t, as, by rw [upd_same]; rfl, by rw [upd_ne hxt]; exact ht1, hl, fun i c hi => ?_⟩
  obtain ⟨ok1, dc, h1⟩ := (hc i c hi).same s1
  refine ⟨ok1, dc, ?_⟩
  rw [upd_ne (fun e => ?_)]
  · exact h1
  · rw [e, hx1] at h1
    have h2 := Option.some.inj h1
    injection h2 with _ _ h3
    unfold lfs at h3
    cases h3
/-- making a wheel of levels -/
theorem wh_make {H : Hp} {Q : VK} {as : List Addr} {W : List Lv} (hl : as.length = W.length) (hc : ∀ i c, as[i]? = some c → LvAt K H c (lv W i)) (ok : WOk W) (q : ∀ a H', Same H H' → WhAt K H' a W → Q (.ref a) H') (x dx : Addr) (hx : H x = none) (hd : H dx = none) (hn : dx ≠ x) :
    sp_Wheel___init__ K (.ref x :: as.map V.ref) (upd (upd H dx (.own x)) x (.ins (ga K "Wheel") dx [])) (fun v H2 => v = .non ∧ Q (.ref x) H2) E0 := by
  refine ⟨[.ref x], as.map V.ref, rfl, rfl, by have := ok.len; have : sizeLine = 16777216 := rfl; simp; omega, fun p hp => ?_⟩
  have n1 : p ≠ x := fun e => by rw [e, upd_same] at hp; cases hp
  have n2 : x ≠ p := fun e => n1 e.symm
  refine ⟨x, dx, p, as, W, rfl, by rw [upd_ne n2, upd_same], upd_same, hl, fun i c hi => ?_, ok, fun H' s z => ⟨rfl, q x H' ?_ z⟩⟩
  · obtain ⟨o, dc, h1⟩ := hc i c hi
    refine ⟨o, dc, ?_⟩
    have m1 : c ≠ x := ne_of_none h1 hx
    have m2 : c ≠ dx := ne_of_none h1 hd
    have h2 : upd (upd H dx (.own x)) x (.ins (ga K "Wheel") dx []) c = some (.ins (ga K "Level") dc (lfs (lv W i))) := by rw [upd_ne m1, upd_ne m2]; exact h1
    rw [upd_ne (ne_of_none h2 hp)]
    exact h2
  · refine SameX.made (o := .own x) (o' := .ins (ga K "Wheel") dx []) hx hd fun b o nb e => s b o nb ?_
    rw [upd_ne (ne_of_none e hp)]
    exact e
/-- making a level -/
theorem lv_make {H : Hp} {Q : VK} {l : Lv} {v : V} (hv : v = .int l.p ∨ v = .non ∧ l.p = l.s * l.g) (ok : LOk l) (h1 : 2 ≤ l.p) (h2 : l.p ≤ 4 * l.s * l.g) (q : ∀ a H', Same H H' → LvAt K H' a l → Q (.ref a) H') (x dx : Addr) (hx : H x = none) (hd : H dx = none) :
    sp_Level___init__ K [.ref x, .int l.g, .int l.s, v] (upd (upd H dx (.own x)) x (.ins (ga K "Level") dx [])) (fun v H2 => v = .non ∧ Q (.ref x) H2) E0 :=
  ⟨x, dx, l, v, rfl, hv, ok, h1, h2, upd_same, fun H' s z => ⟨rfl, q x H' (SameX.made hx hd s) z⟩⟩
end
end Tw
/-! Tw: the laws' own pool of draws -/
namespace Tw
open PySem PySem.Spec PyProof.Rows L2 He TwM
open PySem.W (Frag)
theorem ix5_0 : ixN 5 0 = some 0 := rfl
theorem ix5_1 : ixN 5 1 = some 1 := rfl
theorem ix5_2 : ixN 5 2 = some 2 := rfl
theorem ix5_3 : ixN 5 3 = some 3 := rfl
theorem ix5_4 : ixN 5 4 = some 4 := rfl
theorem at5_0 (a b c d e : V) : atI [a, b, c, d, e] 0 = some a := rfl
theorem at5_1 (a b c d e : V) : atI [a, b, c, d, e] 1 = some b := rfl
theorem at5_2 (a b c d e : V) : atI [a, b, c, d, e] 2 = some c := rfl
theorem at5_3 (a b c d e : V) : atI [a, b, c, d, e] 3 = some d := rfl
theorem at5_4 (a b c d e : V) : atI [a, b, c, d, e] 4 = some e := rfl
theorem upd_two (H : Hp) (a : Addr) (o u : HO) : upd (upd H a o) a u = upd H a u := by
  funext b
  unfold upd
  split <;> rfl
theorem updS (H : Hp) (a : Addr) (o : HO) : upd H a o a = some o := upd_same
theorem updN {H : Hp} {a b : Addr} {o : HO} (h : (b = a) = False) : upd H a o b = H b := upd_ne (fun e => by rw [h] at e; exact e)
local macro_rules | `(tactic| walk_at "rsv") => `(tactic| simp only [*, at3_0, at3_1, at3_2, at2_0, at2_1, ix5_0, ix5_1, ix5_2, ix5_3, ix5_4, at5_0, at5_1, at5_2, at5_3, at5_4, updS, upd_two, gSub, rSetL, updN, and_assoc, not_true_eq_false, not_false_eq_true, tNever, List.length_map, tFld, rIxTH, rIxLH, rLenTH, rLenLH, lk1, lfs_g, lfs_s, lfs_p, HO.ins.injEq, HO.tup.injEq, HO.lst.injEq, sp_Book_rounding, sp_Book_action, sp_Book_order, sp_Book_due, sp_Book_zero, sp_Book_beyond, Int.toNat_natCast, sp_visit_after, sp_is_visited, sp_Level_grain, sp_Level_slots, sp_Level_span, sp_Wheel_reach, sp_Wheel___len__, sp_is_integer, sp_is_count, sp_is_within, sp_rounded, tSeq, tAsg, gName, tVar, tC, tOp, rI, rI0, rU, tUn, oAdd, oSub, oMul, oDiv, oMod, oNeg, oLt, oLe, oGt, oGe, oIsN, oNotN, tFn, tCons, tNil, tIfS, tIf, tTest, tB, tNot, tAnd, tOr, tAndV, tOrV, tNotV,
    tRet, tRetN, tNext, tCB, tDrop, tChain, rEq, rNe, oMax2, oMin2, oInt1, rLenF, L2.start, List.map_cons, List.map_nil, List.length_cons, List.length_nil, List.replicate_succ, List.replicate_zero, List.cons_append, List.nil_append, Nat.reduceAdd, Nat.reduceSub, Nat.zero_add,
    List.set_cons_zero, List.set_cons_succ, List.getElem?_cons_zero, List.getElem?_cons_succ, Option.some.injEq, V.int.injEq, V.ref.injEq, V.str.injEq, V.bl.injEq, exists_eq_left', exists_eq_left, exists_and_left, List.cons.injEq, and_true, true_and, decide_eq_true_eq, sc_ii, sc_ss, sc_bb, sc_ni, sc_in, sc_nn, sc_is, reduceCtorEq,
    Bool.not_eq_true', decide_eq_false_iff_not, if_true, if_false, Bool.false_eq_true, exists_eq', exists_const, false_and, and_false, or_false, false_or, exists_false, Bool.not_not, Bool.not_true, Bool.not_false, sUp_up, sFire_fire, sHigh_high, sPut_put, sZone_now, sBey_refuse, sBey_cut, tTup, tLst, sz0, sz1, sz2, sz3, sz4, sz5, sz6])
section
variable {K : Frag} {w : World}
theorem Same.lst {H H' : Hp} {a : Addr} {xs : List V} (e : Same H H') (h : SqL K H a xs) : SqL K H' a xs := by
  rcases h with (h | ⟨o, h⟩) | h
  · exact .inl (.inl (e _ _ h))
  · exact .inl (.inr ⟨o, e _ _ h⟩)
  · exact .inr h
structure PoolAt (H : Hp) (p l : Addr) : Prop where
  ne : p ≠ l
  at_ : ∃ (cs : List Int) (i1 i2 i3 i4 : Int), H p = some (.lst [.ref l, .int i1, .int i2, .int i3, .int i4]) ∧ H l = some (.lst (cs.map V.int)) ∧ 0 ≤ i1
/-- all but the pool stays -/
def SameP (p l : Addr) (H H' : Hp) : Prop := ∀ b o, b ≠ p → b ≠ l → H b = some o → H' b = some o
theorem SameP.refl (p l : Addr) (H : Hp) : SameP p l H H := fun _ _ _ _ h => h
theorem SameP.trans {p l : Addr} {H H1 H2 : Hp} (h : SameP p l H H1) (s : SameP p l H1 H2) : SameP p l H H2 := fun b o n m e => s _ _ n m (h b o n m e)
theorem Same.toP {p l : Addr} {H H1 : Hp} (s : Same H H1) : SameP p l H H1 := fun b o _ _ e => s b o e
theorem SameP.updp {p l : Addr} {H H1 : Hp} {o : HO} (h : SameP p l H H1) : SameP p l H (upd H1 p o) := fun b u n m e => by
  rw [upd_ne n]; exact h b u n m e
theorem SameP.updl {p l : Addr} {H H1 : Hp} {o : HO} (h : SameP p l H H1) : SameP p l H (upd H1 l o) := fun b u n m e => by
  rw [upd_ne m]; exact h b u n m e
theorem PoolAt.same {p l : Addr} {H H1 : Hp} (h : PoolAt H p l) (s : Same H H1) : PoolAt H1 p l := by
  obtain ⟨n, cs, i1, i2, i3, i4, h1, h2, h3⟩ := h
  exact ⟨n, cs, i1, i2, i3, i4, s _ _ h1, s _ _ h2, h3⟩
theorem PoolAt.ins {p l : Addr} {H H1 : Hp} (h : PoolAt H p l) (s : SameP p l H H1) {a C dx : Addr} {fs : List (Str × V)} (e : H a = some (.ins C dx fs)) : H1 a = some (.ins C dx fs) := by
  obtain ⟨n, cs, i1, i2, i3, i4, h1, h2, h3⟩ := h
  exact s _ _ (fun z => by rw [z, h1] at e; cases e) (fun z => by rw [z, h2] at e; cases e) e
theorem PoolAt.tup {p l : Addr} {H H1 : Hp} (h : PoolAt H p l) (s : SameP p l H H1) {a : Addr} {xs : List V} (e : H a = some (.tup xs)) : H1 a = some (.tup xs) := by
  obtain ⟨n, cs, i1, i2, i3, i4, h1, h2, h3⟩ := h
  exact s _ _ (fun z => by rw [z, h1] at e; cases e) (fun z => by rw [z, h2] at e; cases e) e
theorem LvAt.sameP {p l : Addr} {H H1 : Hp} (h : PoolAt H p l) (s : SameP p l H H1) {a : Addr} {v : Lv} (e : LvAt K H a v) : LvAt K H1 a v := ⟨e.ok, e.at_.elim fun dx q => ⟨dx, h.ins s q⟩⟩
theorem WhAt.sameP {p l : Addr} {H H1 : Hp} (h : PoolAt H p l) (s : SameP p l H H1) {a : Addr} {W : List Lv} (e : WhAt K H a W) : WhAt K H1 a W := by
  obtain ⟨ok, dx, t, as, h1, h2, h3, h4⟩ := e
  exact ⟨ok, dx, t, as, h.ins s h1, h.tup s h2, h3, fun i c q => (h4 i c q).sameP h s⟩
theorem BkAt.sameP {p l : Addr} {H H1 : Hp} (h : PoolAt H p l) (s : SameP p l H H1) {a : Addr} {B : Bk} (e : BkAt K H a B) : BkAt K H1 a B := by
  obtain ⟨ok, dx, t, h1, h2⟩ := e
  exact ⟨ok, dx, t, h.ins s h1, h.tup s h2⟩
/-- what a draw promises -/
def Drawn (H : Hp) (p l : Addr) (many : Int) (Q : VK) : Prop := ∀ (v : Int) (H' : Hp), SameP p l H H' → PoolAt H' p l → 0 ≤ v → v < many → Q (.int v) H'
def sp__law_mixed (K : Frag) : Sp := fun vs H Q _ => ∃ (p l : Addr) (many : Int), vs = [.ref p, .int many] ∧ PoolAt H p l ∧ 0 < many ∧ many.natAbs.log2 < 1920 ∧ Drawn H p l many Q
def t__law_mixed (K : Frag) (w : World) : TS :=
  (tSeq (tAsg (tOp oAdd (tOp rIxLH (tVar 0) (tC (.int 2))) (tC (.int 1))) (gSub (tVar 0) (tC (.int 2)) rSetL))
  (tSeq (tAsg (tOp rIxLH (tVar 0) (tC (.int 3))) (gName 2))
  (tSeq (tFor (iRng1 (tCons (tOp oAdd (tC (.int 1)) (tOp oDiv (tCB oLenS (tCons (tCB oStrI (tCons (tVar 1) tNil)) tNil)) (tC (.int 9)))) tNil)) (gName 3)
    (tSeq (tAsg (tOp oMod (tOp oAdd (tOp oAdd (tOp oMul (tOp rIxLH (tVar 0) (tC (.int 3))) (tC (.int 48271))) (tOp oMul (tOp rIxLH (tVar 0) (tC (.int 2))) (tC (.int 12345)))) (tC (.int 89126))) (tC (.int 2147483647))) (gSub (tVar 0) (tC (.int 3)) rSetL))
  (tAsg (tOp oAdd (tOp oMul (tVar 2) (tC (.int 2147483647))) (tOp oDiv (tOp rIxLH (tVar 0) (tC (.int 3))) (tC (.int 7)))) (gName 2))))
  (tRet (tOp oMod (tVar 2) (tVar 1))))))
def n__law_mixed : List Str := ["_law_pool", "_law_many", "_law_found", "_law_turn"]
theorem rd__law_mixed (vs : List V) (H : Hp) (Q : VK) (E : XK) (h : sp__law_mixed K vs H Q E) : t__law_mixed K w { nx := fun _ H' => Q .non H', rt := Q } (L2.start n__law_mixed vs) H := by
  obtain ⟨p, l, many, rfl, ⟨hne, cs, i1, i2, i3, i4, h1, h2, h3⟩, hm, hlog, q⟩ := h
  have hlp : (l = p) = False := eq_false (fun e => hne e.symm)
  unfold t__law_mixed n__law_mixed
  walk_at "rsv"
  have hz := PySem.int_text_fits hlog
  have hz' : (Str.ofString (toString many)).length < 2 ^ 24 + 1 := Nat.lt_of_le_of_lt hz (by decide)
  have s1 : SameP p l H (upd H p (.lst [.ref l, .int i1, .int (i2 + 1), .int i3, .int i4])) := (SameP.refl p l H).updp
  refine ⟨_, rfl, _, rfl, hlog, _, rfl, hz, _, _, rfl, rfl, ⟨by decide, by decide⟩, _, _, rfl, rfl, _, rfl, by omega, by omega, for_range
    (fun i σ H' => ∃ (f : Int) (v3 : Option V) (j2 j3 : Int), σ = [some (.ref p), some (.int many), some (.int f), v3] ∧ SameP p l H H' ∧ H' p = some (.lst [.ref l, .int i1, .int j2, .int j3, .int i4]) ∧ H' l = some (.lst (cs.map V.int)))
    ⟨i3, none, _, i3, rfl, s1, updS _ _ _, by rw [updN hlp]; exact h2⟩ ?_ ?_⟩
  · rintro i σ H1 hi ⟨f, v3, j2, j3, rfl, s2, k1, k2⟩
    walk_at "rsv"
    exact ⟨.inr ⟨by decide, by decide⟩, .inr ⟨by decide, by decide⟩, by decide, .inr ⟨by decide, by decide⟩, ⟨by decide, by decide⟩, s2.updp⟩
  · rintro σ H1 ⟨f, v3, j2, j3, rfl, s2, k1, k2⟩
    exact ⟨_, rfl, _, rfl, _, _, rfl, rfl, hm, q _ _ s2 ⟨hne, cs, i1, j2, j3, i4, k1, k2, h3⟩ (Int.emod_nonneg _ (by omega)) (Int.emod_lt_of_pos _ hm)⟩
def sp__law_draw (K : Frag) : Sp := fun vs H Q _ => ∃ (p l : Addr) (many : Int), vs = [.ref p, .int many] ∧ PoolAt H p l ∧ 0 < many ∧ many.natAbs.log2 < 1920 ∧ Drawn H p l many Q
def t__law_draw (K : Frag) (w : World) : TS :=
  (tSeq (tIfS (tOr (tTest (tOp oGe (tOp rIxLH (tVar 0) (tC (.int 1))) (tCB rLenLH (tCons (tOp rIxLH (tVar 0) (tC (.int 0))) tNil)))) (tTest (tOp rEq (tVar 1) (tC (.int 1))))) (tRet (tIf (tTest (tOp oGt (tVar 1) (tC (.int 1)))) (tFn (sp__law_mixed K) E0 (tCons (tVar 0) (tCons (tVar 1) tNil))) (tC (.int 0)))) tNext)
  (tSeq (tIfS (tTest (tOp oLt (tOp rIxLH (tOp rIxLH (tVar 0) (tC (.int 0))) (tOp rIxLH (tVar 0) (tC (.int 1)))) (tOp oPow (tC (.int 10)) (tC (.int 18))))) (tSeq (tAsg (tOp oMod (tOp oAdd (tOp oAdd (tOp oAdd (tOp oMul (tOp rIxLH (tVar 0) (tC (.int 3))) (tC (.int 31))) (tOp rIxLH (tOp rIxLH (tVar 0) (tC (.int 0))) (tOp rIxLH (tVar 0) (tC (.int 1))))) (tOp rIxLH (tVar 0) (tC (.int 2)))) (tC (.int 1))) (tC (.int 2147483647))) (gSub (tVar 0) (tC (.int 3)) rSetL))
  (tSeq (tAsg (tOp oAdd (tOp rIxLH (tVar 0) (tC (.int 4))) (tC (.int 1))) (gSub (tVar 0) (tC (.int 4)) rSetL))
  (tSeq (tIfS (tTest (tOp rEq (tOp oMod (tOp rIxLH (tVar 0) (tC (.int 4))) (tC (.int 3))) (tC (.int 0)))) (tAsg (tOp oAdd (tOp rIxLH (tVar 0) (tC (.int 1))) (tC (.int 1))) (gSub (tVar 0) (tC (.int 1)) rSetL)) tNext)
  (tRet (tFn (sp__law_mixed K) E0 (tCons (tVar 0) (tCons (tVar 1) tNil))))))) tNext)
  (tSeq (tAsg (tOp oMod (tOp rIxLH (tOp rIxLH (tVar 0) (tC (.int 0))) (tOp rIxLH (tVar 0) (tC (.int 1)))) (tVar 1)) (gName 2))
  (tSeq (tAsg (tOp oDivW (tOp rIxLH (tOp rIxLH (tVar 0) (tC (.int 0))) (tOp rIxLH (tVar 0) (tC (.int 1)))) (tVar 1)) (gSub (tOp rIxLH (tVar 0) (tC (.int 0))) (tOp rIxLH (tVar 0) (tC (.int 1))) rSetL))
  (tSeq (tIfS (tTest (tOp rEq (tOp rIxLH (tOp rIxLH (tVar 0) (tC (.int 0))) (tOp rIxLH (tVar 0) (tC (.int 1)))) (tC (.int 0)))) (tAsg (tOp oAdd (tOp rIxLH (tVar 0) (tC (.int 1))) (tC (.int 1))) (gSub (tVar 0) (tC (.int 1)) rSetL)) tNext)
  (tRet (tVar 2)))))))
def n__law_draw : List Str := ["_law_pool", "_law_many", "_law_found"]
theorem rd__law_draw (vs : List V) (H : Hp) (Q : VK) (E : XK) (h : sp__law_draw K vs H Q E) : t__law_draw K w { nx := fun _ H' => Q .non H', rt := Q } (L2.start n__law_draw vs) H := by
  obtain ⟨p, l, many, rfl, ⟨hne, cs, i1, i2, i3, i4, h1, h2, h3⟩, hm, hlog, q⟩ := h
  have hlp : (l = p) = False := eq_false (fun e => hne e.symm)
  have hpl : (p = l) = False := eq_false hne
  have hmix : ∀ (H' : Hp), SameP p l H H' → PoolAt H' p l → sp__law_mixed K [.ref p, .int many] H' Q E0 := fun H' s z => ⟨p, l, many, rfl, z, hm, hlog, fun v H2 s2 z2 a b => q v H2 (s.trans s2) z2 a b⟩
  have hpow : (10 : Int) ^ (18 : Int).toNat = 1000000000000000000 := by decide
  have hcp : CPow 10 18 := ⟨by decide, by decide, by decide⟩
  have hq : q = q := rfl
  unfold t__law_draw n__law_draw
  by_cases hlen : (cs.length : Int) ≤ i1
  · by_cases hm1 : 1 < many
    · walk_at "rsv"
      exact hmix H (SameP.refl p l H) ⟨hne, cs, i1, i2, i3, i4, h1, h2, h3⟩
    · have e1 : many = 1 := by omega
      subst e1
      walk_at "rsv"
      exact q 0 H (SameP.refl p l H) ⟨hne, cs, i1, i2, i3, i4, h1, h2, h3⟩ (by decide) (by decide)
  · obtain ⟨j, rfl⟩ : ∃ j : Nat, i1 = (j : Int) := ⟨i1.toNat, by omega⟩
    have hj : j < cs.length := by omega
    obtain ⟨c, hc⟩ : ∃ c, cs[j]? = some c := ⟨cs[j], List.getElem?_eq_getElem hj⟩
    have hat : atI (cs.map V.int) (j : Int) = some (.int c) := atI_nat (by rw [List.getElem?_map, hc]; rfl)
    have hix : ixN cs.length (j : Int) = some j := by
      unfold ixN
      rw [if_pos (by omega), if_pos (by omega)]
      rfl
    have hset : ∀ y : Int, (cs.map V.int).set j (.int y) = (cs.set j y).map V.int := fun y => by rw [List.map_set]
    have hat2 : ∀ y : Int, atI (((cs.set j y)).map V.int) (j : Int) = some (.int y) := fun y => atI_nat (by rw [List.getElem?_map, List.getElem?_set_self hj]; rfl)
    walk_at "rsv"
    have s0 := SameP.refl p l H
    refine ite2 (fun e1 => ?_) fun e1 => ite2 (fun h4 => ?_) fun h4 => ?_
    · rw [if_neg (by omega)]
      exact q 0 H s0 ⟨hne, cs, _, i2, i3, i4, h1, h2, h3⟩ (by omega) (by omega)
    · refine ⟨.inr ⟨by decide, by decide⟩, by decide, by decide, ite2 (fun _ => ?_) fun _ => ?_⟩
      · exact hmix _ s0.updp ⟨hne, cs, _, _, _, _, updS _ _ _, by rw [updN hlp]; exact h2, by omega⟩
      · exact hmix _ s0.updp ⟨hne, cs, _, _, _, _, updS _ _ _, by rw [updN hlp]; exact h2, by omega⟩
    · have q0 := Int.emod_nonneg c (b := many) (by omega)
      have q1 := Int.emod_lt_of_pos c hm
      refine ⟨⟨hm, Nat.lt_trans hlog (by decide)⟩, ite2 (fun _ => ?_) fun _ => ?_⟩
      · exact q _ _ (SameP.updp s0.updl) ⟨hne, cs.set j (c / many), _, _, _, _, updS _ _ _, by rw [updN hlp]; exact updS _ _ _, by omega⟩ q0 q1
      · exact q _ _ s0.updl ⟨hne, cs.set j (c / many), _, _, _, _, by rw [updN hpl]; exact h1, updS _ _ _, by omega⟩ q0 q1
end
end Tw
/-! Tw: more of the laws' own defs -/
namespace Tw
open PySem PySem.Spec PyProof.Rows L2 He TwM
open PySem.W (Frag)
local macro_rules | `(tactic| walk_at "rsw") => `(tactic| simp only [*, at3_0, at3_1, at3_2, at2_0, at2_1, ix5_0, ix5_1, ix5_2, ix5_3, ix5_4, at5_0, at5_1, at5_2, at5_3, at5_4, updS, upd_two, gSub, rSetL, updN, and_assoc, not_true_eq_false, not_false_eq_true, tNever, List.length_map, tFld, rIxTH, rIxLH, rLenTH, rLenLH, lk1, lfs_g, lfs_s, lfs_p, HO.ins.injEq, HO.tup.injEq, HO.lst.injEq, sp_Book_rounding, sp_Book_action, sp_Book_order, sp_Book_due, sp_Book_zero, sp_Book_beyond, Int.toNat_natCast, sp_visit_after, sp_is_visited, sp_Level_grain, sp_Level_slots, sp_Level_span, sp_Wheel_reach, sp_Wheel___len__, sp_is_integer, sp_is_count, sp_is_within, sp_rounded, tSeq, tAsg, gName, tVar, tC, tOp, rI, rI0, rU, tUn, oAdd, oSub, oMul, oDiv, oMod, oNeg, oLt, oLe, oGt, oGe, oIsN, oNotN, tFn, tCons, tNil, tIfS, tIf, tTest, tB, tNot, tAnd, tOr, tAndV, tOrV, tNotV,
    tRet, tRetN, tNext, tCB, tDrop, tChain, rEq, rNe, oMax2, oMin2, oInt1, rLenF, L2.start, List.map_cons, List.map_nil, List.length_cons, List.length_nil, List.replicate_succ, List.replicate_zero, List.cons_append, List.nil_append, Nat.reduceAdd, Nat.reduceSub, Nat.zero_add,
    List.set_cons_zero, List.set_cons_succ, List.getElem?_cons_zero, List.getElem?_cons_succ, Option.some.injEq, V.int.injEq, V.ref.injEq, V.str.injEq, V.bl.injEq, exists_eq_left', exists_eq_left, exists_and_left, List.cons.injEq, and_true, true_and, decide_eq_true_eq, sc_ii, sc_ss, sc_bb, sc_ni, sc_in, sc_nn, sc_is, reduceCtorEq,
    Bool.not_eq_true', decide_eq_false_iff_not, if_true, if_false, Bool.false_eq_true, exists_eq', exists_const, false_and, and_false, or_false, false_or, exists_false, Bool.not_not, Bool.not_true, Bool.not_false, sUp_up, sFire_fire, sHigh_high, sPut_put, sZone_now, sBey_refuse, sBey_cut, tTup, tLst, sz0, sz1, sz2, sz3, sz4, sz5, sz6])
section
variable {K : Frag} {w : World}
def sp__law_begin (K : Frag) : Sp := fun vs H Q _ => ∃ (a : Addr) (ns : List Int), vs = [.ref a] ∧ SqL K H a (ns.map V.int) ∧ ns.length ≤ 63 ∧ ∀ p l H', PoolAt H' p l → Same H H' → Q (.ref p) H'
def t__law_begin (K : Frag) (w : World) : TS :=
  (tSeq (tAsg (tC (.int 7)) (gName 1))
  (tSeq (tFor (iList K (tSl (rSlL K) (tVar 0) tNoPart (tPart (tC (.int 40))))) (gName 2)
    (tAsg (tOp oMod (tOp oAdd (tOp oAdd (tOp oMul (tVar 1) (tC (.int 31))) (tOp oMod (tCB oInt1 (tCons (tVar 2) tNil)) (tC (.int 2147483647)))) (tC (.int 11))) (tC (.int 2147483647))) (gName 1)))
  (tRet (tLst (tCons (tLc (iList K (tVar 0)) (gName 2) tYes (tCB oAbs (tCons (tCB oInt1 (tCons (tVar 2) tNil)) tNil)) [2]) (tCons (tC (.int 0)) (tCons (tC (.int 0)) (tCons (tVar 1) (tCons (tC (.int 0)) tNil)))))))))
def n__law_begin : List Str := ["_law_script", "_law_seed", "_law_cell"]
theorem rd__law_begin (vs : List V) (H : Hp) (Q : VK) (E : XK) (h : sp__law_begin K vs H Q E) : t__law_begin K w { nx := fun _ H' => Q .non H', rt := Q } (L2.start n__law_begin vs) H := by
  obtain ⟨a, ns, rfl, ha, hl, q⟩ := h
  unfold t__law_begin n__law_begin
  walk_at "rsw"
  refine ⟨_, rfl, _, rfl, a, _, rfl, ha, fun p hp => ⟨p, rfl, ⟨_, SqL.of upd_same⟩, for_list (K := K) (a := p) (xs := cutV (ns.map V.int) none (some 40))
    (fun i σ H' => ∃ (s : Int) (v2 : Option V), σ = [some (.ref a), some (.int s), v2] ∧ Same (upd H p (.lst (cutV (ns.map V.int) none (some 40)))) H') ⟨_, none, rfl, Same.refl _⟩ (fun i σ H' _ ⟨_, _, _, z⟩ => SqL.of (z _ _ upd_same)) ?_ ?_⟩⟩
  · rintro i x σ H1 hx ⟨s, v2, rfl, s1⟩
    obtain ⟨c, rfl⟩ : ∃ c : Int, x = .int c := by
      have hm := List.mem_of_getElem? hx
      unfold cutV at hm
      obtain ⟨c, _, e⟩ := List.mem_map.mp (List.mem_of_mem_drop (List.mem_of_mem_take hm))
      exact ⟨c, e.symm⟩
    walk_at "rsw"
    exact ⟨.inr ⟨by decide, by decide⟩, by decide, by decide⟩
  · rintro σ H1 ⟨s, v2, rfl, s1⟩
    have s2 : Same H H1 := Same.trans (Same.new hp) s1
    refine ⟨_, rfl, a, rfl, ⟨_, Same.lst s2 ha⟩, fun D hD => lc_list (K := K) (a := a) (xs := ns.map V.int) (fun i H' => Same H1 H' ∧ H' D = some (.lst ((ns.take i).map fun n => V.int (if n < 0 then -n else n))))
      ⟨Same.new hD, by rw [upd_same]; rfl⟩ (fun i H' _ z => Same.lst z.1 (Same.lst s2 ha)) ?_ ?_⟩
    · rintro i x H2 hx ⟨s3, hD2⟩
      obtain ⟨c, hc, rfl⟩ : ∃ c, ns[i]? = some c ∧ x = V.int c := by
        rw [List.getElem?_map] at hx
        cases e : ns[i]? with
        | none => rw [e] at hx; cases hx
        | some c => rw [e] at hx; exact ⟨c, rfl, (Option.some.inj hx).symm⟩
      have hi : i < ns.length := (List.getElem?_eq_some_iff.mp hc).1
      refine ⟨rfl, ?_⟩
      simp only [tYes, if_true]
      refine ⟨_, rfl, .inl ⟨c, rfl, c, rfl, _, hD2, ?_, Same.updN s3 hD, ?_⟩⟩
      · have : sizeLine = 16777216 := rfl
        rw [List.length_map, List.length_take]
        omega
      · rw [updS, List.take_succ, hc, List.map_append]
        rfl
    · rintro H2 ⟨s3, hD2⟩
      refine ⟨_, rfl, (by show 5 ≤ sizeLine; decide), fun r hr => ?_⟩
      have hDr : D ≠ r := ne_of_none hD2 hr
      refine q r D _ ⟨fun e => hDr e.symm, ns.map fun n => if n < 0 then -n else n, 0, 0, s, 0, updS _ _ _, ?_, by decide⟩ ((s2.trans s3).trans (Same.new hr))
      rw [upd_ne hDr, hD2, List.length_map, List.take_length, List.map_map]
      rfl
/-- the pool's address stays apart from what is laid -/
theorem PoolAt.apart {p l r : Addr} {H : Hp} (h : PoolAt H p l) (hr : H r = none) : r ≠ p ∧ r ≠ l := by
  obtain ⟨n, cs, i1, i2, i3, i4, h1, h2, h3⟩ := h
  exact ⟨fun e => (ne_of_none h1 hr) e.symm, fun e => (ne_of_none h2 hr) e.symm⟩
theorem PoolAt.new {p l r : Addr} {H : Hp} {o : HO} (h : PoolAt H p l) (hr : H r = none) : PoolAt (upd H r o) p l := h.same (Same.new hr)
theorem SameP.step {p l : Addr} {H H1 H2 : Hp} (h : SameP p l H H1) (s : Same H1 H2) : SameP p l H H2 := fun b o n m e => s _ _ (h b o n m e)
/-- a draw at once -/
theorem draw {H : Hp} {p l : Addr} {many : Int} {Q : VK} (h : PoolAt H p l) (hm : 0 < many) (hl : many.natAbs.log2 < 1920) (q : Drawn H p l many Q) : sp__law_draw K [.ref p, .int many] H Q E0 := ⟨p, l, many, rfl, h, hm, hl, q⟩
theorem log_small {x : Int} (h0 : 0 ≤ x) (h : x < 2 ^ 100) : x.natAbs.log2 < 1920 := by
  by_cases hz : x.natAbs = 0
  · rw [hz]; decide
  · have h2 : x.natAbs < 2 ^ 100 := by omega
    exact Nat.lt_trans ((Nat.log2_lt hz).mpr h2) (by decide)
theorem atV {xs : List V} {i : Int} (h0 : 0 ≤ i) (h : i < xs.length) : ∃ v, xs[i.toNat]? = some v ∧ atI xs i = some v := by
  have hi : i.toNat < xs.length := by omega
  refine ⟨xs[i.toNat], List.getElem?_eq_getElem hi, ?_⟩
  have := atI_nat (xs := xs) (j := i.toNat) (List.getElem?_eq_getElem hi)
  rwa [Int.toNat_of_nonneg h0] at this
/-- an item of a list of ints -/
theorem atInts {xs : List Int} {i : Int} (h0 : 0 ≤ i) (h : i < xs.length) : ∃ v, v ∈ xs ∧ atI (xs.map V.int) i = some (.int v) := by
  obtain ⟨v, h1, h2⟩ := atV (xs := xs.map V.int) h0 (by rw [List.length_map]; exact h)
  rw [List.getElem?_map] at h1
  cases e : xs[i.toNat]? with
  | none => rw [e] at h1; cases h1
  | some c => rw [e] at h1; obtain rfl := Option.some.inj h1; exact ⟨c, List.mem_of_getElem? e, h2⟩
def sp__law_span (K : Frag) : Sp := fun vs H Q _ => ∃ (p l : Addr) (g s low : Int), vs = [.ref p, .int g, .int s, .int low] ∧ PoolAt H p l ∧ 1 ≤ g ∧ g ≤ 1000000 ∧ 1 ≤ s ∧ s ≤ 1000 ∧
  ∀ (x : Int) (H' : Hp), SameP p l H H' → PoolAt H' p l → 2 ≤ x → low < x → (low + 1 ≤ 4 * s * g → x ≤ 4 * s * g ∨ x = 2) → Q (.int x) H'
def t__law_span (K : Frag) (w : World) : TS :=
  (tSeq (tAsg (tOp oMul (tVar 2) (tVar 1)) (gName 4))
  (tSeq (tAsg (tLst (tCons (tVar 4) (tCons (tVar 4) (tCons (tOp oAdd (tVar 4) (tC (.int 1))) (tCons (tOp oSub (tVar 4) (tC (.int 1))) (tCons (tOp oAdd (tOp oSub (tVar 4) (tVar 1)) (tC (.int 2))) (tCons (tOp oAdd (tOp oSub (tVar 4) (tVar 1)) (tC (.int 1))) (tCons (tOp oAdd (tOp oSub (tVar 4) (tVar 1)) (tC (.int 3))) (tCons (tOp oMul (tC (.int 2)) (tVar 4)) (tCons (tOp oAdd (tVar 3) (tC (.int 1))) tNil)))))))))) (gName 5))
  (tSeq (tAsg (tOp rCat (tVar 5) (tLst (tCons (tOp oAdd (tVar 3) (tVar 1)) (tCons (tOp oAdd (tOp oAdd (tVar 3) (tC (.int 1))) (tFn (sp__law_draw K) E0 (tCons (tVar 0) (tCons (tOp oMul (tC (.int 3)) (tVar 4)) tNil)))) tNil)))) (gName 5))
  (tSeq (tAsg (tOp rIxLH (tVar 5) (tFn (sp__law_draw K) E0 (tCons (tVar 0) (tCons (tC (.int 11)) tNil)))) (gName 6))
  (tRet (tCB (rNuC3 nuMax3) (tCons (tCB oInt1 (tCons (tOp oAdd (tVar 3) (tC (.int 1))) tNil)) (tCons (tCB oInt1 (tCons (tCB oMin2 (tCons (tCB oInt1 (tCons (tOp oMul (tC (.int 4)) (tVar 4)) tNil)) (tCons (tCB oInt1 (tCons (tVar 6) tNil)) tNil))) tNil)) (tCons (tC (.int 2)) tNil)))))))))
def n__law_span : List Str := ["_law_pool", "_law_grain", "_law_slots", "_law_low", "_law_turn", "_law_some", "_law_found"]
theorem rd__law_span (vs : List V) (H : Hp) (Q : VK) (E : XK) (h : sp__law_span K vs H Q E) : t__law_span K w { nx := fun _ H' => Q .non H', rt := Q } (L2.start n__law_span vs) H := by
  obtain ⟨p, l, g, s, low, rfl, hp, g1, g2, s1, s2, q⟩ := h
  unfold t__law_span n__law_span
  have hsg : s * g ≤ 1000 * 1000000 := Int.mul_le_mul s2 g2 (by omega) (by omega)
  have hsg0 : 1 * 1 ≤ s * g := Int.mul_le_mul s1 g1 (by omega) (by omega)
  have e4 : 4 * s * g = 4 * (s * g) := Int.mul_assoc 4 s g
  rw [e4] at q
  walk_at "rsw"
  refine ⟨.inr ⟨by omega, by omega⟩, .inr ⟨by omega, by omega⟩, by decide, fun r hr => ⟨.inr ⟨by omega, by omega⟩, ?_⟩⟩
  have ap := hp.apart hr
  refine draw (hp.new hr) (by omega) (log_small (by omega) (by omega)) fun v H1 z1 hp1 hv0 hv1 => ⟨v, rfl, fun r2 hr2 => ?_⟩
  have hr1 := z1 r _ ap.1 ap.2 (updS _ _ _)
  have n12 : r ≠ r2 := ne_of_none hr1 hr2
  refine ⟨r, r2, _, _, rfl, rfl, by rw [upd_ne n12]; exact hr1, updS _ _ _, (by show 9 + 2 ≤ sizeLine; decide), fun r3 hr3 => ?_⟩
  have hp2 := hp1.new (o := .lst [.int (low + g), .int (low + 1 + v)]) hr2
  have ap3 := hp2.apart hr3
  refine draw (hp2.new hr3) (by decide) (by decide) fun i H2 z2 hp3 hi0 hi1 => ?_
  have hr4 := z2 r3 _ ap3.1 ap3.2 (updS _ _ _)
  obtain ⟨x, _, hx⟩ := atInts (xs := [s * g, s * g, s * g + 1, s * g - 1, s * g - g + 2, s * g - g + 1, s * g - g + 3, 2 * (s * g), low + 1, low + g, low + 1 + v]) hi0 hi1
  refine ⟨r3, rfl, _, i, rfl, hr4, .int x, hx, .inr ⟨by omega, by omega⟩, .inl ⟨x, rfl, ?_⟩⟩
  have hsp : SameP p l H H2 := ((SameP.step (SameP.trans ((SameP.refl p l H).step (Same.new hr)) z1) (Same.new hr2)).step (Same.new hr3)).trans z2
  generalize hm : (if x < 4 * (s * g) then x else 4 * (s * g)) = m
  have hm1 : m ≤ 4 * (s * g) := by rw [← hm]; split <;> omega
  by_cases ha : low + 1 < m
  · by_cases hb : m < 2
    · refine ⟨_, _, _, .int 2, rfl, ?_, q 2 H2 hsp hp3 (by omega) (by omega) (fun _ => .inr rfl)⟩
      simp [nuMax3, nuMax2, nuLt, nuCB, ha, hb]
    · refine ⟨_, _, _, .int m, rfl, ?_, q m H2 hsp hp3 (by omega) (by omega) (fun _ => .inl hm1)⟩
      simp [nuMax3, nuMax2, nuLt, nuCB, ha, hb]
  · by_cases hb : low + 1 < 2
    · refine ⟨_, _, _, .int 2, rfl, ?_, q 2 H2 hsp hp3 (by omega) (by omega) (fun _ => .inr rfl)⟩
      simp [nuMax3, nuMax2, nuLt, nuCB, ha, hb]
    · refine ⟨_, _, _, .int (low + 1), rfl, ?_, q (low + 1) H2 hsp hp3 (by omega) (by omega) (fun z => .inl z)⟩
      simp [nuMax3, nuMax2, nuLt, nuCB, ha, hb]
end
end Tw
/-! Tw: drawn books, rows and wheels -/
namespace Tw
open PySem PySem.Spec PyProof.Rows L2 He TwM StX
open PySem.W (Frag)
local macro_rules | `(tactic| walk_at "rsx2") => `(tactic| simp only [*, at3_0, at3_1, at3_2, at2_0, at2_1, updS, upd_two, gSub, rSetL, updN, and_assoc, not_true_eq_false, not_false_eq_true, tNever, List.length_map, tFld, rIxTH, rIxLH, rLenTH, rLenLH, lk1, lfs_g, lfs_s, lfs_p, HO.ins.injEq, HO.tup.injEq, HO.lst.injEq, sp_Book_rounding, sp_Book_action, sp_Book_order, sp_Book_due, sp_Book_zero, sp_Book_beyond, Int.toNat_natCast, sp_visit_after, sp_is_visited, sp_Level_grain, sp_Level_slots, sp_Level_span, sp_Wheel_reach, sp_Wheel___len__, sp_is_integer, sp_is_count, sp_is_within, sp_rounded, tSeq, tAsg, gName, tVar, tC, tOp, rI, rI0, rU, tUn, oAdd, oSub, oMul, oDiv, oMod, oNeg, oLt, oLe, oGt, oGe, oIsN, oNotN, tFn, tCons, tNil, tIfS, tIf, tTest, tB, tNot, tAnd, tOr, tAndV, tOrV, tNotV,
    tRet, tRetN, tNext, tCB, tDrop, tChain, rEq, rNe, oMax2, oMin2, oInt1, rLenF, L2.start, List.map_cons, List.map_nil, List.length_cons, List.length_nil, List.replicate_succ, List.replicate_zero, List.cons_append, List.nil_append, Nat.reduceAdd, Nat.reduceSub, Nat.zero_add,
    List.set_cons_zero, List.set_cons_succ, List.getElem?_cons_zero, List.getElem?_cons_succ, Option.some.injEq, V.int.injEq, V.ref.injEq, V.str.injEq, V.bl.injEq, exists_eq_left', exists_eq_left, exists_and_left, List.cons.injEq, and_true, true_and, decide_eq_true_eq, sc_ii, sc_ss, sc_bb, sc_ni, sc_in, sc_nn, sc_is, reduceCtorEq,
    Bool.not_eq_true', decide_eq_false_iff_not, if_true, if_false, Bool.false_eq_true, exists_eq', exists_const, false_and, and_false, or_false, false_or, exists_false, Bool.not_not, Bool.not_true, Bool.not_false, sUp_up, sFire_fire, sHigh_high, sPut_put, sZone_now, sBey_refuse, sBey_cut, tTup, tLst, sz0, sz1, sz2, sz3, sz4, sz5, sz6])
section
variable {K : Frag} {w : World}
theorem pkUp {i : Int} {x : V} (h0 : 0 ≤ i) (h : i < 2) (e : atI [V.str "down", V.str "up"] i = some x) : ∃ b, x = .str (sUp b) := by
  rcases (show i = 0 ∨ i = 1 by omega) with rfl | rfl
  · exact ⟨false, (Option.some.inj e).symm⟩
  · exact ⟨true, (Option.some.inj e).symm⟩
theorem pkFire {i : Int} {x : V} (h0 : 0 ≤ i) (h : i < 3) (e : atI [V.str "move", V.str "fire", V.str "move"] i = some x) : ∃ b, x = .str (sFire b) := by
  rcases (show i = 0 ∨ i = 1 ∨ i = 2 by omega) with rfl | rfl | rfl
  · exact ⟨false, (Option.some.inj e).symm⟩
  · exact ⟨true, (Option.some.inj e).symm⟩
  · exact ⟨false, (Option.some.inj e).symm⟩
theorem pkHigh {i : Int} {x : V} (h0 : 0 ≤ i) (h : i < 2) (e : atI [V.str "high", V.str "low"] i = some x) : ∃ b, x = .str (sHigh b) := by
  rcases (show i = 0 ∨ i = 1 by omega) with rfl | rfl
  · exact ⟨true, (Option.some.inj e).symm⟩
  · exact ⟨false, (Option.some.inj e).symm⟩
theorem pkPut {i : Int} {x : V} (h0 : 0 ≤ i) (h : i < 2) (e : atI [V.str "now", V.str "put"] i = some x) : ∃ b, x = .str (sPut b) := by
  rcases (show i = 0 ∨ i = 1 by omega) with rfl | rfl
  · exact ⟨false, (Option.some.inj e).symm⟩
  · exact ⟨true, (Option.some.inj e).symm⟩
theorem pkZone {i : Int} {x : V} (h0 : 0 ≤ i) (h : i < 2) (e : atI [V.str "now", V.str "one"] i = some x) : ∃ b, x = .str (sZone b) := by
  rcases (show i = 0 ∨ i = 1 by omega) with rfl | rfl
  · exact ⟨false, (Option.some.inj e).symm⟩
  · exact ⟨true, (Option.some.inj e).symm⟩
theorem pkBey {i : Int} {x : V} (h0 : 0 ≤ i) (h : i < 3) (e : atI [V.str "refuse", V.str "last", V.str "cut"] i = some x) : ∃ n, n < 3 ∧ x = .str (sBey n) := by
  rcases (show i = 0 ∨ i = 1 ∨ i = 2 by omega) with rfl | rfl | rfl
  · exact ⟨0, by decide, (Option.some.inj e).symm⟩
  · exact ⟨1, by decide, (Option.some.inj e).symm⟩
  · exact ⟨2, by decide, (Option.some.inj e).symm⟩
/-- an item of a new list at a drawn index -/
theorem drawAt {H : Hp} {p l r : Addr} {n : Int} {xs : List V} {Q : VK} (hp : PoolAt H p l) (hr : H r = none) (hn : 0 < n) (hl : n.natAbs.log2 < 1920) (hx : n = xs.length)
    (q : ∀ i x H', SameP p l H H' → PoolAt H' p l → H' r = some (.lst xs) → 0 ≤ i → i < n → atI xs i = some x → Q x H') :
    sp__law_draw K [.ref p, .int n] (upd H r (.lst xs)) (fun y H2 => ∃ ys i, y = .int i ∧ H2 r = some (.lst ys) ∧ ∃ x, atI ys i = some x ∧ Q x H2) E0 := by
  have ap := hp.apart hr
  refine draw (hp.new hr) hn hl fun i H2 s1 hp1 h0 h1 => ?_
  have e := s1 r _ ap.1 ap.2 (updS _ _ _)
  obtain ⟨x, _, hx'⟩ := atV (xs := xs) h0 (by omega)
  exact ⟨xs, i, rfl, e, x, hx', q i x H2 (SameP.trans ((SameP.refl p l H).step (Same.new hr)) s1) hp1 e h0 h1 hx'⟩
def sp__law_draw_values (K : Frag) : Sp := fun vs H Q _ => ∃ (p l : Addr), vs = [.ref p] ∧ PoolAt H p l ∧
  ∀ (r : Addr) (B : Bk) (H' : Hp), SameP p l H H' → PoolAt H' p l → H r = none → H' r = some (.lst ((bws B).map V.str)) → B.bey < 3 → Q (.ref r) H'
def t__law_draw_values (K : Frag) (w : World) : TS :=
  (tSeq (tAsg (tLst (tCons (tOp rIxLH (tLst (tCons (tC (.str "down")) (tCons (tC (.str "up")) tNil))) (tFn (sp__law_draw K) E0 (tCons (tVar 0) (tCons (tC (.int 2)) tNil)))) (tCons (tOp rIxLH (tLst (tCons (tC (.str "move")) (tCons (tC (.str "fire")) (tCons (tC (.str "move")) tNil)))) (tFn (sp__law_draw K) E0 (tCons (tVar 0) (tCons (tC (.int 3)) tNil)))) tNil))) (gName 1))
  (tSeq (tAsg (tOp rCat (tVar 1) (tLst (tCons (tOp rIxLH (tLst (tCons (tC (.str "high")) (tCons (tC (.str "low")) tNil))) (tFn (sp__law_draw K) E0 (tCons (tVar 0) (tCons (tC (.int 2)) tNil)))) (tCons (tOp rIxLH (tLst (tCons (tC (.str "now")) (tCons (tC (.str "put")) tNil))) (tFn (sp__law_draw K) E0 (tCons (tVar 0) (tCons (tC (.int 2)) tNil)))) tNil)))) (gName 1))
  (tRet (tOp rCat (tVar 1) (tLst (tCons (tOp rIxLH (tLst (tCons (tC (.str "now")) (tCons (tC (.str "one")) tNil))) (tFn (sp__law_draw K) E0 (tCons (tVar 0) (tCons (tC (.int 2)) tNil)))) (tCons (tOp rIxLH (tLst (tCons (tC (.str "refuse")) (tCons (tC (.str "last")) (tCons (tC (.str "cut")) tNil)))) (tFn (sp__law_draw K) E0 (tCons (tVar 0) (tCons (tC (.int 3)) tNil)))) tNil)))))))
def n__law_draw_values : List Str := ["_law_pool", "_law_found"]
theorem rd__law_draw_values (vs : List V) (H : Hp) (Q : VK) (E : XK) (h : sp__law_draw_values K vs H Q E) : t__law_draw_values K w { nx := fun _ H' => Q .non H', rt := Q } (L2.start n__law_draw_values vs) H := by
  obtain ⟨p, l, rfl, hp, q⟩ := h
  unfold t__law_draw_values n__law_draw_values
  walk_at "rsx2"
  intro r1 hr1
  refine drawAt hp hr1 (by decide) (by decide) rfl fun i1 x1 H1 s1 hp1 _ a1 b1 c1 => ?_
  intro r2 hr2
  refine drawAt hp1 hr2 (by decide) (by decide) rfl fun i2 x2 H2 s2 hp2 _ a2 b2 c2 => ?_
  intro r3 hr3
  have hp3 := hp2.new (o := .lst [x1, x2]) hr3
  have ap3 := hp2.apart hr3
  intro r4 hr4
  refine drawAt hp3 hr4 (by decide) (by decide) rfl fun i4 x4 H4 s4 hp4 _ a4 b4 c4 => ?_
  intro r5 hr5
  refine drawAt hp4 hr5 (by decide) (by decide) rfl fun i5 x5 H5 s5 hp5 _ a5 b5 c5 => ?_
  intro r6 hr6
  have k3 := (s4.trans s5) r3 _ ap3.1 ap3.2 (updS _ _ _)
  have n36 : r3 ≠ r6 := ne_of_none k3 hr6
  refine ⟨r3, r6, _, _, rfl, rfl, by rw [upd_ne n36]; exact k3, updS _ _ _, (by show 2 + 2 ≤ sizeLine; decide), fun r7 hr7 => ?_⟩
  have hp6 := hp5.new (o := .lst [x4, x5]) hr6
  have ap7 := hp6.apart hr7
  have hp7 := hp6.new (o := .lst ([x1, x2] ++ [x4, x5])) hr7
  dsimp only
  intro r8 hr8
  refine drawAt hp7 hr8 (by decide) (by decide) rfl fun i8 x8 H8 s8 hp8 _ a8 b8 c8 => ?_
  intro r9 hr9
  refine drawAt hp8 hr9 (by decide) (by decide) rfl fun i9 x9 H9 s9 hp9 _ a9 b9 c9 => ?_
  intro r10 hr10
  have k7 := (s8.trans s9) r7 _ ap7.1 ap7.2 (updS _ _ _)
  have n710 : r7 ≠ r10 := ne_of_none k7 hr10
  refine ⟨r7, r10, _, _, rfl, rfl, by rw [upd_ne n710]; exact k7, updS _ _ _, (by show 4 + 2 ≤ sizeLine; decide), fun r11 hr11 => ?_⟩
  have hp10 := hp9.new (o := .lst [x8, x9]) hr10
  have ap11 := hp10.apart hr11
  obtain ⟨u, rfl⟩ := pkUp a1 b1 c1
  obtain ⟨f, rfl⟩ := pkFire a2 b2 c2
  obtain ⟨g, rfl⟩ := pkHigh a4 b4 c4
  obtain ⟨pu, rfl⟩ := pkPut a5 b5 c5
  obtain ⟨z, rfl⟩ := pkZone a8 b8 c8
  obtain ⟨n, hn, rfl⟩ := pkBey a9 b9 c9
  have t10 := (((((((s1.trans s2).step (Same.new hr3)).trans (s4.trans s5)).step (Same.new hr6)).step (Same.new hr7)).trans (s8.trans s9)).step (Same.new (o := .lst [.str (sZone z), .str (sBey n)]) hr10))
  have tt := t10.step (Same.new (o := .lst ([.str (sUp u), .str (sFire f)] ++ [.str (sHigh g), .str (sPut pu)] ++ [.str (sZone z), .str (sBey n)])) hr11)
  refine q r11 ⟨u, f, g, pu, z, n⟩ _ tt (hp10.new hr11) ?_ (updS _ _ _) hn
  cases e : H r11 with
  | none => rfl
  | some o => exact absurd (t10 r11 o ap11.1 ap11.2 e) (by rw [hr11]; exact fun z => by cases z)
def lvR (l : Lv) : List V := [.int l.g, .int l.s, .int l.p]
structure RowsAt (H : Hp) (r : Addr) (W : List Lv) : Prop where
  at_ : ∃ ts : List Addr, H r = some (.lst (ts.map V.ref)) ∧ ts.length = W.length ∧ ∀ i t, ts[i]? = some t → H t = some (.tup (lvR (lv W i)))
structure ROk (W : List Lv) : Prop where
  ok : WOk W
  sp : ∀ i, i < W.length → (lv W i).p ≤ 4 * (lv W i).s * (lv W i).g
theorem ROk.lok {W : List Lv} (h : ROk W) {i : Nat} (hi : i < W.length) : LOk (lv W i) := by
  have := h.ok.all i hi
  exact ⟨by omega, by omega, by omega, by omega⟩
def sp__law_wheel_of (K : Frag) : Sp := fun vs H Q _ => ∃ (r : Addr) (as : List Addr) (W : List Lv), vs = [.ref r] ∧ H r = some (.lst (as.map V.ref)) ∧ as.length = W.length ∧ (∀ i c, as[i]? = some c → LvAt K H c (lv W i)) ∧ WOk W ∧
  ∀ a H', Same H H' → WhAt K H' a W → Q (.ref a) H'
def t__law_wheel_of (K : Frag) (w : World) : TS :=
  (tSeq (tIfS (tTest (tOp rEq (tCB rLenLH (tCons (tVar 0) tNil)) (tC (.int 1)))) (tRet (tMakeR (ga K "Wheel") (sp_Wheel___init__ K) E0 (tCons (tOp rIxLH (tVar 0) (tC (.int 0))) tNil))) tNext)
  (tSeq (tIfS (tTest (tOp rEq (tCB rLenLH (tCons (tVar 0) tNil)) (tC (.int 2)))) (tRet (tMakeR (ga K "Wheel") (sp_Wheel___init__ K) E0 (tCons (tOp rIxLH (tVar 0) (tC (.int 0))) (tCons (tOp rIxLH (tVar 0) (tC (.int 1))) tNil)))) tNext)
  (tSeq (tIfS (tTest (tOp rEq (tCB rLenLH (tCons (tVar 0) tNil)) (tC (.int 3)))) (tRet (tMakeR (ga K "Wheel") (sp_Wheel___init__ K) E0 (tCons (tOp rIxLH (tVar 0) (tC (.int 0))) (tCons (tOp rIxLH (tVar 0) (tC (.int 1))) (tCons (tOp rIxLH (tVar 0) (tC (.int 2))) tNil))))) tNext)
  (tSeq (tIfS (tTest (tOp rEq (tCB rLenLH (tCons (tVar 0) tNil)) (tC (.int 4)))) (tRet (tMakeR (ga K "Wheel") (sp_Wheel___init__ K) E0 (tCons (tOp rIxLH (tVar 0) (tC (.int 0))) (tCons (tOp rIxLH (tVar 0) (tC (.int 1))) (tCons (tOp rIxLH (tVar 0) (tC (.int 2))) (tCons (tOp rIxLH (tVar 0) (tC (.int 3))) tNil)))))) tNext)
  (tSeq (tIfS (tTest (tOp rEq (tCB rLenLH (tCons (tVar 0) tNil)) (tC (.int 5)))) (tRet (tMakeR (ga K "Wheel") (sp_Wheel___init__ K) E0 (tCons (tOp rIxLH (tVar 0) (tC (.int 0))) (tCons (tOp rIxLH (tVar 0) (tC (.int 1))) (tCons (tOp rIxLH (tVar 0) (tC (.int 2))) (tCons (tOp rIxLH (tVar 0) (tC (.int 3))) (tCons (tOp rIxLH (tVar 0) (tC (.int 4))) tNil))))))) tNext)
  (tRet (tIf (tTest (tOp oGt (tCB rLenLH (tCons (tVar 0) tNil)) (tC (.int 5)))) (tMakeR (ga K "Wheel") (sp_Wheel___init__ K) E0 (tCons (tOp rIxLH (tVar 0) (tC (.int 0))) (tCons (tOp rIxLH (tVar 0) (tC (.int 1))) (tCons (tOp rIxLH (tVar 0) (tC (.int 2))) (tCons (tOp rIxLH (tVar 0) (tC (.int 3))) (tCons (tOp rIxLH (tVar 0) (tC (.int 4))) (tCons (tOp rIxLH (tVar 0) (tC (.int 5))) tNil))))))) (tMakeR (ga K "Wheel") (sp_Wheel___init__ K) E0 tNil))))))))
def n__law_wheel_of : List Str := ["_law_some"]
theorem rd__law_wheel_of (vs : List V) (H : Hp) (Q : VK) (E : XK) (h : sp__law_wheel_of K vs H Q E) : t__law_wheel_of K w { nx := fun _ H' => Q .non H', rt := Q } (L2.start n__law_wheel_of vs) H := by
  obtain ⟨r, as, W, rfl, hr, hl, hc, ok, q⟩ := h
  have hm := wh_make (K := K) hl hc ok q
  have hp := ok.pos
  have hl5 := ok.len
  unfold t__law_wheel_of n__law_wheel_of tMakeR
  walk_at "rsx2"
  rcases as with _ | ⟨a1, _ | ⟨a2, _ | ⟨a3, _ | ⟨a4, _ | ⟨a5, _ | ⟨a6, as⟩⟩⟩⟩⟩⟩
  · have h : 0 = W.length := hl; omega
  · have h : 1 = W.length := hl
    rw [if_pos (by omega)]
    exact ⟨_, rfl, hm⟩
  · have h : 2 = W.length := hl
    rw [if_neg (by omega), if_pos (by omega)]
    exact ⟨_, rfl, _, rfl, hm⟩
  · have h : 3 = W.length := hl
    rw [if_neg (by omega), if_neg (by omega), if_pos (by omega)]
    exact ⟨_, rfl, _, rfl, _, rfl, hm⟩
  · have h : 4 = W.length := hl
    rw [if_neg (by omega), if_neg (by omega), if_neg (by omega), if_pos (by omega)]
    exact ⟨_, rfl, _, rfl, _, rfl, _, rfl, hm⟩
  · have h : 5 = W.length := hl
    rw [if_neg (by omega), if_neg (by omega), if_neg (by omega), if_neg (by omega), if_pos (by omega)]
    exact ⟨_, rfl, _, rfl, _, rfl, _, rfl, _, rfl, hm⟩
  · have h : as.length + 6 = W.length := hl; omega
def sp__law_made_wheel (K : Frag) : Sp := fun vs H Q _ => ∃ (r : Addr) (W : List Lv), vs = [.ref r] ∧ RowsAt H r W ∧ ROk W ∧ ∀ a H', Same H H' → WhAt K H' a W → Q (.ref a) H'
def t__law_made_wheel (K : Frag) (w : World) : TS :=
  (tRet (tFn (sp__law_wheel_of K) E0 (tCons (tLc (iList K (tVar 0)) (gTup K 3 (gCons (gName 1) (gCons (gName 2) (gCons (gName 3) gNil)))) tYes (tMakeK (ga K "Level") 2 1 (sp_Level___init__ K) gV_Level_span E0 (tCons (tVar 1) (tCons (tVar 2) tNil)) (tCons (tVar 3) tNil)) [1, 2, 3]) tNil)))
def n__law_made_wheel : List Str := ["_law_rows", "_law_grain", "_law_slots", "_law_size"]
theorem rd__law_made_wheel (vs : List V) (H : Hp) (Q : VK) (E : XK) (h : sp__law_made_wheel K vs H Q E) : t__law_made_wheel K w { nx := fun _ H' => Q .non H', rt := Q } (L2.start n__law_made_wheel vs) H := by
  obtain ⟨r, W, rfl, ⟨ts, hr, hl, ht⟩, ok, q⟩ := h
  have hl5 := ok.ok.len
  refine ⟨_, rfl, r, rfl, ⟨_, SqL.of hr⟩, fun D hD => lc_list (K := K) (a := r) (xs := ts.map V.ref)
    (fun i H' => Same H H' ∧ ∃ as : List Addr, as.length = i ∧ H' D = some (.lst (as.map V.ref)) ∧ ∀ j c, as[j]? = some c → LvAt K H' c (lv W j)) ⟨Same.new hD, [], rfl, upd_same, fun j c e => by simp at e⟩ (fun i H' _ z => SqL.of (z.1 _ _ hr)) ?_ ?_⟩
  · rintro i x H1 hx ⟨s1, as, ha, hD1, hc⟩
    obtain ⟨t, hti, rfl⟩ : ∃ c, ts[i]? = some c ∧ x = V.ref c := by
      rw [List.getElem?_map] at hx
      cases e : ts[i]? with
      | none => rw [e] at hx; cases hx
      | some c => rw [e] at hx; exact ⟨c, rfl, (Option.some.inj hx).symm⟩
    have hi : i < ts.length := (List.getElem?_eq_some_iff.mp hti).1
    have hall := ok.ok.all i (by omega)
    refine ⟨t, _, rfl, SqT.of (s1 _ _ (ht i t hti)), rfl, _, _, rfl, _, _, rfl, _, _, rfl, rfl, rfl, ?_⟩
    simp only [tYes, if_true]
    refine ⟨_, rfl, _, rfl, _, rfl, rfl, rfl, fun a dx hx hdx hne => ?_⟩
    refine ⟨a, dx, lv W i, _, rfl, .inl rfl, ok.lok (by omega), hall.2.2.2.2, ok.sp i (by omega), upd_same, fun H2 sx hL => ⟨rfl, ?_⟩⟩
    have s2 := SameX.made hx hdx sx
    refine ⟨as.map V.ref, s2 _ _ hD1, ?_, ?_⟩
    · have : sizeLine = 16777216 := rfl
      rw [List.length_map]
      omega
    have s3 : Same H (upd H2 D (.lst (as.map V.ref ++ [.ref a]))) := Same.updN (s1.trans s2) hD
    have hLu : ∀ {c : Addr} {l : Lv}, LvAt K H2 c l → LvAt K (upd H2 D (.lst (as.map V.ref ++ [.ref a]))) c l := fun {c l} h => by
      obtain ⟨o, d, e⟩ := h
      refine ⟨o, d, ?_⟩
      rw [upd_ne (fun z => by rw [z, s2 _ _ hD1] at e; cases e)]
      exact e
    refine ⟨s3, as ++ [a], by simp [ha], by rw [upd_same, List.map_append]; rfl, fun j c e => ?_⟩
    rw [List.getElem?_append] at e
    split at e
    · exact hLu ((hc j c e).same s2)
    · rename_i hj
      have hj' : j = i := by
        have := (List.getElem?_eq_some_iff.mp e).1
        simp at this
        omega
      subst hj'
      rw [ha, Nat.sub_self] at e
      obtain rfl := Option.some.inj e
      exact hLu hL
  · rintro H1 ⟨s1, as, ha, hD1, hc⟩
    exact ⟨D, as, W, rfl, hD1, by rw [ha, List.length_map, hl], hc, ok.ok, fun a H2 s2 hw => q a H2 (s1.trans s2) hw⟩
end
end Tw
/-! Tw: made books, levels of delays, drawn rows -/
namespace Tw
open PySem PySem.Spec PyProof.Rows L2 He TwM StX
open PySem.W (Frag)
local macro_rules | `(tactic| walk_at "rsy2") => `(tactic| simp only [*, at3_0, at3_1, at3_2, at2_0, at2_1, updS, upd_two, gSub, rSetL, updN, and_assoc, not_true_eq_false, not_false_eq_true, tNever, List.length_map, tFld, rIxTH, rIxLH, rLenTH, rLenLH, lk1, lfs_g, lfs_s, lfs_p, HO.ins.injEq, HO.tup.injEq, HO.lst.injEq, sp_Book_rounding, sp_Book_action, sp_Book_order, sp_Book_due, sp_Book_zero, sp_Book_beyond, Int.toNat_natCast, sp_visit_after, sp_is_visited, sp_Level_grain, sp_Level_slots, sp_Level_span, sp_Wheel_reach, sp_Wheel___len__, sp_is_integer, sp_is_count, sp_is_within, sp_rounded, tSeq, tAsg, gName, tVar, tC, tOp, rI, rI0, rU, tUn, oAdd, oSub, oMul, oDiv, oMod, oNeg, oLt, oLe, oGt, oGe, oIsN, oNotN, tFn, tCons, tNil, tIfS, tIf, tTest, tB, tNot, tAnd, tOr, tAndV, tOrV, tNotV,
    tRet, tRetN, tNext, tCB, tDrop, tChain, rEq, rNe, oMax2, oMin2, oInt1, rLenF, L2.start, List.map_cons, List.map_nil, List.length_cons, List.length_nil, List.replicate_succ, List.replicate_zero, List.cons_append, List.nil_append, Nat.reduceAdd, Nat.reduceSub, Nat.zero_add,
    List.set_cons_zero, List.set_cons_succ, List.getElem?_cons_zero, List.getElem?_cons_succ, Option.some.injEq, V.int.injEq, V.ref.injEq, V.str.injEq, V.bl.injEq, exists_eq_left', exists_eq_left, exists_and_left, List.cons.injEq, and_true, true_and, decide_eq_true_eq, sc_ii, sc_ss, sc_bb, sc_ni, sc_in, sc_nn, sc_is, reduceCtorEq,
    Bool.not_eq_true', decide_eq_false_iff_not, if_true, if_false, Bool.false_eq_true, exists_eq', exists_const, false_and, and_false, or_false, false_or, exists_false, Bool.not_not, Bool.not_true, Bool.not_false, sUp_up, sFire_fire, sHigh_high, sPut_put, sZone_now, sBey_refuse, sBey_cut, tTup, tLst, sz0, sz1, sz2, sz3, sz4, sz5, sz6])
section
variable {K : Frag} {w : World}
theorem bws_sum (B : Bk) : ((bws B).map (·.length)).sum + (bws B).length * (" " : Str).length ≤ 16777216 := by
  have key : ∀ (u f hi p z : Bool), ((bws ⟨u, f, hi, p, z, B.bey⟩).map (·.length)).sum ≤ 24 + (sBey B.bey).length := by
    intro u f hi p z
    have h1 : ∀ u, (sUp u).length ≤ 4 := by decide +kernel
    have h2 : ∀ u, (sFire u).length ≤ 4 := by decide +kernel
    have h3 : ∀ u, (sHigh u).length ≤ 4 := by decide +kernel
    have h4 : ∀ u, (sPut u).length ≤ 4 := by decide +kernel
    have h5 : ∀ u, (sZone u).length ≤ 4 := by decide +kernel
    have := h1 u
    have := h2 f
    have := h3 hi
    have := h4 p
    have := h5 z
    show (sUp u).length + ((sFire f).length + ((sHigh hi).length + ((sPut p).length + ((sZone z).length + ((sBey B.bey).length + 0))))) ≤ _
    omega
  have h6 : (sBey B.bey).length ≤ 6 := by
    match B.bey with
    | 0 => decide +kernel
    | 1 => decide +kernel
    | n + 2 => show ("cut" : Str).length ≤ 6; decide +kernel
  have h7 : (bws B).length = 6 := rfl
  have h8 : (" " : Str).length = 1 := by decide +kernel
  have h9 := key B.up B.fire B.high B.put B.zone
  have h10 : (⟨B.up, B.fire, B.high, B.put, B.zone, B.bey⟩ : Bk) = B := rfl
  rw [h10] at h9
  rw [h7, h8]
  omega
def sp__law_made_book (K : Frag) : Sp := fun vs H Q _ => ∃ (r : Addr) (B : Bk), vs = [.ref r] ∧ H r = some (.lst ((bws B).map V.str)) ∧ B.bey < 3 ∧ ∀ a H', Same H H' → BkAt K H' a B → Q (.ref a) H'
def t__law_made_book (K : Frag) (w : World) : TS :=
  (tRet (ClX.tCMeth (ga K "Book") (sp_Book_from_text K) E0 (tC (.ref (ga K "Book"))) (tCons (tM1 (oJoin K) (tC (.str " ")) (tVar 0)) tNil)))
def n__law_made_book : List Str := ["_law_values"]
theorem rd__law_made_book (vs : List V) (H : Hp) (Q : VK) (E : XK) (h : sp__law_made_book K vs H Q E) : t__law_made_book K w { nx := fun _ H' => Q .non H', rt := Q } (L2.start n__law_made_book vs) H := by
  obtain ⟨r, B, rfl, hr, hb, q⟩ := h
  exact ⟨rfl, ⟨_, rfl⟩, _, rfl, _, r, bws B, rfl, rfl, .inl (SqL.of hr), bws_sum B, B, rfl, hb, q⟩
def sp__law_belongs (K : Frag) : Sp := fun vs H Q _ => ∃ (r : Addr) (d : Int) (W : List Lv), vs = [.ref r, .int d] ∧ RowsAt H r W ∧ ∀ H', Same H H' → Q (optI (levelOf W d)) H'
def t__law_belongs (K : Frag) (w : World) : TS :=
  (tSeq (tFor (iEnum K (tCons (tVar 0) tNil)) (gTup K 2 (gCons (gName 2) (gCons (gName 3) gNil)))
    (tIfS (tTest (tOp oLt (tVar 1) (tOp rIxTH (tVar 3) (tC (.int 2))))) (tRet (tVar 2)) tNext))
  (tRet (tC .non)))
def n__law_belongs : List Str := ["_law_rows", "_law_delay", "_law_index", "_law_row"]
theorem rd__law_belongs (vs : List V) (H : Hp) (Q : VK) (E : XK) (h : sp__law_belongs K vs H Q E) : t__law_belongs K w { nx := fun _ H' => Q .non H', rt := Q } (L2.start n__law_belongs vs) H := by
  obtain ⟨r, d, W, rfl, ⟨ts, hr, hl, ht⟩, q⟩ := h
  unfold t__law_belongs n__law_belongs
  walk_at "rsy2"
  refine ⟨_, rfl, r, _, rfl, SqL.of hr, for_it (walk_enum (K := K) (a := r) (xs := ts.map V.ref))
    (fun i σ H' => ∃ v2 v3, σ = [some (.ref r), some (.int d), v2, v3] ∧ Same H H' ∧ ∀ j, j < i → (lv W j).p ≤ d) ⟨none, none, rfl, Same.refl H, fun j hj => by omega⟩ (fun i σ H' _ ⟨_, _, _, s, _⟩ => SqL.of (s _ _ hr)) ?_ ?_⟩
  · rintro i x σ H1 H2 hi ⟨v2, v3, rfl, s, hp⟩ ⟨Tq, x1, y1, rfl, hn, rfl, hx, hy⟩
    dsimp only at hx hy
    obtain rfl := Option.some.inj hx
    obtain ⟨t, hti, rfl⟩ : ∃ c, ts[i]? = some c ∧ y1 = V.ref c := by
      rw [List.getElem?_map] at hy
      cases e : ts[i]? with
      | none => rw [e] at hy; cases hy
      | some c => rw [e] at hy; exact ⟨c, rfl, (Option.some.inj hy).symm⟩
    have hit : i < W.length := by have := (List.getElem?_eq_some_iff.mp hti).1; omega
    have s' : Same H (upd H1 Tq (.tup [.int (i : Nat), .ref t])) := s.trans (Same.new hn)
    have ht' := s' _ _ (ht i t hti)
    refine ⟨Tq, _, rfl, SqT.of upd_same, rfl, _, _, rfl, _, _, rfl, rfl, ?_⟩
    unfold lvR at ht'
    walk_at "rsy2"
    refine ite2 (fun hlt => ?_) fun hge => ?_
    · have q' := q _ s'
      rw [levelOf_is hit hp hlt] at q'
      exact q'
    · refine fun j hj => ?_
      by_cases hji : j = i
      · subst hji; omega
      · exact hp j (by omega)
  · rintro σ H1 ⟨v2, v3, rfl, s, hp⟩
    have q' := q _ s
    rw [levelOf_isN fun j hj => hp j (by simpa [hl] using hj)] at q'
    exact q'
theorem lv_app_lt {W : List Lv} {l : Lv} {i : Nat} (h : i < W.length) : lv (W ++ [l]) i = lv W i := by
  unfold lv
  rw [List.getD_eq_getElem?_getD, List.getD_eq_getElem?_getD, List.getElem?_append_left h]
theorem lv_app_eq {W : List Lv} {l : Lv} : lv (W ++ [l]) W.length = l := by
  unfold lv
  rw [List.getD_eq_getElem?_getD, List.getElem?_append_right (Nat.le_refl _), Nat.sub_self]
  rfl
theorem ROk.snoc {W : List Lv} {g s x : Int} (h : W.length = 0 ∧ g = 1 ∨ ROk W ∧ (lv W (W.length - 1)).g ∣ g ∧ (lv W (W.length - 1)).p < x) (hl : W.length ≤ 4) (g1 : 1 ≤ g) (g2 : g ≤ 1000) (s1 : 2 ≤ s) (s2 : s ≤ 100) (x1 : 2 ≤ x) (x2 : x ≤ 4 * s * g) :
    ROk (W ++ [⟨g, s, x⟩]) := by
  have hlen : (W ++ [(⟨g, s, x⟩ : Lv)]).length = W.length + 1 := by simp
  have hpos : 0 < W.length → ROk W ∧ (lv W (W.length - 1)).g ∣ g ∧ (lv W (W.length - 1)).p < x := fun hp => h.elim (fun z => by omega) id
  refine ⟨⟨by omega, by omega, fun i hi => ?_, ?_, fun i hi => ?_, fun i hi => ?_⟩, fun i hi => ?_⟩
  · rcases Nat.lt_or_ge i W.length with hi' | hi'
    · rw [lv_app_lt hi']; exact (hpos (by omega)).1.ok.all i hi'
    · obtain rfl : i = W.length := by omega
      rw [lv_app_eq]; exact ⟨g1, g2, s1, s2, x1⟩
  · rcases Nat.eq_zero_or_pos W.length with h0 | h0
    · have : lv (W ++ [(⟨g, s, x⟩ : Lv)]) 0 = ⟨g, s, x⟩ := by rw [← h0]; exact lv_app_eq
      rw [this]
      exact h.elim (fun z => z.2) fun z => by have := z.1.ok.pos; omega
    · rw [lv_app_lt h0]; exact (hpos h0).1.ok.first
  · rw [hlen] at hi
    rw [lv_app_lt (by omega)]
    rcases Nat.lt_or_ge (i + 1) W.length with hi' | hi'
    · rw [lv_app_lt hi']; exact (hpos (by omega)).1.ok.dv i hi'
    · have e : i + 1 = W.length := by omega
      rw [e, lv_app_eq]
      have := (hpos (by omega)).2.1
      rwa [← e, Nat.add_sub_cancel] at this
  · rw [hlen] at hi
    rw [lv_app_lt (by omega)]
    rcases Nat.lt_or_ge (i + 1) W.length with hi' | hi'
    · rw [lv_app_lt hi']; exact (hpos (by omega)).1.ok.asc i hi'
    · have e : i + 1 = W.length := by omega
      rw [e, lv_app_eq]
      have := (hpos (by omega)).2.2
      rwa [← e, Nat.add_sub_cancel] at this
  · rcases Nat.lt_or_ge i W.length with hi' | hi'
    · rw [lv_app_lt hi']; exact (hpos (by omega)).1.sp i hi'
    · obtain rfl : i = W.length := by omega
      rw [lv_app_eq]; exact x2
/-- what stands after i turns -/
structure Grown (W : List Lv) (i : Nat) (g low : Int) : Prop where
  len : W.length = i
  z : i = 0 → g = 1 ∧ low = 1
  p : 0 < i → ROk W ∧ g = (lv W (i - 1)).g ∧ low = (lv W (i - 1)).p ∧ g ≤ 200
theorem RowsAt.sameP {p l r : Addr} {H H1 : Hp} {W : List Lv} (hp : PoolAt H p l) (e : RowsAt H r W) (s : SameP p l H H1) (h1 : r ≠ p) (h2 : r ≠ l) : RowsAt H1 r W := by
  obtain ⟨ts, a, b, c⟩ := e
  exact ⟨ts, s _ _ h1 h2 a, b, fun i t q => hp.tup s (c i t q)⟩
theorem RowsAt.same {r : Addr} {H H1 : Hp} {W : List Lv} (e : RowsAt H r W) (s : Same H H1) : RowsAt H1 r W := by
  obtain ⟨ts, a, b, c⟩ := e
  exact ⟨ts, s _ _ a, b, fun i t q => s _ _ (c i t q)⟩
theorem RowsAt.snoc {r t : Addr} {H : Hp} {W : List Lv} {l : Lv} {ts : List Addr} (a : H r = some (.lst (ts.map V.ref))) (b : ts.length = W.length) (c : ∀ i t, ts[i]? = some t → H t = some (.tup (lvR (lv W i)))) (ht : H t = some (.tup (lvR l))) :
    RowsAt (upd H r (.lst (ts.map V.ref ++ [.ref t]))) r (W ++ [l]) := by
  have hne : ∀ {q : Addr} {xs : List V}, H q = some (.tup xs) → q ≠ r := fun {q xs} h e => by rw [e, a] at h; cases h
  refine ⟨ts ++ [t], by rw [upd_same, List.map_append]; rfl, by simp [b], fun i q e => ?_⟩
  rw [List.getElem?_append] at e
  split at e
  · rename_i hi
    have h := c i q e
    rw [upd_ne (hne h), h, lv_app_lt (by omega)]
  · rename_i hi
    have hi' : i = ts.length := by
      have := (List.getElem?_eq_some_iff.mp e).1
      simp at this
      omega
    subst hi'
    rw [Nat.sub_self] at e
    obtain rfl := Option.some.inj e
    rw [upd_ne (hne ht), ht, b, lv_app_eq]
def sp__law_wide (K : Frag) : Sp := fun vs H Q _ => ∃ (p l : Addr), vs = [.ref p] ∧ PoolAt H p l ∧
  ∀ (r : Addr) (W : List Lv) (H' : Hp), SameP p l H H' → PoolAt H' p l → H r = none → RowsAt H' r W → ROk W → Q (.ref r) H'
def wideInv (p l r : Addr) (H : Hp) (i : Nat) (σ : L2.St) (H' : Hp) : Prop :=
  ∃ (W : List Lv) (g low : Int) (v4 v5 : Option V), σ = [some (.ref p), some (.ref r), some (.int g), some (.int low), v4, v5] ∧ SameP p l H H' ∧ PoolAt H' p l ∧ RowsAt H' r W ∧ Grown W i g low
theorem SameP.updf {p l r : Addr} {H H1 : Hp} {o : HO} (h : SameP p l H H1) (hr : H r = none) : SameP p l H (upd H1 r o) := fun b u n m e => by
  rw [upd_ne (ne_of_none e hr)]; exact h b u n m e
theorem PoolAt.updr {p l r : Addr} {H : Hp} {o : HO} (h : PoolAt H p l) (n : r ≠ p ∧ r ≠ l) : PoolAt (upd H r o) p l := by
  obtain ⟨n0, cs, i1, i2, i3, i4, h1, h2, h3⟩ := h
  exact ⟨n0, cs, i1, i2, i3, i4, by rw [upd_ne (fun e => n.1 e.symm)]; exact h1, by rw [upd_ne (fun e => n.2 e.symm)]; exact h2, h3⟩
theorem wide_rest {p l r : Addr} {H Hd : Hp} {Q : VK} {W : List Lv} {G low : Int} {i : Nat} (ap : r ≠ p ∧ r ≠ l) (hr : H r = none) (hpd : PoolAt Hd p l) (sc : SameP p l H Hd) (hrc : RowsAt Hd r W) (hWi : W.length = i) (hi : i ≤ 3) (hG1 : 1 * 1 ≤ G) (hG2 : G ≤ 200 * 60)
    (hGd : W.length = 0 ∧ G = 1 ∧ low = 1 ∨ ROk W ∧ (lv W (W.length - 1)).g ∣ G ∧ low = (lv W (W.length - 1)).p)
    (q : ∀ (r : Addr) (W : List Lv) (H' : Hp), SameP p l H H' → PoolAt H' p l → H r = none → RowsAt H' r W → ROk W → Q (.ref r) H') :
    sp__law_draw K [.ref p, .int 99] Hd (fun y H2 => ∃ x, y = .int x ∧ ∀ (p_1 : Addr), H2 p_1 = none →
      sp__law_draw K [.ref p, .int 3] (upd H2 p_1 (.lst [.int 2, .int 3, .int (2 + x)])) (fun y H2 => ∃ x x_1, y = .int x_1 ∧ H2 p_1 = some (.lst x) ∧ ∃ x_2, atI x x_1 = some x_2 ∧
        if 200 < G then Q (.ref r) H2
        else ∃ x, x_2 = V.int x ∧ CMul 4 x ∧ CMul (4 * x) G ∧
          if 4 * x * G < low + 1 then Q (V.ref r) H2
          else sp__law_span K [V.ref p, V.int G, x_2, V.int low] H2 (fun x H1 => tyV K "list" (V.ref r) H1 ∧ ∀ (p_2 : Addr), H1 p_2 = none →
            ∃ x_3, upd H1 p_2 (HO.tup [V.int G, x_2, x]) r = some (HO.lst x_3) ∧ x_3.length < sizeLine ∧
              wideInv p l r H (i + 1) [some (V.ref p), some (V.ref r), some (V.int G), some x, some (V.int (0 + ↑i)), some x_2] (upd (upd H1 p_2 (HO.tup [V.int G, x_2, x])) r (HO.lst (x_3 ++ [V.ref p_2])))) E0) E0) E0 := by
  refine draw (K := K) hpd (by decide) (by decide) fun j1 He s2 hpe c1 c2 => ⟨j1, rfl, fun r2 hr2 => ?_⟩
  refine drawAt hpe hr2 (by decide) (by decide) rfl fun j2 x2 Hf s3 hpf _ d1 d2 d3 => ?_
  obtain ⟨s, hs, hse⟩ := atInts (xs := [2, 3, 2 + j1]) d1 d2
  obtain rfl : x2 = .int s := by
    have : atI ([2, 3, 2 + j1].map V.int) j2 = some x2 := d3
    rw [hse] at this
    exact (Option.some.inj this).symm
  have hs1 : 2 ≤ s ∧ s ≤ 100 := by
    simp at hs
    omega
  have h8 : 4 * 2 * 1 ≤ 4 * s * G := Int.mul_le_mul (by omega) (by omega) (by omega) (by omega)
  have scf := (sc.trans s2).trans s3
  have hrf := RowsAt.sameP hpe (RowsAt.sameP hpd hrc s2 ap.1 ap.2) s3 ap.1 ap.2
  refine ite2 (fun e => ?_) fun e => ⟨s, rfl, .inr ⟨by omega, by omega⟩, .inr ⟨by omega, by omega⟩, ite2 (fun e2 => ?_) fun e2 => ?_⟩
  · exact q r W Hf scf hpf hr hrf (hGd.elim (fun z => by omega) fun z => z.1)
  · exact q r W Hf scf hpf hr hrf (hGd.elim (fun z => by omega) fun z => z.1)
  · refine ⟨p, l, G, s, low, rfl, hpf, by omega, by omega, by omega, by omega, fun x Hg s4 hpg x1 x2 x3 => ?_⟩
    have hrg := RowsAt.sameP hpf hrf s4 ap.1 ap.2
    obtain ⟨ts, ha, hb, hc⟩ := hrg
    refine ⟨.inl ⟨rfl, _, SqL.of ha⟩, fun t ht => ?_⟩
    have hrt : r ≠ t := ne_of_none ha ht
    have s5 : Same Hg (upd Hg t (.tup [.int G, .int s, .int x])) := Same.new ht
    refine ⟨ts.map V.ref, s5 _ _ ha, ?_, ?_⟩
    · have : sizeLine = 16777216 := rfl
      rw [List.length_map]
      omega
    · have hx : x ≤ 4 * s * G := by
        rcases x3 (by omega) with z | z <;> omega
      have hlow : low < x := x2
      have hW4 : W.length ≤ 4 := by omega
      refine ⟨W ++ [⟨G, s, x⟩], G, x, _, _, rfl, SameP.updf ((scf.trans s4).step s5) hr, (hpg.new ht).updr ap, RowsAt.snoc (s5 _ _ ha) hb (fun i t q => s5 _ _ (hc i t q)) (updS _ _ _), ⟨by simp [hWi], fun z => by omega, fun _ => ?_⟩⟩
      have e1 : lv (W ++ [(⟨G, s, x⟩ : Lv)]) (i + 1 - 1) = ⟨G, s, x⟩ := by rw [Nat.add_sub_cancel, ← hWi]; exact lv_app_eq
      rw [e1]
      refine ⟨ROk.snoc ?_ hW4 (by omega) (by omega) hs1.1 hs1.2 x1 hx, rfl, rfl, by omega⟩
      exact hGd.elim (fun z => .inl ⟨z.1, z.2.1⟩) fun z => .inr ⟨z.1, z.2.1, by have := z.2.2; omega⟩
def t__law_wide (K : Frag) (w : World) : TS :=
  (tSeq (tPar3 1 2 3 (tCons (tLst tNil) (tCons (tC (.int 1)) (tCons (tC (.int 1)) tNil))))
  (tSeq (tFor (iRng1 (tCons (tOp oAdd (tC (.int 1)) (tFn (sp__law_draw K) E0 (tCons (tVar 0) (tCons (tC (.int 4)) tNil)))) tNil)) (gName 4)
    (tSeq (tIfS (tTest (tOp oGt (tVar 4) (tC (.int 0)))) (tAsg (tOp oMul (tVar 2) (tOp rIxLH (tLst (tCons (tC (.int 1)) (tCons (tC (.int 2)) (tCons (tC (.int 3)) (tCons (tC (.int 10)) (tCons (tC (.int 24)) (tCons (tC (.int 60)) tNil))))))) (tFn (sp__law_draw K) E0 (tCons (tVar 0) (tCons (tC (.int 6)) tNil))))) (gName 2)) tNext)
  (tSeq (tAsg (tOp rIxLH (tLst (tCons (tC (.int 2)) (tCons (tC (.int 3)) (tCons (tOp oAdd (tC (.int 2)) (tFn (sp__law_draw K) E0 (tCons (tVar 0) (tCons (tC (.int 99)) tNil)))) tNil)))) (tFn (sp__law_draw K) E0 (tCons (tVar 0) (tCons (tC (.int 3)) tNil)))) (gName 5))
  (tSeq (tIfS (tOr (tTest (tOp oGt (tVar 2) (tC (.int 200)))) (tTest (tOp oGt (tOp oAdd (tVar 3) (tC (.int 1))) (tOp oMul (tOp oMul (tC (.int 4)) (tVar 5)) (tVar 2))))) (tRet (tVar 1)) tNext)
  (tSeq (tAsg (tFn (sp__law_span K) E0 (tCons (tVar 0) (tCons (tVar 2) (tCons (tVar 5) (tCons (tVar 3) tNil))))) (gName 3))
  (tDrop (tBM K "list" rAppend (tVar 1) (tCons (tTup (tCons (tVar 2) (tCons (tVar 5) (tCons (tVar 3) tNil)))) tNil))))))))
  (tRet (tVar 1))))
def n__law_wide : List Str := ["_law_pool", "_law_rows", "_law_grain", "_law_low", "_law_k", "_law_slots"]
theorem rd__law_wide (vs : List V) (H : Hp) (Q : VK) (E : XK) (h : sp__law_wide K vs H Q E) : t__law_wide K w { nx := fun _ H' => Q .non H', rt := Q } (L2.start n__law_wide vs) H := by
  obtain ⟨p, l, rfl, hp, q⟩ := h
  unfold t__law_wide n__law_wide tPar3 tBM rAppend
  walk_at "rsy2"
  intro r hr
  have ap := hp.apart hr
  have hp0 := hp.new (o := .lst []) hr
  refine ⟨_, rfl, draw (K := K) hp0 (by decide) (by decide) fun n0 H0 s0 hp1 n1 n2 => ⟨_, _, rfl, rfl, _, rfl, by omega, by omega, for_range
    (wideInv p l r H)
    ⟨[], 1, 1, none, none, rfl, ((SameP.refl p l H).step (Same.new hr)).trans s0, hp1, ⟨[], s0 _ _ ap.1 ap.2 (updS _ _ _), rfl, fun i t e => by simp at e⟩, ⟨rfl, fun _ => ⟨rfl, rfl⟩, fun z => by omega⟩⟩ ?_ ?_⟩⟩
  · rintro i σ Hc hi ⟨W, g, low, v4, v5, rfl, sc, hpc, hrc, hG⟩
    have hWi := hG.len
    walk_at "rsy2"
    refine ite2 (fun h0 => ?_) fun h0 => ?_
    · obtain ⟨hRk, hg, hlow, hg2⟩ := hG.p (by omega)
      have hall := hRk.ok.all (i - 1) (by omega)
      intro r1 hr1
      refine drawAt hpc hr1 (by decide) (by decide) rfl fun i1 x1 Hd s1 hpd _ a1 b1 c1 => ?_
      have apc := hpc.apart hr1
      obtain ⟨f, hf, hfe⟩ := atInts (xs := [1, 2, 3, 10, 24, 60]) a1 b1
      obtain rfl : x1 = .int f := by
        have : atI ([1, 2, 3, 10, 24, 60].map V.int) i1 = some x1 := c1
        rw [hfe] at this
        exact (Option.some.inj this).symm
      have hf1 : 1 ≤ f ∧ f ≤ 60 := by
        simp at hf
        omega
      have hG1 : 1 * 1 ≤ g * f := Int.mul_le_mul (by omega) hf1.1 (by omega) (by omega)
      have hG2 : g * f ≤ 200 * 60 := Int.mul_le_mul hg2 hf1.2 (by omega) (by omega)
      have hGd : W.length = 0 ∧ g * f = 1 ∧ low = 1 ∨ ROk W ∧ (lv W (W.length - 1)).g ∣ g * f ∧ low = (lv W (W.length - 1)).p := .inr ⟨hRk, by rw [hWi, ← hg]; exact Int.dvd_mul_right _ _, by rw [hWi]; exact hlow⟩
      have sc := sc.trans s1
      have hrc := RowsAt.sameP hpc hrc s1 ap.1 ap.2
      refine ⟨f, rfl, .inr ⟨by omega, by omega⟩, ?_⟩
      generalize g * f = G at hG1 hG2 hGd ⊢
      exact wide_rest ap hr hpd sc hrc hWi (by omega) hG1 hG2 hGd q
    · obtain ⟨hg1, hlow1⟩ := hG.z (by omega)
      exact wide_rest ap hr hpc sc hrc hWi (by omega) (by omega) (by omega) (.inl ⟨by omega, hg1, hlow1⟩) q
  · rintro σ H1 ⟨W, g, low, v4, v5, rfl, sc, hpc, hrc, hG⟩
    exact ⟨_, rfl, q r W H1 sc hpc hr hrc (hG.p (by omega)).1⟩
end
end Tw
/-! Tw: small words for the laws' bodies -/
namespace Tw
open PySem PySem.Spec PyProof.Rows L2 He TwM StX
open PySem.W (Frag)
theorem ite_same {c : Prop} [Decidable c] {A B C : Prop} (h1 : c → C → A) (h2 : ¬c → C → B) (h : C) : if c then A else B := ite2 (fun q => h1 q h) fun q => h2 q h
theorem gName1 (i : Nat) (v : V) (σ : L2.St) (H : Hp) (Q : L2.St → Hp → Prop) : gName i v σ H Q = Q (σ.set i (some v)) H := rfl
theorem seq1 (a b : TS) (D : Ends) (σ : L2.St) (H : Hp) : tSeq a b D σ H = a { D with nx := b D } σ H := rfl
theorem ROk.small {W : List Lv} (h : ROk W) {i : Nat} (hi : i < W.length) : (lv W i).p ≤ 400000 := by
  have h1 := h.ok.all i hi
  have h2 := h.sp i hi
  have h3 : 4 * (lv W i).s * (lv W i).g ≤ 400 * 1000 := Int.mul_le_mul (by omega) (by omega) (by omega) (by omega)
  omega
end Tw
/-! Tw: spots as data -/
namespace Tw
open PySem PySem.Spec PyProof.Rows L2 He TwM
open PySem.W (Frag)
section
variable {K : Frag} {H : Hp}
def dSp : Option Spot → PyData
  | none => .none
  | some sp => .tuple [.int sp.lv, .int sp.pt, .int sp.due]
theorem OSp.dp {v : V} {o : Option Spot} (h : OSp H v o) : Dp K H v (dSp o) := by
  cases o with
  | none =>
    have e : v = .non := h
    subst e
    exact .non
  | some sp =>
    obtain ⟨p, rfl, hp⟩ := h
    exact .tup (SqT.of hp) (.cons (.int _) (.cons (.int _) (.cons (.int _) .nil)))
theorem OSps.dp : ∀ {xs : List V} {os : List (Option Spot)}, OSps H xs os → DpAll K H xs (os.map dSp)
  | [], [], _ => .nil
  | [], _ :: _, h => by have := h.1; simp at this
  | _ :: _, [], h => by have := h.1; simp at this
  | x :: xs, o :: os, h => .cons (h.2 0 x o rfl rfl).dp (OSps.dp (xs := xs) (os := os) ⟨by have := h.1; simpa using this, fun i v q e1 e2 => h.2 (i + 1) v q (by simpa using e1) (by simpa using e2)⟩)
theorem dSp_lay (o : Option Spot) : (dSp o).canLay0 = true := by cases o <;> rfl
theorem dSp_depth (o : Option Spot) : (dSp o).depth ≤ 1 := by
  cases o with
  | none => exact Nat.zero_le _
  | some sp => exact Nat.le_refl _
theorem lay_all : ∀ os : List (Option Spot), PyData.canLayAll0 (os.map dSp) = true
  | [] => rfl
  | o :: os => by
    show ((dSp o).canLay0 && PyData.canLayAll0 (os.map dSp)) = true
    rw [dSp_lay, lay_all os]
    rfl
theorem depth_all : ∀ os : List (Option Spot), PyData.depthAll (os.map dSp) ≤ 1
  | [] => Nat.zero_le _
  | o :: os => by
    show max (dSp o).depth (PyData.depthAll (os.map dSp)) ≤ 1
    have := dSp_depth o
    have := depth_all os
    omega
theorem shaped_list (os : List (Option Spot)) : SeqAt.shaped (.list (os.map dSp)) = true := by
  unfold SeqAt.shaped
  rw [show (PyData.list (os.map dSp)).canLay0 = PyData.canLayAll0 (os.map dSp) from rfl, lay_all]
  have := depth_all os
  exact decide_eq_true (show PyData.depthAll (os.map dSp) + 1 ≤ 64 by omega)
theorem shaped_sp (o : Option Spot) : SeqAt.shaped (dSp o) = true := by
  unfold SeqAt.shaped
  rw [dSp_lay]
  exact decide_eq_true (Nat.le_trans (dSp_depth o) (by decide))
theorem eqv_nil (os : List (Option Spot)) : PyData.eqv (.list (os.map dSp)) (.list []) = os.isEmpty := by
  cases os with
  | nil => rfl
  | cons o os => rfl
end
/-- what a waiting timer is after a lump -/
def passM (W : List Lv) (B : Bk) (sp : Spot) (before now : Int) (mode : Str) : Option Spot :=
  if mode = "each" then
    match fol W B (some now) (mu sp before) sp before 0 with
    | some r => r.1
    | none => none
  else
    match (visited W B sp (if mode = "last" then now - 1 else before) now).getLast? with
    | none => some sp
    | some o => o
end Tw
/-! Tw: whole starts later by grains -/
namespace Tw
open TwM
theorem levelIx_lt {W : List Lv} (ok : WOk W) (d : Int) : TwM.levelIx W d < W.length := by
  have hp := ok.pos
  unfold TwM.levelIx
  cases h : levelOf W d with
  | none => show W.length - 1 < W.length; omega
  | some i => exact (levelOf_lt h).1
theorem levelIx_mono {W : List Lv} (ok : WOk W) {d d' : Int} (h : d ≤ d') : TwM.levelIx W d ≤ TwM.levelIx W d' := by
  have h1 := levelIx_lt ok d
  unfold TwM.levelIx at h1 ⊢
  cases e' : levelOf W d' with
  | none => rw [show (none : Option Nat).getD (W.length - 1) = W.length - 1 from rfl]; omega
  | some i =>
    obtain ⟨a1, a2⟩ := levelOf_lt e'
    cases e : levelOf W d with
    | none => have := levelOf_none e i a1; omega
    | some j =>
      show j ≤ i
      rcases Nat.lt_or_ge i j with hj | hj
      · have := levelOf_ge e i hj; omega
      · exact hj
theorem spotAt_lv (W : List Lv) (B : Bk) (now rest due : Int) : (spotAt W B now rest due).lv = TwM.levelIx W rest := by
  unfold spotAt TwM.levelIx
  split <;> rename_i h <;> rw [h] <;> rfl
/-- the grains up to the level k divide D -/
def Dv (W : List Lv) (k : Nat) (D : Int) : Prop := ∀ j, j ≤ k → (lv W j).g ∣ D
def sh (W : List Lv) (D : Int) (sp : Spot) : Spot := ⟨sp.lv, sp.pt + D / (lv W sp.lv).g, sp.due + D⟩
theorem rnd_shift {up : Bool} {t g m : Int} (hg : 0 < g) : rnd up (t + g * m) g = rnd up t g + m := by
  unfold rnd
  split
  · rw [show -(t + g * m) = -t + g * (-m) by rw [Int.mul_neg]; omega, Int.add_mul_ediv_left _ _ (by omega)]; omega
  · rw [Int.add_mul_ediv_left _ _ (by omega)]
theorem rnd_shiftD {up : Bool} {t g D : Int} (hg : 0 < g) (hd : g ∣ D) : rnd up (t + D) g = rnd up t g + D / g := by
  obtain ⟨m, rfl⟩ := hd
  rw [rnd_shift hg, Int.mul_ediv_cancel_left _ (by omega)]
theorem div_shift {t g D : Int} (hg : 0 < g) (hd : g ∣ D) : (t + D) / g = t / g + D / g := by
  obtain ⟨m, rfl⟩ := hd
  rw [Int.add_mul_ediv_left _ _ (by omega), Int.mul_ediv_cancel_left _ (by omega)]
theorem va_shift {l : Lv} {pt now D : Int} (hg : 0 < l.g) (hd : l.g ∣ D) : va l (pt + D / l.g) (now + D) = va l pt now + D := by
  unfold va
  rw [div_shift hg hd]
  have e : pt + D / l.g - (now / l.g + D / l.g) - 1 = pt - now / l.g - 1 := by omega
  rw [e]
  have e2 : now / l.g + D / l.g + 1 + (pt - now / l.g - 1) % l.s = (now / l.g + 1 + (pt - now / l.g - 1) % l.s) + D / l.g := by omega
  rw [e2, Int.add_mul, Int.ediv_mul_cancel hd]
theorem isVis_shift {l : Lv} {pt b now D : Int} (hg : 0 < l.g) (hd : l.g ∣ D) : isVis l (pt + D / l.g) (b + D) (now + D) = isVis l pt b now := by
  unfold isVis
  rw [div_shift hg hd, div_shift hg hd]
  have e : pt + D / l.g - (b / l.g + D / l.g) - 1 = pt - b / l.g - 1 := by omega
  have e2 : now / l.g + D / l.g - (b / l.g + D / l.g) = now / l.g - b / l.g := by omega
  rw [e, e2]
section
variable {W : List Lv} {B : Bk} {k : Nat} {D : Int}
theorem spotAt_shift (ok : WOk W) (hD : Dv W k D) {now rest due : Int} (hr : TwM.levelIx W rest ≤ k) : spotAt W B (now + D) rest (due + D) = sh W D (spotAt W B now rest due) := by
  have hp := ok.pos
  unfold TwM.levelIx at hr
  unfold spotAt sh
  cases e : levelOf W rest with
  | none =>
    rw [e] at hr
    have hr' : W.length - 1 ≤ k := hr
    have hg := (ok.all (W.length - 1) (by omega)).1
    dsimp only
    rw [show now + D + reach W - 1 = (now + reach W - 1) + D by omega, rnd_shiftD (by omega) (hD _ hr')]
  | some i =>
    rw [e] at hr
    have hr' : i ≤ k := hr
    have hg := (ok.all i (levelOf_lt e).1).1
    dsimp only
    rw [show now + D + rest = (now + rest) + D by omega, rnd_shiftD (by omega) (hD _ hr')]
theorem taken_shift (ok : WOk W) (hD : Dv W k D) {sp : Spot} {tick : Int} (hr : TwM.levelIx W (sp.due - tick) ≤ k) : taken W B (sh W D sp) (tick + D) = (taken W B sp tick).map (sh W D) := by
  unfold taken
  have e1 : (sh W D sp).lv = sp.lv := rfl
  have e2 : (sh W D sp).due = sp.due + D := rfl
  rw [e1, e2]
  split
  · rfl
  · by_cases h : tick < sp.due
    · rw [if_pos (by omega), if_pos h, show sp.due + D - (tick + D) = sp.due - tick by omega, spotAt_shift ok hD hr]
      rfl
    · rw [if_neg (by omega), if_neg h]
      split
      · show some _ = some _
        unfold sh
        dsimp only
        rw [ok.first, Int.ediv_one]
      · rfl
theorem visGo_shift (ok : WOk W) (hD : Dv W k D) {before now : Int} : ∀ (is : List Nat) {sp : Spot}, sp.lv ≤ k → sp.lv < W.length → TwM.levelIx W (sp.due - now) ≤ k → visGo W B (before + D) (now + D) is (sh W D sp) = (visGo W B before now is sp).map (Option.map (sh W D))
  | [], sp, _, _, _ => rfl
  | i :: is, sp, hk, hl, hr => by
    have hg := (ok.all sp.lv hl).1
    unfold visGo
    have e1 : (sh W D sp).lv = sp.lv := rfl
    have e3 : (sh W D sp).pt = sp.pt + D / (lv W sp.lv).g := rfl
    rw [e1, e3]
    by_cases hc : sp.lv = i ∧ isVis (lv W i) sp.pt before now = true
    · have hc' : sp.lv = i ∧ isVis (lv W i) (sp.pt + D / (lv W sp.lv).g) (before + D) (now + D) = true := ⟨hc.1, by rw [← hc.1, isVis_shift (by omega) (hD _ hk), hc.1]; exact hc.2⟩
      rw [if_pos hc, if_pos hc', taken_shift ok hD hr]
      cases e : taken W B sp now with
      | none => rfl
      | some s' =>
        obtain ⟨a1, a2, a3, a4, a5⟩ := taken_some ok e
        have hk' : s'.lv ≤ k := by
          rcases a5 with ⟨b1, b2⟩ | ⟨b1, b2, b3⟩
          · rw [b2, spotAt_lv]; exact hr
          · rw [b3]; exact Nat.zero_le _
        have ih := visGo_shift ok hD (before := before) (now := now) is (sp := s') hk' a1 (by rw [a2]; exact hr)
        show some (sh W D s') :: visGo W B (before + D) (now + D) is (sh W D s') = _
        rw [ih]
        rfl
    · have hc' : ¬ (sp.lv = i ∧ isVis (lv W i) (sp.pt + D / (lv W sp.lv).g) (before + D) (now + D) = true) := fun z => hc ⟨z.1, by
        have := z.2
        rw [← z.1, isVis_shift (by omega) (hD _ hk), z.1] at this
        exact this⟩
      rw [if_neg hc, if_neg hc']
      exact visGo_shift ok hD is hk hl hr
theorem visited_shift (ok : WOk W) (hD : Dv W k D) {before now : Int} {sp : Spot} (hk : sp.lv ≤ k) (hl : sp.lv < W.length) (hr : TwM.levelIx W (sp.due - now) ≤ k) : visited W B (sh W D sp) (before + D) (now + D) = (visited W B sp before now).map (Option.map (sh W D)) :=
  visGo_shift ok hD _ hk hl hr
theorem skipped_shift (ok : WOk W) (hD : Dv W k D) {tick : Int} {sp : Spot} (hk : sp.lv ≤ k) (hl : sp.lv < W.length) : skipped W (sh W D sp) (tick + D) none = skipped W sp tick none := by
  have hg := (ok.all sp.lv hl).1
  have e1 : (sh W D sp).lv = sp.lv := rfl
  have e2 : (sh W D sp).due = sp.due + D := rfl
  have e3 : (sh W D sp).pt = sp.pt + D / (lv W sp.lv).g := rfl
  unfold skipped
  rw [e1, e2, e3, va_shift (by omega) (hD _ hk), show sp.due + D - (tick + D) = sp.due - tick by omega, show va (lv W sp.lv) sp.pt tick + D - (tick + D) = va (lv W sp.lv) sp.pt tick - tick by omega]
def shR (W : List Lv) (D : Int) (r : Res) : Res := (r.1.map (sh W D), r.2.1 + D, r.2.2)
theorem fol_shift (ok : WOk W) (hD : Dv W k D) : ∀ (n : Nat) {sp : Spot} {tick mv : Int}, sp.lv ≤ k → sp.lv < W.length → TwM.levelIx W (sp.due - tick) ≤ k → fol W B none n (sh W D sp) (tick + D) mv = (fol W B none n sp tick mv).map (shR W D)
  | 0, sp, tick, mv, _, _, _ => rfl
  | n + 1, sp, tick, mv, hk, hl, hr => by
    have hall := ok.all sp.lv hl
    have hgt := va_gt (l := lv W sp.lv) (by omega) (by omega) sp.pt tick
    have e1 : (sh W D sp).lv = sp.lv := rfl
    have e3 : (sh W D sp).pt = sp.pt + D / (lv W sp.lv).g := rfl
    unfold fol
    rw [e1, e3, va_shift (by omega) (hD _ hk)]
    generalize ht : va (lv W sp.lv) sp.pt tick = t at hgt ⊢
    have hr' : TwM.levelIx W (sp.due - t) ≤ k := Nat.le_trans (levelIx_mono ok (by omega)) hr
    dsimp only
    rw [show over none (t + D) = false from rfl, show over none t = false from rfl, if_neg Bool.false_ne_true, if_neg Bool.false_ne_true]
    rw [show t + D - 1 = (t - 1) + D by omega, visited_shift ok hD hk hl hr', List.getLast?_map, List.length_map]
    cases e : (visited W B sp (t - 1) t).getLast? with
    | none => rfl
    | some o =>
      cases o with
      | none => rfl
      | some s' =>
        obtain ⟨c1, c2, c3, c4⟩ := visGo_last ok _ e
        have hk' : s'.lv ≤ k := by
          rcases c4 with ⟨b1, b2⟩ | ⟨b1, b2⟩
          · rw [b2, spotAt_lv]; exact hr'
          · rw [b2]; exact Nat.zero_le _
        show (if 0 < (skipped W (sh W D s') (t + D) none).1 then _ else _) = _
        rw [skipped_shift ok hD hk' c1]
        dsimp only [Option.map]
        by_cases h0 : 0 < (skipped W s' t none).1
        · rw [if_pos h0, if_pos h0]
          have hk2 : 0 < (skipped W s' t none).2 := by
            obtain ⟨_, _, k3, _⟩ := skipped_pos h0
            have hall' := ok.all _ c1
            have := va_gt (l := lv W s'.lv) (by omega) (by omega) s'.pt t
            rw [k3]; omega
          have hpos : 0 < (skipped W s' t none).1 * (skipped W s' t none).2 := Int.mul_pos h0 hk2
          generalize (skipped W s' t none).1 * (skipped W s' t none).2 = j at hpos ⊢
          have hr2 : TwM.levelIx W (s'.due - (t + j)) ≤ k := Nat.le_trans (levelIx_mono ok (by rw [c2]; omega)) hr'
          have e4 : (sh W D s').due = s'.due + D := rfl
          rw [e4, show t + D + j = (t + j) + D by omega, show s'.due + D - (t + j + D) = s'.due - (t + j) by omega, spotAt_shift ok hD hr2]
          exact fol_shift ok hD n (by rw [spotAt_lv]; exact hr2) (spotAt_lt ok _ _ _ _) (by rw [spotAt_due]; exact hr2)
        · rw [if_neg h0, if_neg h0]
          exact fol_shift ok hD n hk' c1 (by rw [c2]; exact hr')
theorem dvd_le (ok : WOk W) : ∀ (n j : Nat), j + n < W.length → (lv W j).g ∣ (lv W (j + n)).g
  | 0, j, _ => Int.dvd_refl _
  | n + 1, j, h => Int.dvd_trans (dvd_le ok n j (by omega)) (ok.dv (j + n) (by omega))
theorem dv_of (ok : WOk W) (hk : k < W.length) (m : Int) : Dv W k ((lv W k).g * m) := fun j hj => by
  have := dvd_le ok (k - j) j (by omega)
  rw [show j + (k - j) = k by omega] at this
  exact Int.dvd_trans this (Int.dvd_mul_right _ _)
theorem asc_le (ok : WOk W) : ∀ (n j : Nat), j + n + 1 < W.length → (lv W j).p < (lv W (j + n + 1)).p
  | 0, j, h => ok.asc j h
  | n + 1, j, h => Int.lt_trans (asc_le ok n j (by omega)) (ok.asc (j + n + 1) (by omega))
/-- where a delay is placed -/
theorem place_form (ok : WOk W) (hb3 : B.bey < 3) {delay : Int} (hd : 1 ≤ delay) (hb : reach W ≤ delay → B.bey ≠ 0) :
    ∃ r, 1 ≤ r ∧ TwM.levelIx W r = TwM.levelIx W delay ∧ ∀ now, placeM W B now delay = some (spotAt W B now r (now + r)) := by
  have hp := ok.pos
  have hre : 2 ≤ reach W := (ok.all (W.length - 1) (by omega)).2.2.2.2
  have e0 : (if 1 > delay then 1 else delay) = delay := by split <;> omega
  by_cases hc : reach W ≤ delay ∧ B.bey = 2
  · refine ⟨reach W - 1, by omega, ?_, fun now => ?_⟩
    · have e1 : levelOf W delay = none := levelOf_isN fun j hj => by
        rcases Nat.lt_or_ge (j + 1) W.length with h | h
        · have := asc_le ok (W.length - 1 - j - 1) j (by omega)
          rw [show j + (W.length - 1 - j - 1) + 1 = W.length - 1 by omega] at this
          have : (lv W j).p < reach W := this
          omega
        · rw [show j = W.length - 1 by omega]
          exact hc.1
      have e2 : TwM.levelIx W delay = W.length - 1 := by unfold TwM.levelIx; rw [e1]; rfl
      rw [e2]
      unfold TwM.levelIx
      cases e : levelOf W (reach W - 1) with
      | none => rfl
      | some i =>
        show i = W.length - 1
        obtain ⟨a1, a2⟩ := levelOf_lt e
        rcases Nat.lt_or_ge i (W.length - 1) with h | h
        · have := asc_le ok (W.length - 1 - i - 1) i (by omega)
          rw [show i + (W.length - 1 - i - 1) + 1 = W.length - 1 by omega] at this
          have : (lv W i).p < reach W := this
          omega
        · omega
    · unfold placeM
      rw [if_neg (fun z => by have := z.1; omega)]
      dsimp only
      rw [e0, if_pos hc]
  · refine ⟨delay, hd, rfl, fun now => ?_⟩
    unfold placeM
    rw [if_neg (fun z => by have := z.1; omega)]
    dsimp only
    rw [e0, if_neg hc]
/-- a whole number of grains later -/
theorem later (ok : WOk W) (hb3 : B.bey < 3) {delay : Int} (hd : 1 ≤ delay) (hb : reach W ≤ delay → B.bey ≠ 0) (start m : Int) :
    ∃ s1 s2, placeM W B start delay = some s1 ∧ placeM W B (start + (lv W (TwM.levelIx W delay)).g * m) delay = some s2 ∧ s1.lv = s2.lv ∧ s2.pt - s1.pt = m ∧ s2.due - s1.due = (lv W (TwM.levelIx W delay)).g * m ∧
      (fin W B (start + (lv W (TwM.levelIx W delay)).g * m) delay).1 = (fin W B start delay).1 + (lv W (TwM.levelIx W delay)).g * m ∧ (fin W B (start + (lv W (TwM.levelIx W delay)).g * m) delay).2 = (fin W B start delay).2 := by
  obtain ⟨r, hr1, hr2, hpl⟩ := place_form ok hb3 hd hb
  have hk := levelIx_lt ok delay
  generalize hkk : TwM.levelIx W delay = k at hk hr2 ⊢
  have hg := (ok.all k hk).1
  have hD := dv_of ok hk m
  have hsh := spotAt_shift (B := B) (now := start) (rest := r) (due := start + r) ok hD (Nat.le_of_eq hr2)
  have hlv : (spotAt W B start r (start + r)).lv = k := by rw [spotAt_lv]; exact hr2
  have e1 := hpl start
  have e2 : placeM W B (start + (lv W k).g * m) delay = some (sh W ((lv W k).g * m) (spotAt W B start r (start + r))) := by
    rw [hpl, ← hsh, show start + (lv W k).g * m + r = start + r + (lv W k).g * m by omega]
  have hl : (spotAt W B start r (start + r)).lv < W.length := by rw [hlv]; exact hk
  obtain ⟨q, hq⟩ := fol_ends ok B none (mu (spotAt W B start r (start + r)) start) _ start 0 hl (Nat.le_refl _)
  have hq2 := fol_shift (B := B) ok hD (mu (spotAt W B start r (start + r)) start) (sp := spotAt W B start r (start + r)) (tick := start) (mv := 0) (by omega) hl (by rw [spotAt_due, show start + r - start = r by omega]; exact Nat.le_of_eq hr2)
  rw [hq] at hq2
  have f1 := fin_some e1 ok hl hq
  have f2 := fin_some e2 ok (by show (spotAt W B start r (start + r)).lv < W.length; exact hl) hq2
  refine ⟨_, _, e1, e2, rfl, ?_, ?_, ?_, ?_⟩
  · show (spotAt W B start r (start + r)).pt + (lv W k).g * m / (lv W (spotAt W B start r (start + r)).lv).g - (spotAt W B start r (start + r)).pt = m
    rw [hlv, Int.mul_ediv_cancel_left _ (by omega)]
    omega
  · show (spotAt W B start r (start + r)).due + (lv W k).g * m - (spotAt W B start r (start + r)).due = (lv W k).g * m
    omega
  · rw [f1, f2]; rfl
  · rw [f1, f2]; rfl
end
end Tw
/-! Tw: common divisors, inverses, first hits -/
namespace Tw
open TwM
/-- g is the greatest common divisor -/
def IsG (a b g : Int) : Prop := 0 < g ∧ ∀ d, (d ∣ a ∧ d ∣ b) ↔ d ∣ g
theorem IsG.eq {a b g g' : Int} (h : IsG a b g) (h' : IsG a b g') : g = g' := by
  have h1 : g ∣ g' := (h'.2 g).mp ((h.2 g).mpr (Int.dvd_refl g))
  have h2 : g' ∣ g := (h.2 g').mp ((h'.2 g').mpr (Int.dvd_refl g'))
  exact Int.dvd_antisymm (Int.le_of_lt h.1) (Int.le_of_lt h'.1) h1 h2
theorem IsG.left {a b g : Int} (h : IsG a b g) : g ∣ a := ((h.2 g).mpr (Int.dvd_refl g)).1
theorem IsG.right {a b g : Int} (h : IsG a b g) : g ∣ b := ((h.2 g).mpr (Int.dvd_refl g)).2
theorem dvd_step (a b d : Int) : (d ∣ b % a ∧ d ∣ a) ↔ (d ∣ a ∧ d ∣ b) := by
  constructor
  · rintro ⟨h1, h2⟩
    refine ⟨h2, ?_⟩
    have := Int.dvd_add (Int.dvd_trans h2 (Int.dvd_mul_right a (b / a))) h1
    rwa [Int.mul_ediv_add_emod] at this
  · rintro ⟨h1, h2⟩
    refine ⟨?_, h1⟩
    have := Int.dvd_sub h2 (Int.dvd_trans h1 (Int.dvd_mul_right a (b / a)))
    rwa [← Int.emod_def] at this
theorem dvd_absI (a d : Int) : d ∣ (if a < 0 then -a else a) ↔ d ∣ a := by
  split
  · exact Int.dvd_neg
  · exact Iff.rfl
/-- what first_hit tells -/
def FH (base length goal modulus : Int) (o : Option Int) : Prop := ∃ g, IsG length modulus g ∧ match o with
  | none => ¬ g ∣ goal - base
  | some k => 1 ≤ k ∧ k ≤ modulus / g ∧ modulus ∣ base + k * length - goal
theorem isG_small {a b g : Int} (h : IsG a b g) : IsG (a / g) (b / g) 1 := by
  have hg := h.1
  obtain ⟨x, hx⟩ := h.left
  obtain ⟨y, hy⟩ := h.right
  have e1 : a / g = x := by rw [hx, Int.mul_ediv_cancel_left _ (by omega)]
  have e2 : b / g = y := by rw [hy, Int.mul_ediv_cancel_left _ (by omega)]
  rw [e1, e2]
  refine ⟨by decide, fun d => ⟨fun ⟨h1, h2⟩ => ?_, fun h1 => ⟨Int.dvd_trans h1 (Int.one_dvd _), Int.dvd_trans h1 (Int.one_dvd _)⟩⟩⟩
  have h3 : g * d ∣ g := (h.2 (g * d)).mp ⟨by rw [hx]; exact Int.mul_dvd_mul_left g h1, by rw [hy]; exact Int.mul_dvd_mul_left g h2⟩
  obtain ⟨z, hz⟩ := h3
  have h4 : g * 1 = g * (d * z) := by rw [Int.mul_one, ← Int.mul_assoc]; exact hz
  exact ⟨z, Int.eq_of_mul_eq_mul_left (by omega) h4⟩
theorem fh_none {base length goal modulus g : Int} (h : IsG length modulus g) (hn : (goal - base) % g ≠ 0) : FH base length goal modulus none :=
  ⟨g, h, fun z => hn (Int.emod_eq_zero_of_dvd z)⟩
theorem fh_some {base length goal modulus g inv : Int} (hm : 0 < modulus) (h : IsG length modulus g) (hn : (goal - base) % g = 0) (hi : modulus / g ∣ inv * (length / g) - 1) :
    FH base length goal modulus (some (if (goal - base) / g * inv % (modulus / g) = 0 then modulus / g else (goal - base) / g * inv % (modulus / g))) := by
  have hg := h.1
  obtain ⟨x, hx⟩ := h.left
  obtain ⟨y, hy⟩ := h.right
  obtain ⟨c, hc⟩ := Int.dvd_of_emod_eq_zero hn
  have e1 : length / g = x := by rw [hx, Int.mul_ediv_cancel_left _ (by omega)]
  have e2 : modulus / g = y := by rw [hy, Int.mul_ediv_cancel_left _ (by omega)]
  have e3 : (goal - base) / g = c := by rw [hc, Int.mul_ediv_cancel_left _ (by omega)]
  rw [e1, e2] at hi
  rw [e2, e3]
  have hy0 : 0 < y := by
    rcases Int.lt_or_le 0 y with z | z
    · exact z
    · have := Int.mul_nonpos_of_nonneg_of_nonpos (Int.le_of_lt hg) z
      omega
  have hd : y ∣ (c * inv % y) * x - c := by
    obtain ⟨z, hz⟩ := hi
    refine ⟨c * z - (c * inv / y) * x, ?_⟩
    have e4 : c * inv % y = c * inv - y * (c * inv / y) := Int.emod_def _ _
    rw [e4, Int.sub_mul]
    have e5 : c * inv * x = c * (y * z + 1) := by rw [← hz, Int.mul_assoc]; congr 1; omega
    rw [e5, Int.mul_add, Int.mul_one, Int.mul_sub, Int.mul_assoc y, ← Int.mul_assoc c y z, Int.mul_comm c y, Int.mul_assoc y c z]
    omega
  have hr0 := Int.emod_nonneg (c * inv) (b := y) (by omega)
  have hr1 := Int.emod_lt_of_pos (c * inv) hy0
  generalize c * inv % y = r at hd hr0 hr1 ⊢
  have fin : ∀ k, y ∣ k * x - c → modulus ∣ base + k * length - goal := by
    rintro k ⟨z, hz⟩
    refine ⟨z, ?_⟩
    have e6 : k * length = g * (k * x) := by rw [hx, ← Int.mul_assoc, Int.mul_comm k g, Int.mul_assoc]
    have e7 : k * x = c + y * z := by omega
    rw [e6, e7, Int.mul_add, hy, ← Int.mul_assoc]
    omega
  refine ⟨g, h, ?_⟩
  dsimp only
  rw [e2]
  by_cases h0 : r = 0
  · rw [if_pos h0]
    subst h0
    refine ⟨by omega, Int.le_refl _, fin y ?_⟩
    obtain ⟨z, hz⟩ := hd
    exact ⟨x + z, by rw [Int.mul_add, ← hz]; omega⟩
  · rw [if_neg h0]
    exact ⟨by omega, by omega, fin r hd⟩
/-- fired at once where a slot is visited -/
theorem visGo_fire {W : List Lv} {B : Bk} (hf : B.fire = true) {before now : Int} : ∀ (is : List Nat) {sp : Spot}, sp.lv ∈ is → isVis (lv W sp.lv) sp.pt before now = true → visGo W B before now is sp = [none]
  | [], sp, h, _ => by simp at h
  | i :: is, sp, h, hv => by
    unfold visGo
    by_cases e : sp.lv = i
    · have et : taken W B sp now = none := by unfold taken; rw [if_pos (.inr hf)]
      rw [if_pos ⟨e, by rw [← e]; exact hv⟩, et]
    · rw [if_neg (fun z => e z.1)]
      exact visGo_fire hf is (by rcases List.mem_cons.mp h with q | q; exact absurd q e; exact q) hv
theorem isVis_at {l : Lv} {pt t : Int} (hg : 0 < l.g) (hs : 0 < l.s) (h : l.g * l.s ∣ t - pt * l.g) : isVis l pt (t - 1) t = true := by
  obtain ⟨j, hj⟩ := h
  have e : t = (pt + l.s * j) * l.g := by rw [Int.add_mul, Int.mul_comm (l.s * j) l.g, ← Int.mul_assoc]; omega
  unfold isVis
  have e1 : t / l.g = pt + l.s * j := by rw [e, Int.mul_ediv_cancel _ (by omega)]
  have e2 : (t - 1) / l.g = pt + l.s * j - 1 := by
    rw [e, show (pt + l.s * j) * l.g - 1 = (l.g - 1) + (pt + l.s * j - 1) * l.g by rw [Int.sub_mul]; omega, Int.add_mul_ediv_right _ _ (by omega), Int.ediv_eq_zero_of_lt (by omega) (by omega)]
    omega
  rw [e1, e2]
  have e3 : pt - (pt + l.s * j - 1) - 1 = -(l.s * j) := by omega
  have e4 : -(l.s * j) % l.s = 0 := Int.emod_eq_zero_of_dvd ⟨-j, by rw [Int.mul_neg]⟩
  rw [e3, e4]
  simp
  omega
end Tw
/-! Tw: readings of common divisors, inverses, first hits, beats -/
namespace Tw
open PySem PySem.Spec PyProof.Rows L2 He TwM StX
open PySem.W (Frag)
local macro_rules | `(tactic| walk_at "rsg") => `(tactic| simp only [*, at3_0, at3_1, at3_2, at2_0, at2_1, updS, upd_two, gSub, rSetL, updN, and_assoc, not_true_eq_false, not_false_eq_true, tNever, List.length_map, tFld, rIxTH, rIxLH, rLenTH, rLenLH, lk1, lfs_g, lfs_s, lfs_p, HO.ins.injEq, HO.tup.injEq, HO.lst.injEq, sp_Book_rounding, sp_Book_action, sp_Book_order, sp_Book_due, sp_Book_zero, sp_Book_beyond, Int.toNat_natCast, sp_visit_after, sp_is_visited, sp_Level_grain, sp_Level_slots, sp_Level_span, sp_Wheel_reach, sp_Wheel___len__, sp_is_integer, sp_is_count, sp_is_within, sp_rounded, tSeq, tAsg, gName, tVar, tC, tOp, rI, rI0, rU, tUn, oAdd, oSub, oMul, oDiv, oMod, oNeg, oLt, oLe, oGt, oGe, oIsN, oNotN, tFn, tCons, tNil, tIfS, tIf, tTest, tB, tNot, tAnd, tOr, tAndV, tOrV, tNotV,
    tRet, tRetN, tNext, tCB, tDrop, tChain, rEq, rNe, oMax2, oMin2, oInt1, rLenF, L2.start, List.map_cons, List.map_nil, List.length_cons, List.length_nil, List.replicate_succ, List.replicate_zero, List.cons_append, List.nil_append, Nat.reduceAdd, Nat.reduceSub, Nat.zero_add,
    List.set_cons_zero, List.set_cons_succ, List.getElem?_cons_zero, List.getElem?_cons_succ, Option.some.injEq, V.int.injEq, V.ref.injEq, V.str.injEq, V.bl.injEq, exists_eq_left', exists_eq_left, exists_and_left, List.cons.injEq, and_true, true_and, decide_eq_true_eq, sc_ii, sc_ss, sc_bb, sc_ni, sc_in, sc_nn, sc_is, reduceCtorEq,
    Bool.not_eq_true', decide_eq_false_iff_not, if_true, if_false, Bool.false_eq_true, exists_eq', exists_const, false_and, and_false, or_false, false_or, exists_false, Bool.not_not, Bool.not_true, Bool.not_false, sUp_up, sFire_fire, sHigh_high, sPut_put, sZone_now, sBey_refuse, sBey_cut, tTup, tLst, sz0, sz1, sz2, sz3, sz4, sz5, sz6])
section
variable {K : Frag} {w : World}
def sp_common_divisor (K : Frag) : Sp := fun vs H Q _ => ∃ (a b : Int), vs = [.int a, .int b] ∧ 0 < b ∧ ∀ g, IsG a b g → Q (.int g) H
def cdInv (a b : Int) (H : Hp) (m : Nat) (σ : L2.St) (H' : Hp) : Prop := ∃ x y : Int, σ = [some (.int a), some (.int b), some (.int x), some (.int y)] ∧ H' = H ∧ x.toNat = m ∧ 0 ≤ x ∧ 0 < y ∧ ∀ d, (d ∣ x ∧ d ∣ y) ↔ (d ∣ a ∧ d ∣ b)
def t_common_divisor (K : Frag) (w : World) : TS :=
  (tSeq (tPar 2 3 (tCons (tCB oAbs (tCons (tVar 0) tNil)) (tCons (tVar 1) tNil)))
  (tSeq (tWhile (tTest (tOp oGt (tVar 2) (tC (.int 0))))
    (tPar 2 3 (tCons (tOp oMod (tVar 3) (tVar 2)) (tCons (tVar 2) tNil))))
  (tRet (tVar 3))))
def n_common_divisor : List Str := ["first", "second", "one", "other"]
theorem rd_common_divisor (vs : List V) (H : Hp) (Q : VK) (E : XK) (h : sp_common_divisor K vs H Q E) : t_common_divisor K w { nx := fun _ H' => Q .non H', rt := Q } (L2.start n_common_divisor vs) H := by
  obtain ⟨a, b, rfl, hb, q⟩ := h
  unfold t_common_divisor n_common_divisor tPar oAbs
  walk_at "rsg"
  refine ⟨cdInv a b H, ⟨_, _, _, rfl, rfl, rfl, by split <;> omega, hb, fun d => by rw [dvd_absI]⟩, ?_⟩
  rintro m σ H1 ⟨x, y, rfl, rfl, rfl, hx, hy, hd⟩
  walk_at "rsg"
  refine ite2 (fun h => ⟨cdInv a b H1 (y % x).toNat, fun σ' H' z => ⟨_, ?_, z⟩, ?_⟩) fun h => q y ⟨hy, fun d => ?_⟩
  · have h1 := Int.emod_nonneg y (b := x) (by omega)
    have h2 := Int.emod_lt_of_pos y h
    omega
  · exact ⟨h, _, _, rfl, rfl, rfl, Int.emod_nonneg y (by omega), h, fun d => (dvd_step x y d).trans (hd d)⟩
  · have h0 : x = 0 := by omega
    subst h0
    exact (hd d).symm.trans ⟨fun z => z.2, fun z => ⟨Int.dvd_zero d, z⟩⟩
def sp__law_common (K : Frag) : Sp := fun vs H Q _ => ∃ (a b : Int), vs = [.int a, .int b] ∧ (0 < a ∨ 0 < b) ∧ 0 ≤ b ∧ ∀ g, IsG a b g → Q (.int g) H
def lcInv (a b : Int) (H : Hp) (m : Nat) (σ : L2.St) (H' : Hp) : Prop := ∃ x y : Int, σ = [some (.int a), some (.int b), some (.int x), some (.int y)] ∧ H' = H ∧ y.toNat = m ∧ (0 < x ∨ 0 < y) ∧ 0 ≤ y ∧ ∀ d, (d ∣ x ∧ d ∣ y) ↔ (d ∣ a ∧ d ∣ b)
def t__law_common (K : Frag) (w : World) : TS :=
  (tSeq (tPar 2 3 (tCons (tVar 0) (tCons (tVar 1) tNil)))
  (tSeq (tWhile (tTest (tOp oGt (tVar 3) (tC (.int 0))))
    (tPar 2 3 (tCons (tVar 3) (tCons (tOp oMod (tCB oInt1 (tCons (tVar 2) tNil)) (tVar 3)) tNil))))
  (tRet (tVar 2))))
def n__law_common : List Str := ["_law_first", "_law_second", "_law_one", "_law_other"]
theorem rd__law_common (vs : List V) (H : Hp) (Q : VK) (E : XK) (h : sp__law_common K vs H Q E) : t__law_common K w { nx := fun _ H' => Q .non H', rt := Q } (L2.start n__law_common vs) H := by
  obtain ⟨a, b, rfl, ha, hb, q⟩ := h
  unfold t__law_common n__law_common tPar
  walk_at "rsg"
  refine ⟨lcInv a b H, ⟨_, _, _, rfl, rfl, rfl, ha, hb, fun d => Iff.rfl⟩, ?_⟩
  rintro m σ H1 ⟨x, y, rfl, rfl, rfl, hx, hy, hd⟩
  walk_at "rsg"
  refine ite2 (fun h => ⟨lcInv a b H1 (x % y).toNat, fun σ' H' z => ⟨_, ?_, z⟩, ?_⟩) fun h => q x ⟨by omega, fun d => ?_⟩
  · have h1 := Int.emod_nonneg x (b := y) (by omega)
    have h2 := Int.emod_lt_of_pos x h
    omega
  · exact ⟨h, _, _, rfl, rfl, rfl, .inl h, Int.emod_nonneg x (by omega), fun d => ⟨fun z => (hd d).mp ((dvd_step y x d).mp ⟨z.2, z.1⟩).symm, fun z => ((dvd_step y x d).mpr ((hd d).mpr z).symm).symm⟩⟩
  · have h0 : y = 0 := by omega
    subst h0
    exact (hd d).symm.trans ⟨fun z => z.1, fun z => ⟨z, Int.dvd_zero d⟩⟩
def sp_is_positive (K : Frag) : Sp := fun vs H Q _ => ∃ i : Int, vs = [.int i] ∧ Q (.bl (decide (1 ≤ i))) H
def t_is_positive (K : Frag) (w : World) : TS :=
  (tRet (tAndV (tFn (sp_is_integer K) E0 (tCons (tVar 0) tNil)) (tOp oGe (tVar 0) (tC (.int 1)))))
def n_is_positive : List Str := ["value"]
theorem rd_is_positive (vs : List V) (H : Hp) (Q : VK) (E : XK) (h : sp_is_positive K vs H Q E) : t_is_positive K w { nx := fun _ H' => Q .non H', rt := Q } (L2.start n_is_positive vs) H := by
  obtain ⟨i, rfl, q⟩ := h
  unfold t_is_positive n_is_positive
  walk_at "rsg"
def sp__law_whole (K : Frag) : Sp := fun vs H Q _ => ∃ i : Int, vs = [.int i] ∧ Q (.bl true) H
def t__law_whole (K : Frag) (w : World) : TS :=
  (tRet (tAndV (tCB (rIsi K) (tCons (tVar 0) (tCons (tC (.ty "int")) tNil))) (tNotV (tCB (rIsi K) (tCons (tVar 0) (tCons (tC (.ty "bool")) tNil))))))
def n__law_whole : List Str := ["_law_thing"]
theorem rd__law_whole (vs : List V) (H : Hp) (Q : VK) (E : XK) (h : sp__law_whole K vs H Q E) : t__law_whole K w { nx := fun _ H' => Q .non H', rt := Q } (L2.start n__law_whole vs) H := by
  obtain ⟨i, rfl, q⟩ := h
  unfold t__law_whole n__law_whole
  walk_at "rsg"
  refine isi_base (.base (.int i)) (b := true) (by decide +kernel) ⟨true, rfl, iteT ?_⟩
  exact isi_base (.base (.int i)) (b := false) (by decide +kernel) ⟨false, rfl, q⟩
def sp_inverse (K : Frag) : Sp := fun vs H Q _ => ∃ (a m : Int), vs = [.int a, .int m] ∧ 0 < m ∧ m < 1073741824 ∧ IsG a m 1 ∧ ∀ x H', Same H H' → 0 ≤ x → x < m → m ∣ x * a - 1 → Q (.int x) H'
def ivInv (a m : Int) (H : Hp) (n : Nat) (σ : L2.St) (H' : Hp) : Prop := ∃ (x y u v : Int) (t : Option V), σ = [some (.int a), some (.int m), some (.int x), some (.int y), some (.int u), some (.int v), t] ∧ H' = H ∧ y.toNat = n ∧ 0 < x ∧ x ≤ m ∧ 0 ≤ y ∧ y ≤ m ∧
  m ∣ u * a - x ∧ m ∣ v * a - y ∧ ∀ d, (d ∣ y ∧ d ∣ x) ↔ (d ∣ a ∧ d ∣ m)
def t_inverse (K : Frag) (w : World) : TS :=
  (tSeq (tPar 2 3 (tCons (tVar 1) (tCons (tOp oMod (tVar 0) (tVar 1)) tNil)))
  (tSeq (tAsg (tTup (tCons (tC (.int 0)) (tCons (tC (.int 1)) tNil))) (gTup K 2 (gCons (gName 4) (gCons (gName 5) gNil))))
  (tSeq (tWhile (tTest (tOp oGt (tVar 3) (tC (.int 0))))
    (tSeq (tAsg (tOp oDiv (tVar 2) (tVar 3)) (gName 6))
  (tSeq (tPar 2 3 (tCons (tVar 3) (tCons (tOp oSub (tVar 2) (tOp oMul (tVar 6) (tVar 3))) tNil)))
  (tPar 4 5 (tCons (tVar 5) (tCons (tOp oSub (tVar 4) (tOp oMul (tVar 6) (tVar 5))) tNil))))))
  (tRet (tOp oMod (tVar 4) (tVar 1))))))
def n_inverse : List Str := ["number", "modulus", "one", "other", "near", "far", "times"]
theorem rd_inverse (vs : List V) (H : Hp) (Q : VK) (E : XK) (h : sp_inverse K vs H Q E) : t_inverse K w { nx := fun _ H' => Q .non H', rt := Q } (L2.start n_inverse vs) H := by
  obtain ⟨a, m, rfl, hm, hm2, hg, q⟩ := h
  unfold t_inverse n_inverse tPar
  walk_at "rsg"
  have r0 := Int.emod_nonneg a (b := m) (by omega)
  have r1 := Int.emod_lt_of_pos a hm
  intro q0 hq0
  have s0 := Same.new (o := .tup [.int 0, .int 1]) hq0
  refine ⟨q0, _, rfl, SqT.of upd_same, rfl, _, _, rfl, _, _, rfl, rfl, ?_⟩
  refine ⟨ivInv a m (upd H q0 (.tup [.int 0, .int 1])), ⟨_, _, _, _, _, _, rfl, rfl, rfl, hm, Int.le_refl _, r0, by omega, ⟨-1, by omega⟩, ⟨a / m, by have := Int.emod_def a m; omega⟩, fun d => (dvd_step m a d).trans ⟨fun z => z.symm, fun z => z.symm⟩⟩, ?_⟩
  rintro n σ H1 ⟨x, y, u, v, t, rfl, rfl, rfl, hx, hxm, hy, hym, hu, hv, hd⟩
  have ht0 : 0 < y → 0 ≤ x / y ∧ x / y ≤ x := fun h => ⟨Int.ediv_nonneg (by omega) (by omega), Int.ediv_le_self _ (by omega)⟩
  walk_at "rsg"
  refine ite2 (fun h => ?_) fun h => ?_
  · have e := Int.emod_def x y
    have s0 := Int.emod_nonneg x (b := y) (by omega)
    have s1 := Int.emod_lt_of_pos x h
    obtain ⟨t0, t1⟩ := ht0 h
    have e2 : x - x / y * y = x % y := by rw [Int.mul_comm]; omega
    refine ⟨ivInv a m (upd H q0 (.tup [.int 0, .int 1])) (x % y).toNat, fun σ' H' z => ⟨_, by omega, z⟩, ⟨h, by omega⟩, .inl ⟨by omega, by omega⟩, .inl ⟨by omega, by omega⟩, ?_⟩
    refine ⟨_, _, _, _, _, rfl, rfl, by rw [e2], h, hym, by omega, by omega, hv, ?_, fun d => ?_⟩
    · have := Int.dvd_sub hu (Int.dvd_trans hv (Int.dvd_mul_left (x / y) (v * a - y)))
      have e3 : u * a - x - x / y * (v * a - y) = (u - x / y * v) * a - (x - x / y * y) := by rw [Int.mul_sub, Int.sub_mul, Int.mul_assoc]; omega
      rwa [e3] at this
    · rw [e2]
      exact (dvd_step y x d).trans (hd d)
  · have h0 : y = 0 := by omega
    subst h0
    have hx1 : x = 1 := by
      have h1 : x ∣ 1 := (hg.2 x).mp ((hd x).mp ⟨Int.dvd_zero x, Int.dvd_refl x⟩)
      have := Int.le_of_dvd (by decide) h1
      omega
    subst hx1
    refine q _ _ s0 (Int.emod_nonneg _ (by omega)) (Int.emod_lt_of_pos _ hm) ?_
    have e := Int.emod_def u m
    rw [e, Int.sub_mul, show u * a - m * (u / m) * a - 1 = (u * a - 1) - m * (u / m * a) by rw [Int.mul_assoc]; omega]
    exact Int.dvd_sub hu (Int.dvd_mul_right _ _)
def sp_first_hit (K : Frag) : Sp := fun vs H Q _ => ∃ (b len goal m : Int), vs = [.int b, .int len, .int goal, .int m] ∧ 0 < m ∧ m < 1073741824 ∧ ∀ o H', Same H H' → FH b len goal m o → Q (optV o) H'
def t_first_hit (K : Frag) (w : World) : TS :=
  (tSeq (tAsg (tFn (sp_common_divisor K) E0 (tCons (tVar 1) (tCons (tVar 3) tNil))) (gName 4))
  (tSeq (tIfS (tTest (tOp rNe (tOp oMod (tOp oSub (tVar 2) (tVar 0)) (tVar 4)) (tC (.int 0)))) (tRet (tC .non)) tNext)
  (tSeq (tAsg (tOp oDiv (tVar 3) (tVar 4)) (gName 5))
  (tSeq (tAsg (tOp oMod (tOp oMul (tOp oDiv (tOp oSub (tVar 2) (tVar 0)) (tVar 4)) (tFn (sp_inverse K) E0 (tCons (tOp oDiv (tVar 1) (tVar 4)) (tCons (tVar 5) tNil)))) (tVar 5)) (gName 6))
  (tSeq (tIfS (tTest (tOp rEq (tVar 6) (tC (.int 0)))) (tRet (tVar 5)) tNext)
  (tRet (tVar 6)))))))
def n_first_hit : List Str := ["base", "length", "goal", "modulus", "divisor", "small", "many"]
theorem rd_first_hit (vs : List V) (H : Hp) (Q : VK) (E : XK) (h : sp_first_hit K vs H Q E) : t_first_hit K w { nx := fun _ H' => Q .non H', rt := Q } (L2.start n_first_hit vs) H := by
  obtain ⟨b, len, goal, m, rfl, hm, hm2, q⟩ := h
  unfold t_first_hit n_first_hit
  walk_at "rsg"
  refine ⟨len, m, rfl, hm, fun g hg => ?_⟩
  have hg0 := hg.1
  have hgm : g ≤ m := Int.le_of_dvd hm hg.right
  have hsm : 0 < m / g := Int.ediv_pos_of_pos_of_dvd hm (by omega) hg.right
  have hsm2 : m / g ≤ m := Int.ediv_le_self _ (by omega)
  walk_at "rsg"
  refine ite2 (fun h => q none _ (Same.refl H) (fh_none hg h)) fun h => ?_
  refine ⟨⟨hg0, by omega⟩, ⟨hg0, by omega⟩, ⟨hg0, by omega⟩, _, _, rfl, hsm, by omega, isG_small hg, fun x H1 s1 hx0 hx1 hx => ⟨x, rfl, ?_⟩⟩
  have hf := fh_some hm hg (Classical.not_not.mp h) hx
  refine ⟨.inr ⟨by omega, by omega⟩, ite2 (fun h0 => ?_) fun h0 => ?_⟩
  · rw [if_pos h0] at hf
    exact q _ H1 s1 hf
  · rw [if_neg h0] at hf
    exact q _ H1 s1 hf
def sp_end_of (K : Frag) : Sp := fun vs H Q _ => ∃ (s len t : Int), vs = [.int s, .int len, .int t] ∧ CDivW (s - t) len ∧ CMul ((s - t) / len) len ∧ Q (.int (s - (s - t) / len * len)) H
def t_end_of (K : Frag) (w : World) : TS :=
  (tRet (tOp oSub (tVar 0) (tOp oMul (tOp oDivW (tOp oSub (tVar 0) (tVar 2)) (tVar 1)) (tVar 1))))
def n_end_of : List Str := ["start", "length", "tick"]
theorem rd_end_of (vs : List V) (H : Hp) (Q : VK) (E : XK) (h : sp_end_of K vs H Q E) : t_end_of K w { nx := fun _ H' => Q .non H', rt := Q } (L2.start n_end_of vs) H := by
  obtain ⟨s, len, t, rfl, h1, h2, q⟩ := h
  unfold t_end_of n_end_of oDivW
  walk_at "rsg"
def sp_next_end (K : Frag) : Sp := fun vs H Q _ => ∃ (c : Addr) (pt tick start len : Int) (mode : Str), vs = [.ref c, .int pt, .int tick, .int start, .int len, .str mode] ∧ ∃ l, LvAt K H c l ∧
  ((mode = "last" ∧ ∀ o H', Same H H' → FH tick len (pt * l.g) (l.g * l.s) o → Q (optV (o.map fun k => tick + k * len)) H') ∨
    (mode ≠ "last" ∧ CDivW (start - va l pt tick) len ∧ CMul ((start - va l pt tick) / len) len ∧ Q (.int (start - (start - va l pt tick) / len * len)) H))
def t_next_end (K : Frag) (w : World) : TS :=
  (tSeq (tIfS (tTest (tOp rEq (tVar 5) (tC (.str "last")))) (tSeq (tAsg (tFn (sp_first_hit K) E0 (tCons (tVar 2) (tCons (tVar 4) (tCons (tOp oMul (tVar 1) (tFn (sp_Level_grain K) E0 (tCons (tVar 0) tNil))) (tCons (tOp oMul (tFn (sp_Level_grain K) E0 (tCons (tVar 0) tNil)) (tFn (sp_Level_slots K) E0 (tCons (tVar 0) tNil))) tNil))))) (gName 6))
  (tSeq (tIfS (tTest (tOp oIsN (tVar 6) (tC .non))) (tRet (tC .non)) tNext)
  (tRet (tOp oAdd (tVar 2) (tOp oMul (tVar 6) (tVar 4)))))) tNext)
  (tRet (tFn (sp_end_of K) E0 (tCons (tVar 3) (tCons (tVar 4) (tCons (tFn (sp_visit_after K) E0 (tCons (tVar 0) (tCons (tVar 1) (tCons (tVar 2) tNil)))) tNil))))))
def n_next_end : List Str := ["level", "point", "tick", "start", "length", "mode", "many"]
theorem rd_next_end (vs : List V) (H : Hp) (Q : VK) (E : XK) (h : sp_next_end K vs H Q E) : t_next_end K w { nx := fun _ H' => Q .non H', rt := Q } (L2.start n_next_end vs) H := by
  obtain ⟨c, pt, tick, start, len, mode, rfl, l, hL, h⟩ := h
  obtain ⟨g1, g2, s1, s2⟩ := hL.ok
  have e := @lv_ex K H c l hL
  have hgs : l.g * l.s ≤ 1000 * 100 := Int.mul_le_mul g2 s2 (by omega) (by omega)
  have hgs0 : 1 * 2 ≤ l.g * l.s := Int.mul_le_mul g1 s1 (by omega) (by omega)
  unfold t_next_end n_next_end
  rcases h with ⟨rfl, q⟩ | ⟨hm, h1, h2, q⟩
  · walk_at "rsg"
    refine ⟨.inr ⟨by omega, by omega⟩, .inr ⟨by omega, by omega⟩, tick, len, pt * l.g, l.g * l.s, rfl, by omega, by omega, fun o H1 s1 ho => ?_⟩
    have q' := q o H1 s1 ho
    cases o with
    | none => walk_at "rsg"; exact q'
    | some k =>
      obtain ⟨g, hg, k1, k2, k3⟩ := id ho
      have hg0 := hg.1
      have k4 : l.g * l.s / g ≤ l.g * l.s := Int.ediv_le_self _ (by omega)
      unfold optV
      walk_at "rsg"
      exact ⟨.inl ⟨by omega, by omega⟩, q'⟩
  · walk_at "rsg"
    exact ⟨start, len, va l pt tick, rfl, h1, h2, q⟩
def sp__law_turned (K : Frag) : Sp := fun vs H Q _ => ∃ (t g : Int) (u : Bool), vs = [.int t, .int g, .str (sUp u)] ∧ 0 < g ∧ g < 1073741824 ∧ Q (.int (rnd u t g)) H
theorem ceil_eq {t g : Int} (hg : 0 < g) : (t + g - 1) / g = -(-t / g) := by
  have h1 := Int.emod_def (-t) g
  have h2 := Int.emod_nonneg (-t) (b := g) (by omega)
  have h3 := Int.emod_lt_of_pos (-t) hg
  generalize -t / g = k at h1 ⊢
  generalize -t % g = r at h1 h2 h3
  have e : t + g - 1 = (g - 1 - r) + (-k) * g := by rw [Int.neg_mul, Int.mul_comm k g]; omega
  rw [e, Int.add_mul_ediv_right _ _ (by omega), Int.ediv_eq_zero_of_lt (by omega) (by omega)]
  omega
def t__law_turned (K : Frag) (w : World) : TS :=
  (tRet (tIf (tTest (tOp rEq (tVar 2) (tC (.str "up")))) (tOp oDiv (tOp oSub (tOp oAdd (tVar 0) (tVar 1)) (tC (.int 1))) (tVar 1)) (tOp oDiv (tVar 0) (tVar 1))))
def n__law_turned : List Str := ["_law_tick", "_law_grain", "_law_way"]
theorem rd__law_turned (vs : List V) (H : Hp) (Q : VK) (E : XK) (h : sp__law_turned K vs H Q E) : t__law_turned K w { nx := fun _ H' => Q .non H', rt := Q } (L2.start n__law_turned vs) H := by
  obtain ⟨t, g, u, rfl, h1, h2, q⟩ := h
  unfold t__law_turned n__law_turned
  walk_at "rsg"
  unfold rnd at q
  refine ite2 (fun hu => ?_) fun hu => ?_
  · rw [if_pos hu] at q
    refine ⟨⟨h1, h2⟩, ?_⟩
    rw [ceil_eq h1]
    exact q
  · rw [if_neg hu] at q
    exact ⟨⟨h1, h2⟩, q⟩
def sp__law_great_rows (K : Frag) : Sp := fun vs H Q _ => ∃ (p l : Addr), vs = [.ref p] ∧ PoolAt H p l ∧
  ∀ (r : Addr) (W : List Lv) (H' : Hp), SameP p l H H' → PoolAt H' p l → H r = none → RowsAt H' r W → ROk W → W.length ≤ 2 → Q (.ref r) H'
def t__law_great_rows (K : Frag) (w : World) : TS :=
  (tSeq (tAsg (tOp oAdd (tC (.int 2)) (tFn (sp__law_draw K) E0 (tCons (tVar 0) (tCons (tC (.int 99)) tNil)))) (gName 1))
  (tSeq (tAsg (tLst (tCons (tTup (tCons (tC (.int 1)) (tCons (tVar 1) (tCons (tOp oAdd (tC (.int 2)) (tFn (sp__law_draw K) E0 (tCons (tVar 0) (tCons (tOp oSub (tOp oMul (tC (.int 4)) (tVar 1)) (tC (.int 1))) tNil)))) tNil)))) tNil)) (gName 2))
  (tSeq (tIfS (tTest (tOp oGt (tFn (sp__law_draw K) E0 (tCons (tVar 0) (tCons (tC (.int 3)) tNil))) (tC (.int 0)))) (tSeq (tPar3 3 1 4 (tCons (tOp oAdd (tC (.int 1)) (tFn (sp__law_draw K) E0 (tCons (tVar 0) (tCons (tC (.int 1000)) tNil)))) (tCons (tOp oAdd (tC (.int 2)) (tFn (sp__law_draw K) E0 (tCons (tVar 0) (tCons (tC (.int 99)) tNil)))) (tCons (tOp rIxTH (tOp rIxLH (tVar 2) (tC (.int 0))) (tC (.int 2))) tNil))))
  (tIfS (tTest (tOp oGt (tOp oMul (tOp oMul (tC (.int 4)) (tVar 3)) (tVar 1)) (tVar 4))) (tDrop (tBM K "list" rAppend (tVar 2) (tCons (tTup (tCons (tVar 3) (tCons (tVar 1) (tCons (tOp oAdd (tOp oAdd (tVar 4) (tC (.int 1))) (tFn (sp__law_draw K) E0 (tCons (tVar 0) (tCons (tOp oSub (tOp oMul (tOp oMul (tC (.int 4)) (tVar 3)) (tVar 1)) (tVar 4)) tNil)))) tNil)))) tNil))) tNext)) tNext)
  (tRet (tVar 2)))))
def n__law_great_rows : List Str := ["_law_pool", "_law_slots", "_law_rows", "_law_grain", "_law_low"]
theorem rd__law_great_rows (vs : List V) (H : Hp) (Q : VK) (E : XK) (h : sp__law_great_rows K vs H Q E) : t__law_great_rows K w { nx := fun _ H' => Q .non H', rt := Q } (L2.start n__law_great_rows vs) H := by
  obtain ⟨p, l, rfl, hp, q⟩ := h
  unfold t__law_great_rows n__law_great_rows tPar3 tBM rAppend
  walk_at "rsg"
  refine draw (K := K) hp (by decide) (by decide) fun x H1 s1 hp1 x0 x1 => ⟨x, rfl, .inl ⟨by omega, by omega⟩, ?_⟩
  refine draw (K := K) hp1 (by omega) (log_small (by omega) (by omega)) fun y H2 s2 hp2 y0 y1 => ⟨y, rfl, fun t ht r hr => ?_⟩
  have hpt := hp2.new (o := .tup [.int 1, .int (2 + x), .int (2 + y)]) ht
  have ap := hpt.apart hr
  have hp3 := hpt.new (o := .lst [.ref t]) hr
  have h12 := (s1.trans s2).step (Same.new (o := .tup [.int 1, .int (2 + x), .int (2 + y)]) ht)
  have hrn : H r = none := by
    cases e : H r with
    | none => rfl
    | some o => exact absurd (h12 r o ap.1 ap.2 e) (by rw [hr]; exact fun z => by cases z)
  have hok : ROk [(⟨1, 2 + x, 2 + y⟩ : Lv)] := ROk.snoc (W := []) (.inl ⟨rfl, rfl⟩) (by decide) (by decide) (by decide) (by omega) (by omega) (by omega) (by omega)
  have hrow : RowsAt (upd (upd H2 t (.tup [.int 1, .int (2 + x), .int (2 + y)])) r (.lst [.ref t])) r [⟨1, 2 + x, 2 + y⟩] := by
    refine ⟨[t], updS _ _ _, rfl, fun i c e => ?_⟩
    cases i with
    | succ i => simp at e
    | zero =>
      obtain rfl := Option.some.inj e
      rw [upd_ne (ne_of_none (updS _ _ _) hr), updS]
      rfl
  have h3 := h12.step (Same.new (o := .lst [.ref t]) hr)
  refine draw (K := K) hp3 (by decide) (by decide) fun i H3 s3 hp4 _ _ => ⟨i, rfl, ite2 (fun _ => ?_) fun _ => ?_⟩
  · have hrow3 := RowsAt.sameP hp3 hrow s3 ap.1 ap.2
    refine draw (K := K) hp4 (by decide) (by decide) fun a H4 s4 hp5 a0 a1 => ⟨a, rfl, ?_⟩
    have hrow4 := RowsAt.sameP hp4 hrow3 s4 ap.1 ap.2
    refine draw (K := K) hp5 (by decide) (by decide) fun b H5 s5 hp6 b0 b1 => ⟨b, rfl, ?_⟩
    have hrow5 := RowsAt.sameP hp5 hrow4 s5 ap.1 ap.2
    have h5 := ((h3.trans s3).trans s4).trans s5
    obtain ⟨ts, ha, hb, hc⟩ := id hrow5
    obtain ⟨t0, rfl⟩ : ∃ t0, ts = [t0] := List.length_eq_one_iff.mp hb
    have ht0 := hc 0 t0 rfl
    refine ⟨_, ha, _, rfl, t0, rfl, _, ht0, _, rfl, .inr ⟨by omega, by omega⟩, .inr ⟨by omega, by omega⟩, _, rfl, ?_⟩
    have e : lv [(⟨1, 2 + x, 2 + y⟩ : Lv)] 0 = ⟨1, 2 + x, 2 + y⟩ := rfl
    rw [e]
    dsimp only
    have hm : 4 * (1 + a) * (2 + b) ≤ 4 * 1001 * 102 := Int.mul_le_mul (by omega) (by omega) (by omega) (by omega)
    have hcm : 4 * (2 + b) * (1 + a) = 4 * (1 + a) * (2 + b) := by rw [Int.mul_assoc, Int.mul_comm (2 + b), ← Int.mul_assoc]
    refine ite2 (fun hlt => ⟨.inl ⟨rfl, _, SqL.of ha⟩, _, rfl, .inr ⟨by omega, by omega⟩, .inr ⟨by omega, by omega⟩, _, rfl, ?_⟩) fun _ => q r _ H5 h5 hp6 hrn hrow5 hok (by show 1 ≤ 2; decide)
    refine draw (K := K) hp6 (by omega) (log_small (by omega) (by omega)) fun z H6 s6 hp7 z0 z1 => ⟨z, rfl, fun c hc' => ?_⟩
    obtain ⟨ts6, ha6, hb6, hc6⟩ := RowsAt.sameP hp6 hrow5 s6 ap.1 ap.2
    have s7 : Same H6 (upd H6 c (.tup [.int (1 + a), .int (2 + b), .int (2 + y + 1 + z)])) := Same.new hc'
    refine ⟨_, s7 _ _ ha6, ?_, ?_⟩
    · have : sizeLine = 16777216 := rfl
      have hb6' : ts6.length = 1 := hb6
      rw [List.length_map]
      omega
    · exact q r ([⟨1, 2 + x, 2 + y⟩] ++ [⟨1 + a, 2 + b, 2 + y + 1 + z⟩]) _ (SameP.updf ((h5.trans s6).step s7) hrn) ((hp7.new hc').updr ap) hrn (RowsAt.snoc (s7 _ _ ha6) hb6 (fun i t q => s7 _ _ (hc6 i t q)) (updS _ _ _))
        (ROk.snoc (W := [⟨1, 2 + x, 2 + y⟩]) (.inr ⟨hok, Int.one_dvd _, by show 2 + y < 2 + y + 1 + z; omega⟩) (by show 1 ≤ 4; decide) (by omega) (by omega) (by omega) (by omega) (by omega) (by omega)) (by show 2 ≤ 2; decide)
  · exact q r _ H3 (h3.trans s3) hp4 hrn (RowsAt.sameP hp3 hrow s3 ap.1 ap.2) hok (by show 1 ≤ 2; decide)
/-- facts of the modes -/
structure Kg (K : Frag) : Prop where
  md : ∀ H, SqT K H (ga K "MODES") [.str "each", .str "last", .str "slots"]
end
end Tw
/-! Tw: drawn rows with bounds -/
namespace Tw
open PySem PySem.Spec PyProof.Rows L2 He TwM StX
open PySem.W (Frag)
local macro_rules | `(tactic| walk_at "rsl2") => `(tactic| simp only [*, at3_0, at3_1, at3_2, at2_0, at2_1, updS, upd_two, gSub, rSetL, updN, and_assoc, not_true_eq_false, not_false_eq_true, tNever, List.length_map, tFld, rIxTH, rIxLH, rLenTH, rLenLH, lk1, lfs_g, lfs_s, lfs_p, HO.ins.injEq, HO.tup.injEq, HO.lst.injEq, sp_Book_rounding, sp_Book_action, sp_Book_order, sp_Book_due, sp_Book_zero, sp_Book_beyond, Int.toNat_natCast, sp_visit_after, sp_is_visited, sp_Level_grain, sp_Level_slots, sp_Level_span, sp_Wheel_reach, sp_Wheel___len__, sp_is_integer, sp_is_count, sp_is_within, sp_rounded, tSeq, tAsg, gName, tVar, tC, tOp, rI, rI0, rU, tUn, oAdd, oSub, oMul, oDiv, oMod, oNeg, oLt, oLe, oGt, oGe, oIsN, oNotN, tFn, tCons, tNil, tIfS, tIf, tTest, tB, tNot, tAnd, tOr, tAndV, tOrV, tNotV,
    tRet, tRetN, tNext, tCB, tDrop, tChain, rEq, rNe, oMax2, oMin2, oInt1, rLenF, L2.start, List.map_cons, List.map_nil, List.length_cons, List.length_nil, List.replicate_succ, List.replicate_zero, List.cons_append, List.nil_append, Nat.reduceAdd, Nat.reduceSub, Nat.zero_add,
    List.set_cons_zero, List.set_cons_succ, List.getElem?_cons_zero, List.getElem?_cons_succ, Option.some.injEq, V.int.injEq, V.ref.injEq, V.str.injEq, V.bl.injEq, exists_eq_left', exists_eq_left, exists_and_left, List.cons.injEq, and_true, true_and, decide_eq_true_eq, sc_ii, sc_ss, sc_bb, sc_ni, sc_in, sc_nn, sc_is, reduceCtorEq,
    Bool.not_eq_true', decide_eq_false_iff_not, if_true, if_false, Bool.false_eq_true, exists_eq', exists_const, false_and, and_false, or_false, false_or, exists_false, Bool.not_not, Bool.not_true, Bool.not_false, sUp_up, sFire_fire, sHigh_high, sPut_put, sZone_now, sBey_refuse, sBey_cut, tTup, tLst, sz0, sz1, sz2, sz3, sz4, sz5, sz6])
section
variable {K : Frag} {w : World}
structure RBd (W : List Lv) (mg ms : Int) (ml : Nat) : Prop where
  g : ∀ i, i < W.length → (lv W i).g ≤ mg
  s : ∀ i, i < W.length → (lv W i).s ≤ ms
  n : W.length ≤ ml
def sp__law_draw_rows (K : Frag) : Sp := fun vs H Q _ => ∃ (p l : Addr) (mg ms : Int) (ml : Nat), vs = [.ref p, .int mg, .int ms, .int ml] ∧ PoolAt H p l ∧ 1 ≤ mg ∧ mg ≤ 1000 ∧ 2 ≤ ms ∧ ms ≤ 100 ∧ 1 ≤ ml ∧ ml ≤ 5 ∧
  ∀ (r : Addr) (W : List Lv) (H' : Hp), SameP p l H H' → PoolAt H' p l → H r = none → RowsAt H' r W → ROk W → RBd W mg ms ml → Q (.ref r) H'
structure Grown2 (W : List Lv) (i : Nat) (g low mg ms : Int) : Prop where
  len : W.length = i
  z : i = 0 → g = 1 ∧ low = 1
  p : 0 < i → ROk W ∧ g = (lv W (i - 1)).g ∧ low = (lv W (i - 1)).p ∧ g ≤ mg
  bg : ∀ j, j < W.length → (lv W j).g ≤ mg
  bs : ∀ j, j < W.length → (lv W j).s ≤ ms
def drInv (p l r : Addr) (mg ms : Int) (ml : Nat) (H : Hp) (i : Nat) (σ : L2.St) (H' : Hp) : Prop :=
  ∃ (W : List Lv) (g low : Int) (v7 v8 : Option V), σ = [some (.ref p), some (.int mg), some (.int ms), some (.int ml), some (.ref r), some (.int g), some (.int low), v7, v8] ∧ SameP p l H H' ∧ PoolAt H' p l ∧ RowsAt H' r W ∧ Grown2 W i g low mg ms
theorem rows_rest {p l r : Addr} {H Hd : Hp} {Q : VK} {W : List Lv} {G low mg ms : Int} {i ml : Nat} (ap : r ≠ p ∧ r ≠ l) (hr : H r = none) (hpd : PoolAt Hd p l) (sc : SameP p l H Hd) (hrc : RowsAt Hd r W) (hWi : W.length = i) (hi : i ≤ 4) (m1 : 1 ≤ mg) (m2 : mg ≤ 1000) (m3 : 2 ≤ ms) (m4 : ms ≤ 100)
    (hG1 : 1 * 1 ≤ G) (hG2 : G ≤ 1000 * 8)
    (hGd : W.length = 0 ∧ G = 1 ∧ low = 1 ∨ ROk W ∧ (lv W (W.length - 1)).g ∣ G ∧ low = (lv W (W.length - 1)).p) (bg : ∀ j, j < W.length → (lv W j).g ≤ mg) (bs : ∀ j, j < W.length → (lv W j).s ≤ ms) (hml : W.length ≤ ml)
    (q : ∀ (r : Addr) (W : List Lv) (H' : Hp), SameP p l H H' → PoolAt H' p l → H r = none → RowsAt H' r W → ROk W → RBd W mg ms ml → Q (.ref r) H') :
    sp__law_draw K [.ref p, .int (ms - 1)] Hd (fun y H2 => ∃ x, y = .int x ∧
      if mg < G then Q (.ref r) H2
      else CMul 4 (2 + x) ∧ CMul (4 * (2 + x)) G ∧
          if 4 * (2 + x) * G < low + 1 then Q (V.ref r) H2
          else sp__law_span K [V.ref p, V.int G, V.int (2 + x), V.int low] H2 (fun x_4 H1 => tyV K "list" (V.ref r) H1 ∧ ∀ (p_2 : Addr), H1 p_2 = none →
            ∃ x_5, upd H1 p_2 (HO.tup [V.int G, V.int (2 + x), x_4]) r = some (HO.lst x_5) ∧ x_5.length < sizeLine ∧
              drInv p l r mg ms ml H (i + 1) [some (V.ref p), some (V.int mg), some (V.int ms), some (V.int ml), some (V.ref r), some (V.int G), some x_4, some (V.int (0 + ↑i)), some (V.int (2 + x))] (upd (upd H1 p_2 (HO.tup [V.int G, V.int (2 + x), x_4])) r (HO.lst (x_5 ++ [V.ref p_2])))) E0) E0 := by
  refine draw (K := K) hpd (by omega) (log_small (by omega) (by omega)) fun s Hf s3 hpf d1 d2 => ⟨s, rfl, ?_⟩
  have h8 : 4 * 2 * 1 ≤ 4 * (2 + s) * G := Int.mul_le_mul (by omega) (by omega) (by omega) (by omega)
  have scf := sc.trans s3
  have hrf := RowsAt.sameP hpd hrc s3 ap.1 ap.2
  refine ite2 (fun e => ?_) fun e => ⟨.inr ⟨by omega, by omega⟩, .inr ⟨by omega, by omega⟩, ite2 (fun e2 => ?_) fun e2 => ?_⟩
  · exact q r W Hf scf hpf hr hrf (hGd.elim (fun z => by omega) fun z => z.1) ⟨bg, bs, hml⟩
  · exact q r W Hf scf hpf hr hrf (hGd.elim (fun z => by obtain ⟨_, z2, z3⟩ := z; subst z2 z3; omega) fun z => z.1) ⟨bg, bs, hml⟩
  · refine ⟨p, l, G, 2 + s, low, rfl, hpf, by omega, by omega, by omega, by omega, fun x Hg s4 hpg x1 x2 x3 => ?_⟩
    have hrg := RowsAt.sameP hpf hrf s4 ap.1 ap.2
    obtain ⟨ts, ha, hb, hc⟩ := hrg
    refine ⟨.inl ⟨rfl, _, SqL.of ha⟩, fun t ht => ?_⟩
    have s5 : Same Hg (upd Hg t (.tup [.int G, .int (2 + s), .int x])) := Same.new ht
    refine ⟨ts.map V.ref, s5 _ _ ha, ?_, ?_⟩
    · have : sizeLine = 16777216 := rfl
      rw [List.length_map]
      omega
    · have hx : x ≤ 4 * (2 + s) * G := by
        rcases x3 (by omega) with z | z <;> omega
      have hlow : low < x := x2
      have hW4 : W.length ≤ 4 := by omega
      have hlen : (W ++ [(⟨G, 2 + s, x⟩ : Lv)]).length = i + 1 := by simp [hWi]
      refine ⟨W ++ [⟨G, 2 + s, x⟩], G, x, _, _, rfl, SameP.updf ((scf.trans s4).step s5) hr, (hpg.new ht).updr ap, RowsAt.snoc (s5 _ _ ha) hb (fun i t q => s5 _ _ (hc i t q)) (updS _ _ _), ⟨hlen, fun z => by omega, fun _ => ?_, fun j hj => ?_, fun j hj => ?_⟩⟩
      · have e1 : lv (W ++ [(⟨G, 2 + s, x⟩ : Lv)]) (i + 1 - 1) = ⟨G, 2 + s, x⟩ := by rw [Nat.add_sub_cancel, ← hWi]; exact lv_app_eq
        rw [e1]
        refine ⟨ROk.snoc ?_ hW4 (by omega) (by omega) (by omega) (by omega) x1 hx, rfl, rfl, by omega⟩
        exact hGd.elim (fun z => .inl ⟨z.1, z.2.1⟩) fun z => .inr ⟨z.1, z.2.1, by have := z.2.2; omega⟩
      · rcases Nat.lt_or_ge j W.length with h | h
        · rw [lv_app_lt h]; exact bg j h
        · obtain rfl : j = W.length := by omega
          rw [lv_app_eq]; show G ≤ mg; omega
      · rcases Nat.lt_or_ge j W.length with h | h
        · rw [lv_app_lt h]; exact bs j h
        · obtain rfl : j = W.length := by omega
          rw [lv_app_eq]; show 2 + s ≤ ms; omega
def t__law_draw_rows (K : Frag) (w : World) : TS :=
  (tSeq (tPar3 4 5 6 (tCons (tLst tNil) (tCons (tC (.int 1)) (tCons (tC (.int 1)) tNil))))
  (tSeq (tFor (iRng1 (tCons (tOp oAdd (tC (.int 1)) (tFn (sp__law_draw K) E0 (tCons (tVar 0) (tCons (tVar 3) tNil)))) tNil)) (gName 7)
    (tSeq (tIfS (tTest (tOp oGt (tVar 7) (tC (.int 0)))) (tAsg (tOp oMul (tVar 5) (tOp rIxLH (tLst (tCons (tC (.int 2)) (tCons (tC (.int 3)) (tCons (tC (.int 4)) (tCons (tC (.int 2)) (tCons (tC (.int 5)) (tCons (tC (.int 6)) (tCons (tC (.int 1)) (tCons (tC (.int 8)) tNil))))))))) (tFn (sp__law_draw K) E0 (tCons (tVar 0) (tCons (tC (.int 8)) tNil))))) (gName 5)) tNext)
  (tSeq (tAsg (tOp oAdd (tC (.int 2)) (tFn (sp__law_draw K) E0 (tCons (tVar 0) (tCons (tOp oSub (tVar 2) (tC (.int 1))) tNil)))) (gName 8))
  (tSeq (tIfS (tOr (tTest (tOp oGt (tVar 5) (tVar 1))) (tTest (tOp oGt (tOp oAdd (tVar 6) (tC (.int 1))) (tOp oMul (tOp oMul (tC (.int 4)) (tVar 8)) (tVar 5))))) (tRet (tVar 4)) tNext)
  (tSeq (tAsg (tFn (sp__law_span K) E0 (tCons (tVar 0) (tCons (tVar 5) (tCons (tVar 8) (tCons (tVar 6) tNil))))) (gName 6))
  (tDrop (tBM K "list" rAppend (tVar 4) (tCons (tTup (tCons (tVar 5) (tCons (tVar 8) (tCons (tVar 6) tNil)))) tNil))))))))
  (tRet (tVar 4))))
def n__law_draw_rows : List Str := ["_law_pool", "_law_most_grain", "_law_most_slots", "_law_most_levels", "_law_rows", "_law_grain", "_law_low", "_law_k", "_law_slots"]
theorem rd__law_draw_rows (vs : List V) (H : Hp) (Q : VK) (E : XK) (h : sp__law_draw_rows K vs H Q E) : t__law_draw_rows K w { nx := fun _ H' => Q .non H', rt := Q } (L2.start n__law_draw_rows vs) H := by
  obtain ⟨p, l, mg, ms, ml, rfl, hp, m1, m2, m3, m4, m5, m6, q⟩ := h
  unfold t__law_draw_rows n__law_draw_rows tPar3 tBM rAppend
  walk_at "rsl2"
  intro r hr
  have ap := hp.apart hr
  have hp0 := hp.new (o := .lst []) hr
  refine ⟨_, rfl, _, rfl, draw (K := K) hp0 (by omega) (log_small (by omega) (by omega)) fun n0 H0 s0 hp1 n1 n2 => ⟨_, _, rfl, rfl, _, rfl, by omega, by omega, for_range
    (drInv p l r mg ms ml H)
    ⟨[], 1, 1, none, none, rfl, ((SameP.refl p l H).step (Same.new hr)).trans s0, hp1, ⟨[], s0 _ _ ap.1 ap.2 (updS _ _ _), rfl, fun i t e => by simp at e⟩, ⟨rfl, fun _ => ⟨rfl, rfl⟩, fun z => by omega, fun j z => by simp at z, fun j z => by simp at z⟩⟩ ?_ ?_⟩⟩
  · rintro i σ Hc hi ⟨W, g, low, v7, v8, rfl, sc, hpc, hrc, hG⟩
    have hWi := hG.len
    walk_at "rsl2"
    refine ite2 (fun h0 => ⟨by decide, ?_⟩) fun h0 => ?_
    · obtain ⟨hRk, hg, hlow, hg2⟩ := hG.p (by omega)
      have hall := hRk.ok.all (i - 1) (by omega)
      intro r1 hr1
      refine drawAt hpc hr1 (by decide) (by decide) rfl fun i1 x1 Hd s1 hpd _ a1 b1 c1 => ?_
      obtain ⟨f, hf, hfe⟩ := atInts (xs := [2, 3, 4, 2, 5, 6, 1, 8]) a1 b1
      obtain rfl : x1 = .int f := by
        have : atI ([2, 3, 4, 2, 5, 6, 1, 8].map V.int) i1 = some x1 := c1
        rw [hfe] at this
        exact (Option.some.inj this).symm
      have hf1 : 1 ≤ f ∧ f ≤ 8 := by
        simp at hf
        omega
      have hG1 : 1 * 1 ≤ g * f := Int.mul_le_mul (by omega) hf1.1 (by omega) (by omega)
      have hG2 : g * f ≤ 1000 * 8 := Int.mul_le_mul (by omega) hf1.2 (by omega) (by omega)
      have hGd : W.length = 0 ∧ g * f = 1 ∧ low = 1 ∨ ROk W ∧ (lv W (W.length - 1)).g ∣ g * f ∧ low = (lv W (W.length - 1)).p := .inr ⟨hRk, by rw [hWi, ← hg]; exact Int.dvd_mul_right _ _, by rw [hWi]; exact hlow⟩
      have sc := sc.trans s1
      have hrc := RowsAt.sameP hpc hrc s1 ap.1 ap.2
      refine ⟨f, rfl, .inr ⟨by omega, by omega⟩, ?_⟩
      generalize g * f = G at hG1 hG2 hGd ⊢
      exact rows_rest ap hr hpd sc hrc hWi (by omega) m1 m2 m3 m4 hG1 hG2 hGd hG.bg hG.bs (by omega) q
    · obtain ⟨hg1, hlow1⟩ := hG.z (by omega)
      exact rows_rest ap hr hpc sc hrc hWi (by omega) m1 m2 m3 m4 (by omega) (by omega) (.inl ⟨by omega, hg1, hlow1⟩) hG.bg hG.bs (by omega) q
  · rintro σ H1 ⟨W, g, low, v7, v8, rfl, sc, hpc, hrc, hG⟩
    exact ⟨_, rfl, q r W H1 sc hpc hr hrc (hG.p (by omega)).1 ⟨hG.bg, hG.bs, by have := hG.len; omega⟩⟩
end
end Tw
/-! Tw: walks from visit to visit; lumps of one length -/
namespace Tw
open TwM
section
variable {W : List Lv} {B : Bk}
/-- a timer from visit to visit, until it fires at T -/
inductive Walks (W : List Lv) (B : Bk) : Spot → Int → Int → Prop
  | fired {sp : Spot} {tick : Int} : (visited W B sp (va (lv W sp.lv) sp.pt tick - 1) (va (lv W sp.lv) sp.pt tick)).getLast? = some none → Walks W B sp tick (va (lv W sp.lv) sp.pt tick)
  | on {sp sp' : Spot} {tick T : Int} : (visited W B sp (va (lv W sp.lv) sp.pt tick - 1) (va (lv W sp.lv) sp.pt tick)).getLast? = some (some sp') → Walks W B sp' (va (lv W sp.lv) sp.pt tick) T → Walks W B sp tick T
theorem Walks.eq {sp : Spot} {tick T T' : Int} (h : Walks W B sp tick T) (h' : Walks W B sp tick T') : T = T' := by
  induction h with
  | fired e =>
    cases h' with
    | fired _ => rfl
    | on e' _ => rw [e] at e'; cases e'
  | on e _ ih =>
    cases h' with
    | fired e' => rw [e] at e'; cases e'
    | on e' q => rw [e] at e'; cases e'; exact ih q
theorem skipped_no {sp : Spot} {tick : Int} {lim : Option Int} (h : sp.due - tick < reach W) : skipped W sp tick lim = (0, 0) := by
  unfold skipped
  rw [if_pos (.inr h)]
/-- below the range nothing is leapt over -/
theorem fol_walks (ok : WOk W) : ∀ (n : Nat) {sp : Spot} {tick mv : Int} {r : Res}, fol W B none n sp tick mv = some r → sp.due - tick ≤ reach W → sp.lv < W.length → Walks W B sp tick r.2.1
  | 0, _, _, _, _, h, _, _ => by cases h
  | n + 1, sp, tick, mv, r, h, hr, hl => by
    have hall := ok.all _ hl
    have hgt := va_gt (l := lv W sp.lv) (by omega) (by omega) sp.pt tick
    unfold fol at h
    dsimp only at h
    rw [if_neg (by unfold over; exact Bool.false_ne_true)] at h
    cases hq : (visited W B sp (va (lv W sp.lv) sp.pt tick - 1) (va (lv W sp.lv) sp.pt tick)).getLast? with
    | none => rw [hq] at h; cases h
    | some o =>
      rw [hq] at h
      cases o with
      | none => cases h; exact .fired hq
      | some sp' =>
        dsimp only at h
        obtain ⟨c1, c2, c3, c4⟩ := visGo_last ok _ hq
        rw [skipped_no (by rw [c2]; omega), if_neg (by decide)] at h
        exact .on hq (fol_walks ok n h (by rw [c2]; omega) c1)
theorem va_most {l : Lv} (hg : 0 < l.g) (hs : 0 < l.s) (pt now : Int) : va l pt now ≤ now + l.s * l.g := by
  unfold va
  have h1 := Int.emod_lt_of_pos (pt - now / l.g - 1) hs
  have h2 : (now / l.g + 1 + (pt - now / l.g - 1) % l.s) * l.g ≤ (now / l.g + l.s) * l.g := Int.mul_le_mul_of_nonneg_right (by omega) (by omega)
  have h3 := Int.ediv_mul_le now (b := l.g) (by omega)
  have h4 := Int.add_mul (now / l.g) l.s l.g
  omega
theorem va_step (ok : WOk W) {i : Nat} (hi : i < W.length) (pt now : Int) : now < va (lv W i) pt now ∧ va (lv W i) pt now ≤ now + 100000 := by
  have hall := ok.all _ hi
  refine ⟨va_gt (by omega) (by omega) pt now, ?_⟩
  have h1 := va_most (l := lv W i) (by omega) (by omega) pt now
  have h2 : (lv W i).s * (lv W i).g ≤ 100 * 1000 := Int.mul_le_mul (by omega) (by omega) (by omega) (by omega)
  omega
theorem mu_step {sp sp' : Spot} {tick t bf : Int} (ok : WOk W) (ht : tick < t) (hq : (visited W B sp bf t).getLast? = some (some sp')) : mu sp' t + 1 ≤ mu sp tick ∧ sp'.lv < W.length ∧ sp'.due = sp.due := by
  obtain ⟨c1, c2, c3, c4⟩ := visGo_last ok _ hq
  refine ⟨?_, c1, c2⟩
  have h0 : sp.lv ≠ 0 := fun e => by
    have := visGo_zero (W := W) (B := B) (before := bf) (now := t) (order W B) e (some sp') (List.mem_of_getLast? hq)
    cases this
  unfold mu
  rw [if_neg h0]
  split
  · omega
  · rename_i hz
    rcases c4 with ⟨d1, d2⟩ | ⟨d1, d2⟩
    · rw [c2]; omega
    · exact absurd (by rw [d2]) hz
theorem Walks.bound (ok : WOk W) {sp : Spot} {tick T : Int} (h : Walks W B sp tick T) (hl : sp.lv < W.length) : tick < T ∧ T ≤ tick + 100000 * (mu sp tick : Int) := by
  induction h with
  | @fired sp tick e =>
    have hs := va_step ok hl sp.pt tick
    have : 1 ≤ mu sp tick := by unfold mu; split <;> omega
    omega
  | @on sp sp' tick T e q ih =>
    have hs := va_step ok hl sp.pt tick
    have hm := mu_step ok hs.1 e
    have := ih hm.2.1
    omega
/-- lumps of one length: nx tells the end of the next lump that visits, bf its beginning -/
inductive Beats (W : List Lv) (B : Bk) (nx : Lv → Int → Int → Option Int → Prop) (bf : Int → Int) : Spot → Int → Option Int → Prop
  | lost {sp : Spot} {tick : Int} : nx (lv W sp.lv) sp.pt tick none → Beats W B nx bf sp tick none
  | fired {sp : Spot} {tick t : Int} : nx (lv W sp.lv) sp.pt tick (some t) → (visited W B sp (bf t) t).getLast? = some none → Beats W B nx bf sp tick (some t)
  | on {sp sp' : Spot} {tick t : Int} {o : Option Int} : nx (lv W sp.lv) sp.pt tick (some t) → (visited W B sp (bf t) t).getLast? = some (some sp') → Beats W B nx bf sp' t o → Beats W B nx bf sp tick o
theorem Beats.one {nx : Lv → Int → Int → Option Int → Prop} {bf : Int → Int} (ok : WOk W) (hx : ∀ i pt tick o, i < W.length → nx (lv W i) pt tick o → o = some (va (lv W i) pt tick)) (hb : ∀ t, bf t = t - 1) {sp : Spot} {tick : Int} {o : Option Int}
    (h : Beats W B nx bf sp tick o) (hl : sp.lv < W.length) : ∃ T, o = some T ∧ Walks W B sp tick T := by
  induction h with
  | lost e => have := hx _ _ _ _ hl e; cases this
  | @fired sp tick t e q =>
    obtain rfl := Option.some.inj (hx _ _ _ _ hl e)
    rw [hb] at q
    exact ⟨_, rfl, .fired q⟩
  | @on sp sp' tick t o e q z ih =>
    obtain rfl := Option.some.inj (hx _ _ _ _ hl e)
    rw [hb] at q
    obtain ⟨c1, c2, c3, c4⟩ := visGo_last ok _ q
    obtain ⟨T, rfl, hT⟩ := ih c1
    exact ⟨T, rfl, .on q hT⟩
/-- a lump that reaches beyond a visit visits -/
theorem isVis_in {l : Lv} {pt v bf now : Int} (hg : 0 < l.g) (hs : 0 < l.s) (h : l.g * l.s ∣ v - pt * l.g) (h1 : bf < v) (h2 : v ≤ now) : isVis l pt bf now = true := by
  obtain ⟨j, hj⟩ := h
  have e : v = (pt + l.s * j) * l.g := by rw [Int.add_mul, Int.mul_comm (l.s * j) l.g, ← Int.mul_assoc]; omega
  unfold isVis
  have h3 : bf / l.g < pt + l.s * j := Int.ediv_lt_of_lt_mul hg (by omega)
  have h4 : pt + l.s * j ≤ now / l.g := Int.le_ediv_of_mul_le hg (by omega)
  have h5 : (pt - bf / l.g - 1) % l.s = (pt + l.s * j - bf / l.g - 1) % l.s := by
    rw [show pt + l.s * j - bf / l.g - 1 = (pt - bf / l.g - 1) + l.s * j by omega, Int.add_mul_emod_self_left]
  have h6 : (pt + l.s * j - bf / l.g - 1) % l.s ≤ pt + l.s * j - bf / l.g - 1 := by
    have := Int.emod_def (pt + l.s * j - bf / l.g - 1) l.s
    have h7 : 0 ≤ (pt + l.s * j - bf / l.g - 1) / l.s := Int.ediv_nonneg (by omega) (by omega)
    have h8 : 0 ≤ l.s * ((pt + l.s * j - bf / l.g - 1) / l.s) := Int.mul_nonneg (by omega) h7
    omega
  rw [h5]
  exact decide_eq_true (by omega)
theorem va_dvd {l : Lv} (hs : 0 < l.s) (pt now : Int) : l.g * l.s ∣ va l pt now - pt * l.g := by
  unfold va
  have e := Int.emod_def (pt - now / l.g - 1) l.s
  refine ⟨-((pt - now / l.g - 1) / l.s), ?_⟩
  rw [e, ← Int.sub_mul, Int.mul_neg, Int.mul_assoc, ← Int.mul_neg, Int.mul_comm l.g]
  congr 1
  generalize l.s * ((pt - now / l.g - 1) / l.s) = z
  omega
/-- the first tick of a slot's ticks after a tick -/
theorem va_uniq {l : Lv} (hg : 0 < l.g) (hs : 0 < l.s) {pt tick k : Int} (h1 : 1 ≤ k) (h2 : k ≤ l.g * l.s) (h : l.g * l.s ∣ tick + k - pt * l.g) : tick + k = va l pt tick := by
  have a := va_dvd (l := l) hs pt tick
  have b := va_gt (l := l) hg hs pt tick
  have c := va_most (l := l) hg hs pt tick
  rw [Int.mul_comm l.s] at c
  have d := Int.dvd_sub h a
  rw [show tick + k - pt * l.g - (va l pt tick - pt * l.g) = tick + k - va l pt tick by omega] at d
  generalize l.g * l.s = m at *
  obtain ⟨z, hz⟩ := d
  have hz0 : z = 0 := by
    rcases Int.lt_trichotomy z 0 with q | q | q
    · have : m * z ≤ m * (-1) := Int.mul_le_mul_of_nonneg_left (by omega) (by omega)
      omega
    · exact q
    · have : m * 1 ≤ m * z := Int.mul_le_mul_of_nonneg_left (by omega) (by omega)
      omega
  rw [hz0] at hz
  omega
end
end Tw
/-! Tw: a walk that leaps tells what a walk from visit to visit tells -/
namespace Tw
open TwM
section
variable {W : List Lv} {B : Bk} {lim : Option Int}
/-- from visit to visit, without leaps -/
def wl (W : List Lv) (B : Bk) (lim : Option Int) : Nat → Spot → Int → Int → Option Res
  | 0, _, _, _ => none
  | n + 1, sp, tick, mv =>
    let t := va (lv W sp.lv) sp.pt tick
    if over lim t = true then some (some sp, tick, mv)
    else
      let found := visited W B sp (t - 1) t
      match found.getLast? with
      | none => none
      | some none => some (none, t, mv + found.length - 1)
      | some (some sp') => wl W B lim n sp' t (mv + found.length)
theorem wl_ends (ok : WOk W) (B : Bk) (lim : Option Int) : ∀ (n : Nat) (sp : Spot) (tick mv : Int), sp.lv < W.length → mu sp tick ≤ n → ∃ r, wl W B lim n sp tick mv = some r
  | 0, sp, tick, mv, _, h => by unfold mu at h; split at h <;> omega
  | n + 1, sp, tick, mv, hl, h => by
    have hgt := va_step ok hl sp.pt tick
    unfold wl
    dsimp only
    split
    · exact ⟨_, rfl⟩
    · cases hq : (visited W B sp (va (lv W sp.lv) sp.pt tick - 1) (va (lv W sp.lv) sp.pt tick)).getLast? with
      | none => exact absurd (List.getLast?_eq_none_iff.mp hq) (visited_ne ok hl tick)
      | some o =>
        cases o with
        | none => exact ⟨_, rfl⟩
        | some sp' =>
          obtain ⟨m1, m2, m3⟩ := mu_step ok hgt.1 hq
          exact wl_ends ok B lim n sp' _ _ m2 (by omega)
theorem wl_mono : ∀ (n : Nat) {sp : Spot} {tick mv : Int} {r : Res}, wl W B lim n sp tick mv = some r → ∀ m, n ≤ m → wl W B lim m sp tick mv = some r
  | 0, _, _, _, _, h, _, _ => by cases h
  | n + 1, sp, tick, mv, r, h, m, hm => by
    obtain ⟨m, rfl⟩ : ∃ k, m = k + 1 := ⟨m - 1, by omega⟩
    unfold wl at h ⊢
    dsimp only at h ⊢
    split at h
    · rename_i h1
      rw [if_pos h1]; exact h
    · rename_i h1
      rw [if_neg h1]
      split at h
      · cases h
      · exact h
      · exact wl_mono n h m (by omega)
theorem wl_eq {n m : Nat} {sp : Spot} {tick mv : Int} {r r' : Res} (h : wl W B lim n sp tick mv = some r) (h' : wl W B lim m sp tick mv = some r') : r = r' := by
  have e1 := wl_mono n h (max n m) (Nat.le_max_left _ _)
  have e2 := wl_mono m h' (max n m) (Nat.le_max_right _ _)
  rw [e1] at e2
  exact Option.some.inj e2
/-- a timer beyond the range lies in the last level -/
def Proper (W : List Lv) (sp : Spot) (tick : Int) : Prop := reach W ≤ sp.due - tick → sp.lv = W.length - 1
theorem le_reach (ok : WOk W) {i : Nat} (hi : i < W.length) : (lv W i).p ≤ reach W := by
  unfold reach
  rcases Nat.lt_or_ge i (W.length - 1) with h | h
  · have := asc_le ok (W.length - 1 - i - 1) i (by omega)
    rw [show i + (W.length - 1 - i - 1) + 1 = W.length - 1 by omega] at this
    omega
  · rw [show i = W.length - 1 by omega]; exact Int.le_refl _
theorem spotAt_far (ok : WOk W) {now rest due : Int} (h : reach W ≤ rest) : spotAt W B now rest due = ⟨W.length - 1, rnd B.up (now + reach W - 1) (lv W (W.length - 1)).g, due⟩ := by
  unfold spotAt
  rw [levelOf_isN fun j hj => Int.le_trans (le_reach ok hj) h]
theorem spotAt_proper (ok : WOk W) (now due : Int) : Proper W (spotAt W B now (due - now) due) now := fun h => by
  rw [spotAt_due] at h
  rw [spotAt_far ok h]
theorem visGo_not {b n : Int} : ∀ (is rest : List Nat) {sp : Spot}, sp.lv ∉ is → visGo W B b n (is ++ rest) sp = visGo W B b n rest sp
  | [], _, _, _ => rfl
  | i :: is, rest, sp, h => by
    rw [List.mem_cons, not_or] at h
    rw [List.cons_append]
    show (if _ then _ else _) = _
    rw [if_neg (fun z => h.1 z.1)]
    exact visGo_not is rest h.2
theorem visGo_out {b n : Int} (is : List Nat) {sp : Spot} (h : sp.lv ∉ is) : visGo W B b n is sp = [] := by
  have := visGo_not (W := W) (B := B) (b := b) (n := n) is [] h
  rw [List.append_nil] at this
  rw [this]; rfl
/-- a visit of a timer that stays beyond the range -/
theorem visit_far (ok : WOk W) (hf : B.fire = false) {sp : Spot} (h1 : 1 < W.length) (hl : sp.lv = W.length - 1) {t : Int} (hv : isVis (lv W sp.lv) sp.pt (t - 1) t = true) (hr : reach W ≤ sp.due - t) :
    visited W B sp (t - 1) t = [some (spotAt W B t (sp.due - t) sp.due)] := by
  have hre : 2 ≤ reach W := (ok.all (W.length - 1) (by omega)).2.2.2.2
  have ht : taken W B sp t = some (spotAt W B t (sp.due - t) sp.due) := by
    unfold taken
    rw [if_neg (by rw [hl, hf]; rintro (z | z); omega; cases z), if_pos (by omega)]
  have hs : (spotAt W B t (sp.due - t) sp.due).lv = W.length - 1 := by rw [spotAt_far ok hr]
  obtain ⟨k, hk⟩ : ∃ k, W.length = k + 1 := ⟨W.length - 1, by omega⟩
  have hlk : sp.lv = k := by omega
  have step : ∀ is, k ∉ is → visGo W B (t - 1) t (k :: is) sp = [some (spotAt W B t (sp.due - t) sp.due)] := fun is hi => by
    show (if _ then _ else _) = _
    rw [if_pos ⟨hlk, by rw [← hlk]; exact hv⟩, ht]
    show _ :: visGo W B (t - 1) t is _ = _
    rw [visGo_out is (by rw [hs, show W.length - 1 = k by omega]; exact hi)]
  unfold visited order
  split
  · rw [hk, List.range_succ, List.reverse_append]
    exact step _ (by simp)
  · rw [hk, List.range_succ, visGo_not _ _ (by rw [hlk]; simp)]
    exact step [] (by simp)
/-- so many visits beyond the range -/
theorem wl_far (ok : WOk W) (hf : B.fire = false) (h1 : 1 < W.length) {due step : Int} : ∀ (j : Nat) {t mv : Int} (m : Nat), (lv W (W.length - 1)).g ∣ t → reach W ≤ due - t →
    va (lv W (W.length - 1)) (spotAt W B t (due - t) due).pt t = t + step → j * step ≤ due - t - reach W → (∀ l, lim = some l → t + j * step ≤ l) →
    wl W B lim (m + j) (spotAt W B t (due - t) due) t mv = wl W B lim m (spotAt W B (t + j * step) (due - (t + j * step)) due) (t + j * step) (mv + j)
  | 0, t, mv, m, _, _, _, _, _ => by simp
  | j + 1, t, mv, m, hg, hr, hs, hj, hlim => by
    have hall := ok.all (W.length - 1) (by omega)
    have hgt := va_gt (l := lv W (W.length - 1)) (by omega) (by omega) (spotAt W B t (due - t) due).pt t
    rw [hs] at hgt
    have hs0 : 0 < step := by omega
    have e1 : ((j + 1 : Nat) : Int) * step = j * step + step := by rw [Int.natCast_add, Int.add_mul]; simp
    rw [e1] at hj hlim
    have hj0 : 0 ≤ (j : Int) * step := Int.mul_nonneg (by omega) (by omega)
    have hfar := spotAt_far (B := B) ok (now := t) (due := due) hr
    have hlv : (spotAt W B t (due - t) due).lv = W.length - 1 := by rw [hfar]
    have hdu : (spotAt W B t (due - t) due).due = due := spotAt_due _ _ _ _ _
    have hgs : (lv W (W.length - 1)).g ∣ step := by
      have h2 : (lv W (W.length - 1)).g ∣ t + step := by rw [← hs]; exact Int.dvd_mul_left _ _
      have := Int.dvd_sub h2 hg
      rwa [show t + step - t = step by omega] at this
    have hvis : isVis (lv W (W.length - 1)) (spotAt W B t (due - t) due).pt (t + step - 1) (t + step) = true := by
      rw [← hs]; exact va_vis (by omega) (by omega) _ _
    have hv := visit_far ok hf h1 hlv (t := t + step) (by rw [hlv]; exact hvis) (by rw [hdu]; omega)
    rw [hdu] at hv
    have ho : over lim (t + step) = false := by
      cases hl : lim with
      | none => rfl
      | some l =>
        have := hlim l hl
        exact decide_eq_false (by omega)
    have hfar1 := spotAt_far (B := B) ok (now := t + step) (due := due) (rest := due - (t + step)) (by omega)
    have hs1 : va (lv W (W.length - 1)) (spotAt W B (t + step) (due - (t + step)) due).pt (t + step) = t + step + step := by
      have e2 : (spotAt W B (t + step) (due - (t + step)) due).pt = (spotAt W B t (due - t) due).pt + step / (lv W (W.length - 1)).g := by
        rw [hfar, hfar1]
        show rnd B.up (t + step + reach W - 1) _ = rnd B.up (t + reach W - 1) _ + _
        rw [show t + step + reach W - 1 = (t + reach W - 1) + step by omega]
        exact rnd_shiftD (by omega) hgs
      rw [e2, va_shift (by omega) hgs, hs]
    have ih := wl_far ok hf h1 (due := due) (step := step) j (t := t + step) (mv := mv + 1) m (Int.dvd_add hg hgs) (by omega) hs1 (by omega) (fun l hl => by have := hlim l hl; omega)
    rw [show m + (j + 1) = (m + j) + 1 by omega]
    show (let t0 := va (lv W (spotAt W B t (due - t) due).lv) (spotAt W B t (due - t) due).pt t; if over lim t0 = true then _ else _) = _
    dsimp only
    rw [hlv, hs, ho, if_neg Bool.false_ne_true, hv]
    show wl W B lim (m + j) (spotAt W B (t + step) (due - (t + step)) due) (t + step) (mv + ((1 : Nat) : Int)) = _
    rw [show mv + ((1 : Nat) : Int) = mv + 1 by simp, ih, e1]
    rw [show t + step + j * step = t + (j * step + step) by omega, show mv + 1 + (j : Int) = mv + ((j + 1 : Nat) : Int) by rw [Int.natCast_add]; omega]
theorem fol_wl (ok : WOk W) : ∀ (n : Nat) {sp : Spot} {tick mv : Int} {r : Res}, Proper W sp tick → sp.lv < W.length → fol W B lim n sp tick mv = some r → ∃ m, wl W B lim m sp tick mv = some r
  | 0, _, _, _, _, _, _, h => by cases h
  | n + 1, sp, tick, mv, r, hp, hl, h => by
    have hgt := va_step ok hl sp.pt tick
    have hall := ok.all _ hl
    have htd : (lv W sp.lv).g ∣ va (lv W sp.lv) sp.pt tick := Int.dvd_mul_left _ _
    unfold fol at h
    dsimp only at h
    by_cases ho : over lim (va (lv W sp.lv) sp.pt tick) = true
    · rw [if_pos ho] at h
      exact ⟨1, by unfold wl; dsimp only; rw [if_pos ho]; exact h⟩
    · rw [if_neg ho] at h
      have go : ∀ m sp', (visited W B sp (va (lv W sp.lv) sp.pt tick - 1) (va (lv W sp.lv) sp.pt tick)).getLast? = some (some sp') → wl W B lim m sp' (va (lv W sp.lv) sp.pt tick) (mv + (visited W B sp (va (lv W sp.lv) sp.pt tick - 1) (va (lv W sp.lv) sp.pt tick)).length) = some r →
          ∃ m, wl W B lim m sp tick mv = some r := fun m sp' hq hw => ⟨m + 1, by unfold wl; dsimp only; rw [if_neg ho, hq]; exact hw⟩
      cases hq : (visited W B sp (va (lv W sp.lv) sp.pt tick - 1) (va (lv W sp.lv) sp.pt tick)).getLast? with
      | none => rw [hq] at h; cases h
      | some o =>
        rw [hq] at h
        cases o with
        | none => exact ⟨1, by unfold wl; dsimp only; rw [if_neg ho, hq]; exact h⟩
        | some sp' =>
          dsimp only at h
          obtain ⟨c1, c2, c3, c4⟩ := visGo_last ok _ hq
          have h0 : sp.lv ≠ 0 := fun e => by
            have := visGo_zero (W := W) (B := B) (before := va (lv W sp.lv) sp.pt tick - 1) (now := va (lv W sp.lv) sp.pt tick) (order W B) e (some sp') (List.mem_of_getLast? hq)
            cases this
          have hre : 2 ≤ reach W := (ok.all (W.length - 1) (by omega)).2.2.2.2
          generalize va (lv W sp.lv) sp.pt tick = t at *
          have hp' : Proper W sp' t := fun z => by
            rcases c4 with ⟨d1, d2⟩ | ⟨d1, d2⟩
            · rw [c2] at z
              rw [d2, spotAt_far ok z]
            · omega
          split at h
          · rename_i hk
            obtain ⟨k1, k2, k3, k4⟩ := skipped_pos hk
            have hstep : 0 < (skipped W sp' t lim).2 := by
              have := va_step ok c1 sp'.pt t
              omega
            have hlim : ∀ l, lim = some l → t + (skipped W sp' t lim).1 * (skipped W sp' t lim).2 ≤ l := fun l hl => by
              have e : (skipped W sp' t lim).1 ≤ (l - t) / (skipped W sp' t lim).2 := by
                subst hl
                unfold skipped at hk ⊢
                split
                · rename_i z; rw [if_pos z] at hk; simp at hk
                · exact Int.min_le_right _ _
              have := Int.mul_le_of_le_ediv hstep e
              omega
            have hfit : (skipped W sp' t lim).1 * (skipped W sp' t lim).2 ≤ sp'.due - t - reach W := by
              rw [← k3] at k4
              exact Int.mul_le_of_le_ediv hstep k4
            generalize hK : (skipped W sp' t lim).1 = K at *
            generalize hS : (skipped W sp' t lim).2 = step at *
            obtain ⟨j, rfl⟩ : ∃ j : Nat, K = (j : Int) := ⟨K.toNat, by omega⟩
            have hprop : Proper W (spotAt W B (t + j * step) (sp'.due - (t + j * step)) sp'.due) (t + j * step) := spotAt_proper ok _ _
            obtain ⟨m, hm⟩ := fol_wl ok n hprop (spotAt_lt ok _ _ _ _) h
            have hsl : sp.lv = W.length - 1 := hp (by rw [← c2]; omega)
            have hsp' : sp' = spotAt W B t (sp'.due - t) sp'.due := by
              rcases c4 with ⟨d1, d2⟩ | ⟨d1, d2⟩
              · rw [c2]; exact d2
              · rw [c2] at k2; omega
            have hva : va (lv W (W.length - 1)) (spotAt W B t (sp'.due - t) sp'.due).pt t = t + step := by
              rw [← hsp', ← k1]; omega
            have hw := wl_far (lim := lim) ok c3 (by omega) (due := sp'.due) (step := step) j (t := t) (mv := mv + (visited W B sp (t - 1) t).length) m (by rw [← hsl]; exact htd) k2 hva (by omega) hlim
            refine go (m + j) sp' hq ?_
            rw [← hsp'] at hw
            rw [hw]
            exact hm
          · obtain ⟨m, hm⟩ := fol_wl ok n hp' c1 h
            exact go m sp' hq hm
end
end Tw
/-! Tw: list(range(a, b)) at bounds of any size -/
namespace Tw
open PySem PySem.Spec PyProof.Rows L2
section
variable {prog : Program} {w : World} {A : Around} {E : Value → Shared → Prop} {s : Shared}
/-- the items of a long range go to a list -/
theorem extend_long {R : Result → Shared → Prop} {r S : Addr} {a b : Int} {t u v : Tok} {n c0 : Nat} {res : Value} (hh : A.handled = none) (hr : IsRange s.heap r a b 1 t u v) (hbig : Builtin.Range.small a b 1 = false) (hn : Builtin.Range.rangeSize a b 1 = n) (hlen : n ≤ 2 ^ 24)
    (hS : s.heap.get? S = some { cls := .type "list", data := .seq #[] c0 })
    (hR : ∀ h2 tk acc c2, (∀ x o, x ≠ S → s.heap.get? x = some o → h2.get? x = some o) → h2.get? S = some { cls := .type "list", dict := none, data := .seq acc c2, slots := #[] } → ItemsOf (fun i y => ∃ t, y = .int (a + i * 1) t) acc n → R (.ok (.ret res)) { s with heap := h2, toks := tk }) :
    wpAny (model prog w) A.in1 (Builtin.List.listExtendWith (.ref S) (.ref r) res) (fun fin t => match fin with | .done f => R (.ok f) t | .again q => q.quiet = true ∧ codeAny (model prog w) A q R t) (fun e t => R (.error e) t) s := by
  have nSr : S ≠ r := by
    rintro rfl
    rw [hr] at hS
    simp at hS
  have hlt := Heap.lt_size hS
  have nSI : S ≠ s.heap.objs.size := Nat.ne_of_lt hlt
  have loop : ∀ h c1 tk, IsLongIter h s.heap.objs.size (a + ((0 : Nat) : Int) * 1) ((n : Int) - ((0 : Nat) : Int)) 1 → (∀ x o, x ≠ S → s.heap.get? x = some o → h.get? x = some o) → h.get? S = some { cls := .type "list", data := .seq #[] c1 } →
      codeAny (model prog w) A (.builtin "list.extend.loop" ⟨[.ref S, .ref s.heap.objs.size, res], []⟩) R { s with heap := h, toks := tk } := by
    intro h c1 tk it keep hS1
    refine codeAny_extend_loopS (Walks.longrange (prog := prog) (w := w) (A := A.in1) hh s.heap.objs.size a 1 n).toS (by rw [sizeLine_eq]; omega) S (fun z => nSI (List.mem_singleton.mp z)) res n 0 _ #[] c1 rfl (Nat.zero_le _) it hS1 (ItemsOf.nil _) fun t2 acc c2 mv g1 g2 => ?_
    rw [Moved.eq_with mv]
    refine hR t2.heap t2.toks acc c2 (fun x o nx e => mv.heap x o (fun z => ?_) (keep x o nx e)) g1 g2
    rcases List.mem_cons.mp z with z | z
    · exact nx z
    · have := Heap.lt_size e
      rw [List.mem_singleton.mp z] at this
      exact Nat.lt_irrefl _ this
  unfold Builtin.List.listExtendWith
  refine wpAny_bind (wpAny_typeOf (T := "range") ⟨_, hr, rfl⟩ ?_)
  rw [show Builtin.List.listSameRef (.ref S) (.ref r) = false by simp [Builtin.List.listSameRef, nSr]]
  simp only [show (Value.type "range" == Value.type "list") = false by decide, show (Value.type "range" == Value.type "tuple") = false by decide, Bool.or_false, Bool.false_eq_true, if_false]
  refine wpAny_bind (wpAny_pyIter_longrange hr hbig (wpAny_bind (wpAny_holding (wpAny_hint_range (n := n) (Heap.get?_push_of_some _ hr) hn hlen ?_))))
  have it : IsLongIter (s.heap.push { cls := .type "longrange_iterator", data := .fields #[rawInt a, rawInt (Builtin.Range.rangeSize a b 1), rawInt 1] }) s.heap.objs.size (a + ((0 : Nat) : Int) * 1) ((n : Int) - ((0 : Nat) : Int)) 1 := by
    rw [hn]
    simpa using Heap.get?_push_size _ rfl
  have hS1 := Heap.get?_push_of_some { cls := .type "longrange_iterator", data := .fields #[rawInt a, rawInt (Builtin.Range.rangeSize a b 1), rawInt 1] } hS
  refine wpAny_ite_split (fun _ => wpAny_bind (wpAny_rule ?_)) fun _ => wpAny_pure ⟨plainId_quiet F.plain_extend_loop _, loop _ c0 _ it (fun x o _ e => Heap.get?_push_of_some _ e) hS1⟩
  refine wpAny_bind ?_
  show wpAny _ _ (updateSeq S (·.push .none) >>= fun _ => updateSeq S (·.pop)) _ _ _
  have hS2 := Heap.get?_update_self (Obj.mapSeq (·.push Value.none)) hS1 rfl
  refine wpAny_bind (wpAny_updateSeq hS1 rfl (wpAny_updateSeq (hz := by seq_fits) hS2 rfl (wpAny_pure ⟨plainId_quiet F.plain_extend_loop _, loop _ _ _ ?_ (fun x o nx e => ?_) (Heap.get?_update_self (Obj.mapSeq (·.pop)) hS2 rfl)⟩)))
  · exact (Heap.get?_update_other _ _ nSI).trans ((Heap.get?_update_other _ _ nSI).trans it)
  · exact (Heap.get?_update_other _ _ (Ne.symm nx)).trans ((Heap.get?_update_other _ _ (Ne.symm nx)).trans (Heap.get?_push_of_some _ e))
/-- list(range(a, b)), too long for a plain iterator -/
theorem call_list_long {Q : Value → Shared → Prop} {r : Addr} {a b : Int} {t u v : Tok} {n : Nat} (hh : A.handled = none) (hr : IsRange s.heap r a b 1 t u v) (hbig : Builtin.Range.small a b 1 = false) (hn : Builtin.Range.rangeSize a b 1 = n) (hlen : n ≤ 2 ^ 24)
    (hQ : ∀ h2 tk acc c2, (∀ x o, s.heap.get? x = some o → h2.get? x = some o) → h2.get? s.heap.objs.size = some { cls := .type "list", dict := none, data := .seq acc c2, slots := #[] } → ItemsOf (fun i y => ∃ t, y = .int (a + i * 1) t) acc n → Q (.ref s.heap.objs.size) { s with heap := h2, toks := tk }) :
    wpAny (model prog w) A (call (.type "list") [.ref r]) Q E s := by
  refine callType_codes (Q₁ := fun obj t => obj = .ref s.heap.objs.size ∧ t = { s with heap := s.heap.push { cls := .type "list", data := .seq #[] } }) F.called_list (F.typeCall_list_1 _) F.entry_list_init (code_list_new _ ⟨rfl, rfl⟩) ?_
  rintro obj t1 ⟨rfl, rfl⟩
  have hS : (s.heap.push { cls := .type "list", data := .seq #[] }).get? s.heap.objs.size = some { cls := .type "list", data := .seq #[] } := Heap.get?_push_size _ rfl
  have hr1 : IsRange (s.heap.push { cls := .type "list", data := .seq #[] }) r a b 1 t u v := Heap.get?_push_of_some _ hr
  have nr : r ≠ s.heap.objs.size := Nat.ne_of_lt (Heap.lt_size hr)
  refine ⟨⟨_, hS, rfl⟩, F.args_list_init_2 _ _, ?_⟩
  show wpAny _ _ (do let old ← Builtin.List.listItems (.ref s.heap.objs.size); Builtin.List.listUpdate (.ref s.heap.objs.size) (fun _ => #[]); letGo old.toList.reverse; Builtin.List.listExtendWith (.ref s.heap.objs.size) (.ref r) .none) _ _ _
  refine wpAny_bind ?_
  unfold Builtin.List.listItems
  refine wpAny_bind (wpAny_seqItems hS rfl (wpAny_pure ?_))
  show wpAny _ _ (updateSeq s.heap.objs.size (fun _ => #[]) >>= fun _ => letGo (#[] : Array Value).toList.reverse >>= fun _ => Builtin.List.listExtendWith (.ref s.heap.objs.size) (.ref r) .none) _ _ _
  refine wpAny_bind (wpAny_updateSeq hS rfl (wpAny_bind (wpAny_letGo ?_)))
  refine extend_long (A := A.in1) hh ((Heap.get?_update_other _ _ (Ne.symm nr)).trans hr1) hbig hn hlen (Heap.get?_update_self (Obj.mapSeq (fun _ => (#[] : Array Value))) hS rfl) fun h2 tk acc c2 k g1 g2 => ?_
  refine ⟨rfl, hQ h2 tk acc c2 (fun x o e => ?_) g1 g2⟩
  have nx : x ≠ s.heap.objs.size := Nat.ne_of_lt (Heap.lt_size e)
  exact k x o nx ((Heap.get?_update_other _ _ (Ne.symm nx)).trans (Heap.get?_push_of_some _ e))
end
section
variable {X : Cx} {e : Expr} {te : L2.St → Hp → (Int → Int → Hp → Prop) → Prop}
/-- list(range(a, b)): few items, bounds of any size -/
def tLstRgW (te : L2.St → Hp → (Int → Int → Hp → Prop) → Prop) : TE := fun σ H Q => te σ H fun a b H1 => b - a ≤ 10000000 ∧ ∀ q, H1 q = none → Q (.ref q) (upd H1 q (.lst (rgV a b)))
theorem pe_listRgW {p pos : Pos} (hc : X.calm = true) (hg : Gl X "list") (hm : X.mg "list" = none) (he : PRg X e te) (na : starEach [e] X.env = (false, eval e X.env) :: starEach [] X.env := by rfl) : PE X (.Call (.Name "list" p) [e] [] pos) (tLstRgW te) := by
  refine ⟨fun pins s σ H Q I h => Call_ (ld_blt I hg hm boot_list (PyProof.Rows.callWith_type1 (args_cons (thn (he pins s σ H _ I h) ?_) na) na))⟩
  rintro x s1 ⟨r, a, b, t, u, v, H1, rfl, hr, I1, ok, q⟩
  refine args_nil ?_
  have fin : ∀ h2 tk acc c2, (∀ x o, s1.heap.get? x = some o → h2.get? x = some o) → h2.get? s1.heap.objs.size = some { cls := .type "list", dict := none, data := .seq acc c2, slots := #[] } → ItemsOf (fun i y => ∃ t, y = .int (a + i * 1) t) acc (b - a).toNat →
      EP X pins σ Q (.ref s1.heap.objs.size) { s1 with heap := h2, toks := tk } := fun h2 tk acc c2 k g1 g2 =>
    ⟨.ref s1.heap.objs.size, upd H1 s1.heap.objs.size (.lst (rgV a b)), I1.laid k (Nat.le_refl _) ⟨by rw [rgV_length, sizeLine_eq]; omega, acc.toList, c2, vals_rg g2, by rw [Array.toArray_toList]; exact g1⟩, rfl, q _ (I1.hok.fresh (Nat.le_refl _))⟩
  cases hs : Builtin.Range.small a b 1 with
  | true => exact call_list_range (n := (b - a).toNat) (I1.ok.hd hc) hr hs (rangeSize_nat a b) (by omega) fin
  | false => exact call_list_long (n := (b - a).toNat) (I1.ok.hd hc) hr hs (rangeSize_nat a b) (by omega) fin
end
end Tw
/-! Tw: the laws' own walk -/
namespace Tw
open PySem PySem.Spec PyProof.Rows L2 He TwM StX
open PySem.W (Frag)
local macro_rules | `(tactic| walk_at "rwk") => `(tactic| simp only [*, at3_0, at3_1, at3_2, at2_0, at2_1, updS, upd_two, gSub, rSetL, updN, tPar, and_assoc, not_true_eq_false, not_false_eq_true, tNever, List.length_map, tFld, rIxTH, rIxLH, rLenTH, rLenLH, lk1, lfs_g, lfs_s, lfs_p, HO.ins.injEq, HO.tup.injEq, HO.lst.injEq, sp_Book_rounding, sp_Book_action, sp_Book_order, sp_Book_due, sp_Book_zero, sp_Book_beyond, Int.toNat_natCast, sp_visit_after, sp_is_visited, sp_Level_grain, sp_Level_slots, sp_Level_span, sp_Wheel_reach, sp_Wheel___len__, sp_is_integer, sp_is_count, sp_is_within, sp_rounded, tSeq, tAsg, gName, tVar, tC, tOp, rI, rI0, rU, tUn, oAdd, oSub, oMul, oDiv, oMod, oNeg, oLt, oLe, oGt, oGe, oIsN, oNotN, tFn, tCons, tNil, tIfS, tIf, tTest, tB, tNot, tAnd, tOr, tAndV, tOrV, tNotV,
    tRet, tRetN, tNext, tCB, tDrop, tChain, rEq, rNe, oMax2, oMin2, oInt1, rLenF, L2.start, List.map_cons, List.map_nil, List.length_cons, List.length_nil, List.replicate_succ, List.replicate_zero, List.cons_append, List.nil_append, Nat.reduceAdd, Nat.reduceSub, Nat.zero_add,
    List.set_cons_zero, List.set_cons_succ, List.getElem?_cons_zero, List.getElem?_cons_succ, Option.some.injEq, V.int.injEq, V.ref.injEq, V.str.injEq, V.bl.injEq, exists_eq_left', exists_eq_left, exists_and_left, List.cons.injEq, and_true, true_and, decide_eq_true_eq, sc_ii, sc_ss, sc_bb, sc_ni, sc_in, sc_nn, sc_is, reduceCtorEq,
    Bool.not_eq_true', decide_eq_false_iff_not, if_true, if_false, Bool.false_eq_true, exists_eq', exists_const, false_and, and_false, or_false, false_or, exists_false, Bool.not_not, Bool.not_true, Bool.not_false, sUp_up, sFire_fire, sHigh_high, sPut_put, sZone_now, sBey_refuse, sBey_cut, tTup, tLst, sz0, sz1, sz2, sz3, sz4, sz5, sz6])
section
variable {K : Frag} {w : World}
structure VlAt (H : Hp) (r : Addr) (B : Bk) : Prop where
  at_ : H r = some (.lst ((bws B).map V.str))
  ok : B.bey < 3
theorem VlAt.same {H H1 : Hp} {r : Addr} {B : Bk} (h : VlAt H r B) (s : Same H H1) : VlAt H1 r B := ⟨s _ _ h.at_, h.ok⟩
theorem RowsAt.row {H : Hp} {r : Addr} {W : List Lv} (h : RowsAt H r W) {i : Nat} (hi : i < W.length) : ∃ xs t, H r = some (.lst xs) ∧ xs.length = W.length ∧ atI xs (i : Int) = some (.ref t) ∧ H t = some (.tup [.int (lv W i).g, .int (lv W i).s, .int (lv W i).p]) := by
  obtain ⟨ts, ha, hb, hc⟩ := h
  obtain ⟨t, ht⟩ : ∃ t, ts[i]? = some t := ⟨ts[i]'(by omega), List.getElem?_eq_getElem (by omega)⟩
  exact ⟨_, t, ha, by rw [List.length_map, hb], atI_nat (by rw [List.getElem?_map, ht]; rfl), hc _ _ ht⟩
theorem RowsAt.last {H : Hp} {r : Addr} {W : List Lv} (h : RowsAt H r W) (hp : 0 < W.length) : ∃ xs t, H r = some (.lst xs) ∧ xs.length = W.length ∧ atI xs (-1) = some (.ref t) ∧ H t = some (.tup [.int (lv W (W.length - 1)).g, .int (lv W (W.length - 1)).s, .int (lv W (W.length - 1)).p]) := by
  obtain ⟨ts, ha, hb, hc⟩ := h
  obtain ⟨t, ht⟩ : ∃ t, ts[W.length - 1]? = some t := ⟨ts[W.length - 1]'(by omega), List.getElem?_eq_getElem (by omega)⟩
  exact ⟨_, t, ha, by rw [List.length_map, hb], atI_m1 (by rw [List.getLast?_eq_getElem?, List.length_map, hb, List.getElem?_map, ht]; rfl), hc _ _ ht⟩
theorem at6_0 (a b c d e f : V) : atI [a, b, c, d, e, f] 0 = some a := rfl
theorem at6_1 (a b c d e f : V) : atI [a, b, c, d, e, f] 1 = some b := rfl
theorem at6_2 (a b c d e f : V) : atI [a, b, c, d, e, f] 2 = some c := rfl
theorem at6_3 (a b c d e f : V) : atI [a, b, c, d, e, f] 3 = some d := rfl
theorem at6_4 (a b c d e f : V) : atI [a, b, c, d, e, f] 4 = some e := rfl
theorem at6_5 (a b c d e f : V) : atI [a, b, c, d, e, f] 5 = some f := rfl
theorem VlAt.six {H : Hp} {r : Addr} {B : Bk} (h : VlAt H r B) : H r = some (.lst [.str (sUp B.up), .str (sFire B.fire), .str (sHigh B.high), .str (sPut B.put), .str (sZone B.zone), .str (sBey B.bey)]) := h.at_
local macro_rules | `(tactic| walk_at "rwm") => `(tactic| simp only [*, at3_0, at3_1, at3_2, at2_0, at2_1, updS, upd_two, gSub, rSetL, updN, tPar, gTup, gCons, gNil, and_assoc, not_true_eq_false, not_false_eq_true, tNever, List.length_map, tFld, rIxTH, rIxLH, rLenTH, rLenLH, lk1, lfs_g, lfs_s, lfs_p, HO.ins.injEq, HO.tup.injEq, HO.lst.injEq, sp_Book_rounding, sp_Book_action, sp_Book_order, sp_Book_due, sp_Book_zero, sp_Book_beyond, Int.toNat_natCast, sp_visit_after, sp_is_visited, sp_Level_grain, sp_Level_slots, sp_Level_span, sp_Wheel_reach, sp_Wheel___len__, sp_is_integer, sp_is_count, sp_is_within, sp_rounded, tSeq, tAsg, gName, tVar, tC, tOp, rI, rI0, rU, tUn, oAdd, oSub, oMul, oDiv, oMod, oNeg, oLt, oLe, oGt, oGe, oIsN, oNotN, tFn, tCons, tNil, tIfS, tIf, tTest, tB, tNot, tAnd, tOr, tAndV, tOrV, tNotV,
    tRet, tRetN, tNext, tCB, tDrop, tChain, rEq, rNe, oMax2, oMin2, oInt1, rLenF, L2.start, List.map_cons, List.map_nil, List.length_cons, List.length_nil, List.replicate_succ, List.replicate_zero, List.cons_append, List.nil_append, Nat.reduceAdd, Nat.reduceSub, Nat.zero_add,
    List.set_cons_zero, List.set_cons_succ, List.getElem?_cons_zero, List.getElem?_cons_succ, Option.some.injEq, V.int.injEq, V.ref.injEq, V.str.injEq, V.bl.injEq, exists_eq_left', exists_eq_left, exists_and_left, List.cons.injEq, and_true, true_and, decide_eq_true_eq, sc_ii, sc_ss, sc_bb, sc_ni, sc_in, sc_nn, sc_is, reduceCtorEq,
    Bool.not_eq_true', decide_eq_false_iff_not, if_true, if_false, Bool.false_eq_true, exists_eq', exists_const, false_and, and_false, or_false, false_or, exists_false, Bool.not_not, Bool.not_true, Bool.not_false, sUp_up, sFire_fire, sHigh_high, sPut_put, sZone_now, sBey_refuse, sBey_cut, tTup, tLst, sz0, sz1, sz2, sz3, sz4, sz5, sz6])
local macro_rules | `(tactic| walk_at "rwl") => `(tactic| simp only [*, at3_0, at3_1, at3_2, at2_0, at2_1, updS, upd_two, gSub, rSetL, updN, tPar, at6_0, at6_1, at6_2, at6_3, at6_4, at6_5, and_assoc, not_true_eq_false, not_false_eq_true, tNever, List.length_map, tFld, rIxTH, rIxLH, rLenTH, rLenLH, lk1, lfs_g, lfs_s, lfs_p, HO.ins.injEq, HO.tup.injEq, HO.lst.injEq, sp_Book_rounding, sp_Book_action, sp_Book_order, sp_Book_due, sp_Book_zero, sp_Book_beyond, Int.toNat_natCast, sp_visit_after, sp_is_visited, sp_Level_grain, sp_Level_slots, sp_Level_span, sp_Wheel_reach, sp_Wheel___len__, sp_is_integer, sp_is_count, sp_is_within, sp_rounded, tSeq, tAsg, gName, tVar, tC, tOp, rI, rI0, rU, tUn, oAdd, oSub, oMul, oDiv, oMod, oNeg, oLt, oLe, oGt, oGe, oIsN, oNotN, tFn, tCons, tNil, tIfS, tIf, tTest, tB, tNot, tAnd, tOr, tAndV, tOrV, tNotV,
    tRet, tRetN, tNext, tCB, tDrop, tChain, rEq, rNe, oMax2, oMin2, oInt1, rLenF, L2.start, List.map_cons, List.map_nil, List.length_cons, List.length_nil, List.replicate_succ, List.replicate_zero, List.cons_append, List.nil_append, Nat.reduceAdd, Nat.reduceSub, Nat.zero_add,
    List.set_cons_zero, List.set_cons_succ, List.getElem?_cons_zero, List.getElem?_cons_succ, Option.some.injEq, V.int.injEq, V.ref.injEq, V.str.injEq, V.bl.injEq, exists_eq_left', exists_eq_left, exists_and_left, List.cons.injEq, and_true, true_and, decide_eq_true_eq, sc_ii, sc_ss, sc_bb, sc_ni, sc_in, sc_nn, sc_is, reduceCtorEq,
    Bool.not_eq_true', decide_eq_false_iff_not, if_true, if_false, Bool.false_eq_true, exists_eq', exists_const, false_and, and_false, or_false, false_or, exists_false, Bool.not_not, Bool.not_true, Bool.not_false, sUp_up, sFire_fire, sHigh_high, sPut_put, sZone_now, sBey_refuse, sBey_cut, tTup, tLst, sz0, sz1, sz2, sz3, sz4, sz5, sz6])
def sp__law_spot_at (K : Frag) : Sp := fun vs H Q _ => ∃ (r rv : Addr) (here rest due : Int), vs = [.ref r, .ref rv, .int here, .int rest, .int due] ∧ ∃ W B, RowsAt H r W ∧ ROk W ∧ VlAt H rv B ∧ ∀ p H', Same H H' → SpAt H' p (spotAt W B here rest due) → Q (.ref p) H'
def t__law_spot_at (K : Frag) (w : World) : TS :=
  (tSeq (tAsg (tFn (sp__law_belongs K) E0 (tCons (tVar 0) (tCons (tVar 3) tNil))) (gName 5))
  (tSeq (tAsg (tOp oAdd (tVar 2) (tVar 3)) (gName 6))
  (tSeq (tIfS (tTest (tOp oIsN (tVar 5) (tC .non))) (tPar 5 6 (tCons (tOp oSub (tCB rLenLH (tCons (tVar 0) tNil)) (tC (.int 1))) (tCons (tOp oSub (tOp oAdd (tVar 2) (tOp rIxTH (tOp rIxLH (tVar 0) (tUn oNeg (tC (.int 1)))) (tC (.int 2)))) (tC (.int 1))) tNil))) tNext)
  (tRet (tTup (tCons (tVar 5) (tCons (tFn (sp__law_turned K) E0 (tCons (tVar 6) (tCons (tOp rIxTH (tOp rIxLH (tVar 0) (tVar 5)) (tC (.int 0))) (tCons (tOp rIxLH (tVar 1) (tC (.int 0))) tNil)))) (tCons (tVar 4) tNil))))))))
def n__law_spot_at : List Str := ["_law_rows", "_law_values", "_law_here", "_law_rest", "_law_due", "_law_index", "_law_end"]
theorem rd__law_spot_at (vs : List V) (H : Hp) (Q : VK) (E : XK) (h : sp__law_spot_at K vs H Q E) : t__law_spot_at K w { nx := fun _ H' => Q .non H', rt := Q } (L2.start n__law_spot_at vs) H := by
  obtain ⟨r, rv, here, rest, due, rfl, W, B, hR, hRk, hV, q⟩ := h
  have hpos := hRk.ok.pos
  unfold t__law_spot_at n__law_spot_at
  walk_at "rwl"
  refine ⟨r, rest, W, rfl, hR, fun H1 s1 => ?_⟩
  have hR1 := hR.same s1
  have hV1 := (hV.same s1).six
  obtain ⟨xs, t, e1, e2, e3, e4⟩ := hR1.last hpos
  cases hl : levelOf W rest with
  | none =>
    have hall := hRk.ok.all (W.length - 1) (by omega)
    obtain ⟨xs', t', e1', e2', e3', e4'⟩ := hR1.row (i := W.length - 1) (by omega)
    rw [e1] at e1'
    cases e1'
    have e3'' : atI xs ((W.length : Int) - 1) = some (.ref t') := by rw [show ((W.length : Int) - 1) = ((W.length - 1 : Nat) : Int) by omega]; exact e3'
    unfold optI
    walk_at "rwl"
    refine ⟨_, _, B.up, rfl, by omega, by omega, fun p hp => q p _ (s1.trans (Same.new hp)) ?_⟩
    unfold SpAt spotAt
    rw [hl, updS]
    simp only [HO.tup.injEq, List.cons.injEq, V.int.injEq, Option.some.injEq, and_true]
    refine ⟨by omega, ?_⟩
    rfl
  | some i =>
    have hi := levelOf_lt hl
    have hall := hRk.ok.all i hi.1
    obtain ⟨xs', t', e1', e2', e3', e4'⟩ := hR1.row (i := i) hi.1
    rw [e1] at e1'
    cases e1'
    unfold optI
    walk_at "rwl"
    refine ⟨_, _, B.up, rfl, by omega, by omega, fun p hp => q p _ (s1.trans (Same.new hp)) ?_⟩
    unfold SpAt spotAt
    rw [hl, updS]
def sp__law_put (K : Frag) : Sp := fun vs H Q _ => ∃ (r rv : Addr) (here delay : Int), vs = [.ref r, .ref rv, .int here, .int delay] ∧ ∃ W B, RowsAt H r W ∧ ROk W ∧ VlAt H rv B ∧ 0 ≤ delay ∧ (reach W ≤ delay → B.bey ≠ 0) ∧
  ∀ v H', Same H H' → OSp H' v (placeM W B here delay) → Q v H'
def t__law_put (K : Frag) (w : World) : TS :=
  (tSeq (tIfS (tAnd (tTest (tOp rEq (tVar 3) (tC (.int 0)))) (tTest (tOp rEq (tOp rIxLH (tVar 1) (tC (.int 4))) (tC (.str "now"))))) (tRet (tC .non)) tNext)
  (tSeq (tPar 4 5 (tCons (tCB oMax2 (tCons (tCB oInt1 (tCons (tVar 3) tNil)) (tCons (tC (.int 1)) tNil))) (tCons (tOp rIxTH (tOp rIxLH (tVar 0) (tUn oNeg (tC (.int 1)))) (tC (.int 2))) tNil)))
  (tSeq (tIfS (tAnd (tTest (tOp oGe (tVar 4) (tVar 5))) (tTest (tOp rEq (tOp rIxLH (tVar 1) (tC (.int 5))) (tC (.str "refuse"))))) (tRet (tC (.str "refused"))) tNext)
  (tSeq (tIfS (tAnd (tTest (tOp oGe (tVar 4) (tVar 5))) (tTest (tOp rEq (tOp rIxLH (tVar 1) (tC (.int 5))) (tC (.str "cut"))))) (tAsg (tOp oSub (tVar 5) (tC (.int 1))) (gName 4)) tNext)
  (tRet (tFn (sp__law_spot_at K) E0 (tCons (tVar 0) (tCons (tVar 1) (tCons (tVar 2) (tCons (tVar 4) (tCons (tOp oAdd (tVar 2) (tVar 4)) tNil)))))))))))
def n__law_put : List Str := ["_law_rows", "_law_values", "_law_here", "_law_delay", "_law_rest", "_law_reach"]
theorem rd__law_put (vs : List V) (H : Hp) (Q : VK) (E : XK) (h : sp__law_put K vs H Q E) : t__law_put K w { nx := fun _ H' => Q .non H', rt := Q } (L2.start n__law_put vs) H := by
  obtain ⟨r, rv, here, delay, rfl, W, B, hR, hRk, hV, hd, hb, q⟩ := h
  have hpos := hRk.ok.pos
  have hV1 := hV.six
  have hb3 := hV.ok
  obtain ⟨xs, t, e1, e2, e3, e4⟩ := hR.last hpos
  have hre : 2 ≤ reach W := (hRk.ok.all (W.length - 1) (by omega)).2.2.2.2
  have key : ∀ x : Int, (∀ v H', Same H H' → OSp H' v (some (spotAt W B here x (here + x))) → Q v H') → sp__law_spot_at K [.ref r, .ref rv, .int here, .int x, .int (here + x)] H Q E0 :=
    fun x q => ⟨r, rv, here, x, here + x, rfl, W, B, hR, hRk, hV, fun p H' s z => q _ _ s ⟨p, rfl, z⟩⟩
  unfold t__law_put n__law_put
  walk_at "rwl"
  unfold placeM at q
  generalize hg : (if 1 > delay then 1 else delay) = r0 at q ⊢
  have h1 : 1 ≤ r0 := by rw [← hg]; split <;> omega
  have h2 : reach W ≤ r0 → B.bey ≠ 0 := fun h => hb (by rw [← hg] at h; split at h <;> omega)
  have hrd : reach W = (lv W (W.length - 1)).p := rfl
  rw [← hrd]
  by_cases hz : delay = 0 ∧ B.zone = false
  · rw [if_pos hz] at q
    rw [if_pos hz.1, if_pos hz.2]
    exact q _ _ (Same.refl H) rfl
  · rw [if_neg hz] at q
    dsimp only at q
    by_cases hl : reach W ≤ r0
    · have hb := h2 hl
      by_cases hc : 2 ≤ B.bey
      · have q' := key (reach W - 1) (by have := q; rw [if_pos ⟨hl, by omega⟩] at this; exact this)
        repeat' (refine ite2 (fun _ => ?_) fun _ => ?_)
        all_goals first | exact q' | (exact absurd ⟨by assumption, by assumption⟩ hz) | (exfalso; omega)
      · have q' := key r0 (by have := q; rw [if_neg (fun z : reach W ≤ r0 ∧ B.bey = 2 => hc (by omega))] at this; exact this)
        repeat' (refine ite2 (fun _ => ?_) fun _ => ?_)
        all_goals first | exact q' | (exact absurd ⟨by assumption, by assumption⟩ hz) | (exfalso; omega)
    · have q' := key r0 (by have := q; rw [if_neg (fun z : reach W ≤ r0 ∧ B.bey = 2 => hl z.1)] at this; exact this)
      repeat' (refine ite2 (fun _ => ?_) fun _ => ?_)
      all_goals first | exact q' | (exact absurd ⟨by assumption, by assumption⟩ hz) | (exfalso; omega)
def sp__law_out (K : Frag) : Sp := fun vs H Q _ => ∃ (r rv p : Addr) (tick : Int), vs = [.ref r, .ref rv, .ref p, .int tick] ∧ ∃ W B sp, RowsAt H r W ∧ ROk W ∧ VlAt H rv B ∧ SpAt H p sp ∧ ∀ v H', Same H H' → OSp H' v (taken W B sp tick) → Q v H'
def t__law_out (K : Frag) (w : World) : TS :=
  (tSeq (tIfS (tOr (tTest (tOp rEq (tOp rIxTH (tVar 2) (tC (.int 0))) (tC (.int 0)))) (tTest (tOp rEq (tOp rIxLH (tVar 1) (tC (.int 1))) (tC (.str "fire"))))) (tRet (tC .non)) tNext)
  (tSeq (tIfS (tTest (tOp oGt (tOp rIxTH (tVar 2) (tC (.int 2))) (tVar 3))) (tRet (tFn (sp__law_spot_at K) E0 (tCons (tVar 0) (tCons (tVar 1) (tCons (tVar 3) (tCons (tOp oSub (tOp rIxTH (tVar 2) (tC (.int 2))) (tVar 3)) (tCons (tOp rIxTH (tVar 2) (tC (.int 2))) tNil))))))) tNext)
  (tRet (tIf (tTest (tOp rEq (tOp rIxLH (tVar 1) (tC (.int 3))) (tC (.str "put")))) (tTup (tCons (tC (.int 0)) (tCons (tVar 3) (tCons (tOp rIxTH (tVar 2) (tC (.int 2))) tNil)))) (tC .non)))))
def n__law_out : List Str := ["_law_rows", "_law_values", "_law_spot", "_law_tick"]
theorem rd__law_out (vs : List V) (H : Hp) (Q : VK) (E : XK) (h : sp__law_out K vs H Q E) : t__law_out K w { nx := fun _ H' => Q .non H', rt := Q } (L2.start n__law_out vs) H := by
  obtain ⟨r, rv, p, tick, rfl, W, B, sp, hR, hRk, hV, hS, q⟩ := h
  have hV1 := hV.six
  have hS1 := hS
  unfold SpAt at hS1
  unfold t__law_out n__law_out
  walk_at "rwl"
  unfold taken at q
  by_cases h1 : sp.lv = 0
  · rw [if_pos (.inl h1)] at q
    rw [if_pos (by omega)]
    exact q _ _ (Same.refl H) rfl
  · rw [if_neg (by omega)]
    by_cases h2 : B.fire = true
    · rw [if_pos (.inr h2)] at q
      rw [if_pos h2]
      exact q _ _ (Same.refl H) rfl
    · rw [if_neg (fun z => z.elim h1 h2)] at q
      rw [if_neg h2]
      refine ite2 (fun h3 => ?_) fun h3 => ?_
      · rw [if_pos h3] at q
        exact ⟨r, rv, tick, _, _, rfl, W, B, hR, hRk, hV, fun p' H' s z => q _ _ s ⟨p', rfl, z⟩⟩
      · rw [if_neg h3] at q
        refine ite2 (fun h4 => fun p' hp' => ?_) fun h4 => ?_
        · rw [if_pos h4] at q
          exact q _ _ (Same.new hp') ⟨p', rfl, updS _ _ _⟩
        · rw [if_neg h4] at q
          exact q _ _ (Same.refl H) rfl
theorem lcF {i j : Nat} {a : Addr} {xs : List V} {tt : TT} {σ : L2.St} {H : Hp} {Q : VK} (p : V → Bool) (hσ : σ[i]? = some (some (V.ref a))) (hj : j < σ.length) (hl : SqL K H a xs) (hz : xs.length ≤ 1000)
    (ht : ∀ x ∈ xs, ∀ H' R, Same H H' → R (p x) H' → tt ((wipe σ [j]).set j (some x)) H' R) (q : ∀ D H', H D = none → Same H H' → H' D = some (.lst (xs.filter p)) → Q (.ref D) H') : tLc (iList K (tVar i)) (gName j) tt (tVar j) [j] σ H Q := by
  refine ⟨_, hσ, a, rfl, ⟨_, hl⟩, fun D hD => lc_list (K := K) (a := a) (xs := xs) (fun k H' => Same H H' ∧ H' D = some (.lst ((xs.take k).filter p))) ⟨Same.new hD, by rw [upd_same]; rfl⟩ (fun k H' _ z => Same.lst z.1 hl) ?_ ?_⟩
  · rintro k x H1 hx ⟨s1, hD1⟩
    have hk := (List.getElem?_eq_some_iff.mp hx).1
    have hw : wipe ((wipe σ [j]).set j (some x)) [j] = wipe σ [j] := by
      show ((σ.set j none).set j (some x)).set j none = σ.set j none
      rw [List.set_set, List.set_set]
    refine ⟨hw, ht x (List.mem_of_getElem? hx) H1 _ s1 ?_⟩
    have htk : xs.take (k + 1) = xs.take k ++ [x] := by rw [List.take_add_one, hx]; rfl
    rw [htk, List.filter_append]
    cases hp : p x with
    | true =>
      rw [if_pos rfl, List.filter_cons_of_pos hp]
      have hsz : sizeLine = 16777216 := rfl
      have hfl := List.length_filter_le p (xs.take k)
      rw [List.length_take] at hfl
      refine ⟨x, ?_, _, hD1, by omega, Same.updN s1 hD, updS _ _ _⟩
      show ((σ.set j none).set j (some x))[j]? = some (some x)
      rw [List.getElem?_set_self (by rw [List.length_set]; exact hj)]
    | false =>
      rw [if_neg Bool.false_ne_true, List.filter_cons_of_neg (by rw [hp]; exact Bool.false_ne_true), List.filter_nil, List.append_nil]
      exact ⟨s1, hD1⟩
  · rintro H1 ⟨s1, hD1⟩
    rw [List.take_length] at hD1
    exact q D H1 hD s1 hD1
theorem ddInts {H : Hp} : ∀ ks : List Int, DpAll K H (ks.map V.int) (ks.map PyData.int)
  | [] => .nil
  | k :: ks => .cons (.int k) (ddInts ks)
theorem lay_ints : ∀ ks : List Int, PyData.canLayAll0 (ks.map PyData.int) = true
  | [] => rfl
  | k :: ks => by
    show ((PyData.int k).canLay0 && PyData.canLayAll0 (ks.map PyData.int)) = true
    rw [lay_ints ks]
    rfl
theorem depth_ints : ∀ ks : List Int, PyData.depthAll (ks.map PyData.int) = 0
  | [] => rfl
  | k :: ks => by
    show max (PyData.int k).depth (PyData.depthAll (ks.map PyData.int)) = 0
    rw [depth_ints ks]
    rfl
theorem shaped_ints (ks : List Int) : SeqAt.shaped (.list (ks.map PyData.int)) = true := by
  unfold SeqAt.shaped
  rw [show (PyData.list (ks.map PyData.int)).canLay0 = PyData.canLayAll0 (ks.map PyData.int) from rfl, lay_ints]
  have := depth_ints ks
  exact decide_eq_true (show PyData.depthAll (ks.map PyData.int) + 1 ≤ 64 by omega)
theorem eqv_ints (ks : List Int) : PyData.eqv (.list (ks.map PyData.int)) (.list []) = ks.isEmpty := by
  cases ks with
  | nil => rfl
  | cons k ks => rfl
theorem hit_iff {q pt s j : Int} (hs : 0 < s) (h0 : 0 ≤ j) (h1 : j ≤ (pt - q) % s) : (q + j - pt) % s = 0 ↔ j = (pt - q) % s := by
  have e := Int.mul_ediv_add_emod (pt - q) s
  have h2 := Int.emod_lt_of_pos (pt - q) hs
  generalize (pt - q) % s = k at *
  generalize (pt - q) / s = z at *
  have e2 : q + j - pt = (j - k) + s * (-z) := by rw [Int.mul_neg]; omega
  rw [e2, Int.add_mul_emod_self_left]
  constructor
  · intro h
    have h3 : (j - k + s) % s = 0 := by rw [Int.add_emod_right]; exact h
    rcases Int.lt_or_le j k with h4 | h4
    · rw [Int.emod_eq_of_lt (by omega) (by omega)] at h3
      omega
    · omega
  · intro h
    rw [h, Int.sub_self, Int.zero_emod]
theorem cut2 (a b c : V) : cutV [a, b, c] none (some 2) = [a, b] := rfl
theorem part2 (a b c : V) : ¬ (HT.sIx [a, b, c].length 0 none = 0 ∧ HT.sIx [a, b, c].length [a, b, c].length (some 2) = [a, b, c].length) := by
  show ¬ (HT.sIx 3 0 none = 0 ∧ HT.sIx 3 3 (some 2) = 3)
  decide +kernel
def sp__law_visit (K : Frag) : Sp := fun vs H Q _ => ∃ (r p : Addr) (here : Int), vs = [.ref r, .ref p, .int here] ∧ ∃ W sp, RowsAt H r W ∧ ROk W ∧ SpAt H p sp ∧ sp.lv < W.length ∧ ∀ H', Same H H' → Q (.int (va (lv W sp.lv) sp.pt here)) H'
def t__law_visit (K : Frag) (w : World) : TS :=
  (tSeq (tAsg (tSl (rSlT K) (tOp rIxLH (tVar 0) (tOp rIxTH (tVar 1) (tC (.int 0)))) tNoPart (tPart (tC (.int 2)))) (gTup K 2 (gCons (gName 3) (gCons (gName 4) gNil))))
  (tSeq (tAsg (tOp oAdd (tOp oDiv (tVar 2) (tVar 3)) (tC (.int 1))) (gName 5))
  (tSeq (tWhile (tTest (tOp rNe (tOp oMod (tOp oSub (tVar 5) (tOp rIxTH (tVar 1) (tC (.int 1)))) (tVar 4)) (tC (.int 0))))
    (tAsg (tOp oAdd (tVar 5) (tC (.int 1))) (gName 5)))
  (tRet (tOp oMul (tVar 5) (tVar 3))))))
def n__law_visit : List Str := ["_law_rows", "_law_spot", "_law_here", "_law_grain", "_law_slots", "_law_at"]
theorem rd__law_visit (vs : List V) (H : Hp) (Q : VK) (E : XK) (h : sp__law_visit K vs H Q E) : t__law_visit K w { nx := fun _ H' => Q .non H', rt := Q } (L2.start n__law_visit vs) H := by
  obtain ⟨r, p, here, rfl, W, sp, hR, hRk, hS, hl, q⟩ := h
  have hS1 := hS
  unfold SpAt at hS1
  obtain ⟨xs, t, e1, e2, e3, e4⟩ := hR.row hl
  have hall := hRk.ok.all _ hl
  unfold t__law_visit n__law_visit
  rw [seq1]
  refine ⟨_, rfl, _, rfl, _, _, _, _, rfl, rfl, hS1, rfl, _, _, _, _, rfl, rfl, e1, e3, 2, rfl, t, _, rfl, SqT.of e4, part2 _ _ _, fun c hc => ?_⟩
  rw [cut2]
  have s1 := Same.new (o := .tup [V.int (lv W sp.lv).g, .int (lv W sp.lv).s]) hc
  have hS2 := s1 _ _ hS1
  refine ⟨c, _, rfl, SqT.of upd_same, rfl, ?_⟩
  generalize upd H c (.tup [V.int (lv W sp.lv).g, .int (lv W sp.lv).s]) = H1 at *
  have hk0 := Int.emod_nonneg (sp.pt - here / (lv W sp.lv).g - 1) (b := (lv W sp.lv).s) (by omega)
  walk_at "rwm"
  refine ⟨⟨by omega, by omega⟩, fun m σ H' => ∃ j : Int, σ = [some (.ref r), some (.ref p), some (.int here), some (.int (lv W sp.lv).g), some (.int (lv W sp.lv).s), some (.int (here / (lv W sp.lv).g + 1 + j))] ∧ H' = H1 ∧ 0 ≤ j ∧ m = ((sp.pt - here / (lv W sp.lv).g - 1) % (lv W sp.lv).s - j).toNat ∧ j ≤ (sp.pt - here / (lv W sp.lv).g - 1) % (lv W sp.lv).s, ⟨_, 0, by rw [Int.add_zero], rfl, Int.le_refl _, rfl, hk0⟩, ?_⟩
  rintro m σ H2 ⟨j, rfl, rfl, hj0, rfl, hj⟩
  walk_at "rwm"
  have hkk : sp.pt - here / (lv W sp.lv).g - 1 = sp.pt - (here / (lv W sp.lv).g + 1) := by omega
  rw [hkk] at hj ⊢
  have hi := hit_iff (q := here / (lv W sp.lv).g + 1) (pt := sp.pt) (s := (lv W sp.lv).s) (j := j) (by omega) hj0 hj
  refine ⟨by omega, ite2 (fun hn => ?_) fun hn => ?_⟩
  · have hne : j ≠ (sp.pt - (here / (lv W sp.lv).g + 1)) % (lv W sp.lv).s := fun z => hn (hi.mpr z)
    exact ⟨_, fun σ' H' z => ⟨_, by omega, z⟩, j + 1, by rw [Int.add_assoc (here / (lv W sp.lv).g + 1) j 1], rfl, by omega, rfl, by omega⟩
  · have he := hi.mp (Classical.not_not.mp hn)
    refine ⟨.inr ⟨by omega, by omega⟩, ?_⟩
    rw [he]
    have q1 := q H2 s1
    unfold va at q1
    rw [hkk] at q1
    exact q1
local macro_rules | `(tactic| walk_at "rwn") => `(tactic| simp only [*, at3_0, at3_1, at3_2, at2_0, at2_1, updS, upd_two, gSub, rSetL, updN, tPar, at6_0, at6_1, at6_2, at6_3, at6_4, at6_5, gTup, gCons, gNil, and_assoc, not_true_eq_false, not_false_eq_true, tNever, List.length_map, tFld, rIxTH, rIxLH, rLenTH, rLenLH, lk1, lfs_g, lfs_s, lfs_p, HO.ins.injEq, HO.tup.injEq, HO.lst.injEq, sp_Book_rounding, sp_Book_action, sp_Book_order, sp_Book_due, sp_Book_zero, sp_Book_beyond, Int.toNat_natCast, sp_visit_after, sp_is_visited, sp_Level_grain, sp_Level_slots, sp_Level_span, sp_Wheel_reach, sp_Wheel___len__, sp_is_integer, sp_is_count, sp_is_within, sp_rounded, tAsg, gName, tVar, tC, tOp, rI, rI0, rU, tUn, oAdd, oSub, oMul, oDiv, oMod, oNeg, oLt, oLe, oGt, oGe, oIsN, oNotN, tFn, tCons, tNil, tIfS, tIf, tTest, tB, tNot, tAnd, tOr, tAndV, tOrV, tNotV,
    tRet, tRetN, tNext, tCB, tDrop, tChain, rEq, rNe, oMax2, oMin2, oInt1, rLenF, L2.start, List.map_cons, List.map_nil, List.length_cons, List.length_nil, List.replicate_succ, List.replicate_zero, List.cons_append, List.nil_append, Nat.reduceAdd, Nat.reduceSub, Nat.zero_add,
    List.set_cons_zero, List.set_cons_succ, List.getElem?_cons_zero, List.getElem?_cons_succ, Option.some.injEq, V.int.injEq, V.ref.injEq, V.str.injEq, V.bl.injEq, exists_eq_left', exists_eq_left, exists_and_left, List.cons.injEq, and_true, true_and, decide_eq_true_eq, sc_ii, sc_ss, sc_bb, sc_ni, sc_in, sc_nn, sc_is, reduceCtorEq,
    Bool.not_eq_true', decide_eq_false_iff_not, if_true, if_false, Bool.false_eq_true, exists_eq', exists_const, false_and, and_false, or_false, false_or, exists_false, Bool.not_not, Bool.not_true, Bool.not_false, sUp_up, sFire_fire, sHigh_high, sPut_put, sZone_now, sBey_refuse, sBey_cut, tTup, tLst, sz0, sz1, sz2, sz3, sz4, sz5, sz6])
theorem tIf_high {ta tb : TE} {σ : L2.St} {H : Hp} {Q : VK} {rv : Addr} {B : Bk} (hσ : σ[1]? = some (some (V.ref rv))) (hV : VlAt H rv B) (q : if B.high = true then ta σ H Q else tb σ H Q) :
    tIf (tTest (tOp rEq (tOp rIxLH (tVar 1) (tC (V.int 2))) (tC (V.str "high")))) ta tb σ H Q := by
  have hV1 := hV.six
  walk_at "rwn"
theorem for_high {ta tb : TE} {g : TG} {tw : TS} {D : Ends} {σ : L2.St} {H : Hp} {rv : Addr} {B : Bk} (hσ : σ[1]? = some (some (V.ref rv))) (hV : VlAt H rv B) (q : if B.high = true then tFor (iList K ta) g tw D σ H else tFor (iList K tb) g tw D σ H) :
    tFor (iList K (tIf (tTest (tOp rEq (tOp rIxLH (tVar 1) (tC (V.int 2))) (tC (V.str "high")))) ta tb)) g tw D σ H := by
  unfold tFor iList at q ⊢
  exact tIf_high hσ hV q
def sp__law_sweep (K : Frag) : Sp := fun vs H Q _ => ∃ (r rv p : Addr) (before here : Int), vs = [.ref r, .ref rv, .ref p, .int before, .int here] ∧ ∃ W B sp, RowsAt H r W ∧ ROk W ∧ VlAt H rv B ∧ SpAt H p sp ∧
  ∀ f xs H', Same H H' → H f = none → H' f = some (.lst xs) → OSps H' xs (visited W B sp before here) → Q (.ref f) H'
def swInv (K : Frag) (r rv f qd : Addr) (W : List Lv) (B : Bk) (sp0 : Spot) (before here : Int) (H : Hp) (i : Nat) (σ : L2.St) (H' : Hp) : Prop :=
  ∃ (p : Addr) (sp : Spot) (xs : List V) (os : List (Option Spot)) (v6 v7 v8 v9 v10 v11 v12 v13 : Option V), σ = [some (.ref r), some (.ref rv), some (.ref p), some (.int before), some (.int here), some (.ref f), v6, v7, v8, v9, v10, v11, v12, v13] ∧ Same H H' ∧ SpAt H' p sp ∧
    H' f = some (.lst xs) ∧ H' qd = some (.lst (ordV W B)) ∧ xs.length ≤ i ∧ OSps H' xs os ∧ visited W B sp0 before here = os ++ visGo W B before here ((order W B).drop i) sp
def swBody (K : Frag) : TS :=
  (tIfS (tTest (tOp rEq (tOp rIxTH (tVar 2) (tC (.int 0))) (tVar 7))) (tSeq (tAsg (tSl (rSlT K) (tOp rIxLH (tVar 0) (tVar 7)) tNoPart (tPart (tC (.int 2)))) (gTup K 2 (gCons (gName 8) (gCons (gName 9) gNil))))
  (tSeq (tPar 10 11 (tCons (tOp oAdd (tOp oDiv (tVar 3) (tVar 8)) (tC (.int 1))) (tCons (tOp oDiv (tVar 4) (tVar 8)) tNil)))
  (tSeq (tAsg (tLstRgW (tRg2 (tVar 10) (tOp oAdd (tCB oMin2 (tCons (tCB oInt1 (tCons (tVar 11) tNil)) (tCons (tCB oInt1 (tCons (tOp oAdd (tVar 10) (tVar 9)) tNil)) tNil))) (tC (.int 1))))) (gName 12))
  (tIfS (tTest (tOp (rNeD K) (tLc (iList K (tVar 12)) (gName 13) (tTest (tOp rEq (tOp oMod (tOp oSub (tVar 13) (tOp rIxTH (tVar 2) (tC (.int 1)))) (tVar 9)) (tC (.int 0)))) (tVar 13) [13]) (tLst tNil))) (tSeq (tAsg (tFn (sp__law_out K) E0 (tCons (tVar 0) (tCons (tVar 1) (tCons (tVar 2) (tCons (tVar 4) tNil))))) (gName 2))
  (tSeq (tDrop (tBM K "list" rAppend (tVar 5) (tCons (tVar 2) tNil)))
  (tIfS (tTest (tOp oIsN (tVar 2) (tC .non))) (tRet (tVar 5)) tNext))) tNext)))) tNext)
/-- the ticks of a lump at which a slot is visited: some, just if the lump visits -/
theorem sw_hits {g s pt before here : Int} (hg : 0 < g) (hs : 0 < s) : ((rgV (before / g + 1) ((if before / g + 1 + s < here / g then before / g + 1 + s else here / g) + 1)).filter fun x => match x with | .int at_ => decide ((at_ - pt) % s = 0) | _ => false) = [] ↔ ¬ (pt - before / g - 1) % s < here / g - before / g := by
  have e1 : pt - before / g - 1 = pt - (before / g + 1) := by omega
  rw [e1]
  have k0 := Int.emod_nonneg (pt - (before / g + 1)) (b := s) (by omega)
  have k1 := Int.emod_lt_of_pos (pt - (before / g + 1)) hs
  have hi : ∀ j, 0 ≤ j → j ≤ (pt - (before / g + 1)) % s → ((before / g + 1 + j - pt) % s = 0 ↔ j = (pt - (before / g + 1)) % s) := fun j => hit_iff hs
  generalize before / g + 1 = a at *
  generalize (pt - a) % s = k at *
  rw [List.filter_eq_nil_iff]
  unfold rgV
  constructor
  · intro h hlt
    have hm : V.int (a + k) ∈ (List.range ((if a + s < here / g then a + s else here / g) + 1 - a).toNat).map fun i => V.int (a + (i : Nat)) := by
      refine List.mem_map.mpr ⟨k.toNat, List.mem_range.mpr ?_, by rw [Int.toNat_of_nonneg k0]⟩
      split <;> omega
    exact h _ hm (decide_eq_true ((hi k k0 (Int.le_refl _)).mpr rfl))
  · intro h x hx
    obtain ⟨i, hi1, rfl⟩ := List.mem_map.mp hx
    have hr := List.mem_range.mp hi1
    intro hz
    have hz := of_decide_eq_true hz
    have := (hi i (by omega) (by split at hr <;> omega)).mp hz
    split at hr <;> omega
theorem sw_body {r rv f qd : Addr} {W : List Lv} {B : Bk} {sp0 : Spot} {before here : Int} {H : Hp} {Q : VK} {D : Ends} (hR : RowsAt H r W) (hRk : ROk W) (hV : VlAt H rv B) (hf : H f = none) (hqf : qd ≠ f) (hrt : D.rt = Q)
    (q : ∀ f xs H', Same H H' → H f = none → H' f = some (.lst xs) → OSps H' xs (visited W B sp0 before here) → Q (.ref f) H')
    (i : Nat) (x : V) (σ : L2.St) (H1 : Hp) (hx : (ordV W B)[i]? = some x) (hI : swInv K r rv f qd W B sp0 before here H i σ H1) :
    gName 7 x σ H1 fun σ2 H2 => swBody K { D with nx := swInv K r rv f qd W B sp0 before here H (i + 1), ct := swInv K r rv f qd W B sp0 before here H (i + 1), bk := D.nx } σ2 H2 := by
  obtain ⟨p, sp, xs, os, v6, v7, v8, v9, v10, v11, v12, v13, rfl, s1, hS, hfx, hq, hxl, hos, hvis⟩ := hI
  obtain ⟨j, hj, rfl⟩ : ∃ j, (order W B)[i]? = some j ∧ x = V.int (j : Nat) := by
    unfold ordV at hx
    rw [List.getElem?_map] at hx
    cases e : (order W B)[i]? with
    | none => rw [e] at hx; cases hx
    | some c => rw [e] at hx; exact ⟨c, rfl, (Option.some.inj hx).symm⟩
  have hi := (List.getElem?_eq_some_iff.mp hj).1
  have hjW : j < W.length := mem_order.mp (List.mem_of_getElem? hj)
  have hdr : (order W B).drop i = j :: (order W B).drop (i + 1) := by
    rw [List.drop_eq_getElem_cons hi]
    rw [(List.getElem?_eq_some_iff.mp hj).2]
  rw [hdr] at hvis
  unfold visGo at hvis
  have hS2 := hS
  unfold SpAt at hS2
  have hR1 := hR.same s1
  have hV1 := hV.same s1
  obtain ⟨ys, t, g1, g2, g3, g4⟩ := hR1.row hjW
  have hall := hRk.ok.all _ hjW
  rw [gName1]
  unfold swBody
  walk_at "rwn"
  refine ite2 (fun ht => ?_) fun ht => ?_
  · rw [seq1]
    refine ⟨_, rfl, _, rfl, _, _, _, _, rfl, rfl, g1, g3, 2, rfl, t, _, rfl, SqT.of g4, part2 _ _ _, fun c hc => ?_⟩
    rw [cut2]
    refine ⟨c, _, rfl, SqT.of upd_same, rfl, ?_⟩
    have s2 := Same.new (o := .tup [V.int (lv W j).g, .int (lv W j).s]) hc
    have hfx2 := s2 _ _ hfx
    have hq2 := s2 _ _ hq
    have hS3 := s2 _ _ hS2
    have hos2 := hos.same s2
    have hR2 := hR1.same s2
    have hV2 := hV1.same s2
    have hs2 := s1.trans s2
    have hSp2 := hS.same s2
    generalize upd H1 c (.tup [V.int (lv W j).g, .int (lv W j).s]) = H2 at *
    walk_at "rwn"
    rw [seq1]
    walk_at "rwn"
    refine ⟨⟨by omega, by omega⟩, ⟨by omega, by omega⟩, ?_⟩
    rw [seq1]
    have hm2 : (if before / (lv W j).g + 1 + (lv W j).s < here / (lv W j).g then before / (lv W j).g + 1 + (lv W j).s else here / (lv W j).g) + 1 - (before / (lv W j).g + 1) ≤ 200 := by split <;> omega
    have hits := sw_hits (g := (lv W j).g) (s := (lv W j).s) (pt := sp.pt) (before := before) (here := here) (by omega) (by omega)
    unfold tLstRgW tRg2
    walk_at "rwn"
    refine ⟨by omega, fun e he => ?_⟩
    generalize hrg : rgV (before / (lv W j).g + 1) ((if before / (lv W j).g + 1 + (lv W j).s < here / (lv W j).g then before / (lv W j).g + 1 + (lv W j).s else here / (lv W j).g) + 1) = rg at *
    have hrl : rg.length ≤ 1000 := by rw [← hrg, rgV_length]; omega
    have hri : ∀ x ∈ rg, ∃ k : Int, x = .int k := fun x hx => by
      rw [← hrg] at hx
      unfold rgV at hx
      obtain ⟨k, _, rfl⟩ := List.mem_map.mp hx
      exact ⟨_, rfl⟩
    have s3 := Same.new (o := .lst rg) he
    have hS4 := s3 _ _ hS3
    have hrg3 : upd H2 e (.lst rg) e = some (.lst rg) := updS _ _ _
    have hfx3 := s3 _ _ hfx2
    have hq3 := s3 _ _ hq2
    have hos3 := hos2.same s3
    have hR3 := hR2.same s3
    have hV3 := hV2.same s3
    have hs3 := hs2.trans s3
    have hSp3 := hSp2.same s3
    generalize upd H2 e (.lst rg) = H3 at *
    refine lcF (a := e) (xs := rg) (fun x => match x with | .int at_ => decide ((at_ - sp.pt) % (lv W j).s = 0) | _ => false) rfl (show 13 < 14 by decide) (SqL.of hrg3) hrl (fun x hx H' R s' hr => ?_) fun D H4 hD s4 hD4 => ?_
    · obtain ⟨k, rfl⟩ := hri x hx
      have hS5 := s' _ _ hS4
      unfold wipe wipe
      walk_at "rwn"
      omega
    · intro e2 he2
      have s5 := s4.trans (Same.new (o := .lst []) he2)
      have hD5 := Same.new (o := .lst []) he2 _ _ hD4
      have hE5 : upd H4 e2 (.lst []) e2 = some (.lst []) := updS _ _ _
      generalize upd H4 e2 (.lst []) = H5 at *
      obtain ⟨ks, hks⟩ : ∃ ks : List Int, rg.filter (fun x => match x with | .int at_ => decide ((at_ - sp.pt) % (lv W j).s = 0) | _ => false) = ks.map V.int := by
        have : ∀ l : List V, (∀ x ∈ l, ∃ k : Int, x = .int k) → ∃ ks : List Int, l = ks.map V.int := fun l => by
          induction l with
          | nil => exact fun _ => ⟨[], rfl⟩
          | cons x l ih =>
            intro h
            obtain ⟨k, rfl⟩ := h x (List.mem_cons_self ..)
            obtain ⟨ks, rfl⟩ := ih fun y hy => h y (List.mem_cons_of_mem _ hy)
            exact ⟨k :: ks, rfl⟩
        exact this _ fun x hx => hri x (List.mem_filter.mp hx).1
      rw [hks] at hD5 hits
      refine ⟨.list (ks.map PyData.int), .list [], .lst (SqL.of hD5) (ddInts ks), .lst (SqL.of hE5) .nil, shaped_ints ks, by decide, ?_⟩
      rw [eqv_ints]
      refine ⟨_, rfl, ?_⟩
      have hfx5 := s5 _ _ hfx3
      have hq5 := s5 _ _ hq3
      have hos5 := hos3.same s5
      have hs5 := hs3.trans s5
      have hSp5 := hSp3.same s5
      have hvv : isVis (lv W j) sp.pt before here = true ↔ (sp.pt - before / (lv W j).g - 1) % (lv W j).s < here / (lv W j).g - before / (lv W j).g := by unfold isVis; exact decide_eq_true_iff
      have hjl : sp.lv = j := by omega
      by_cases hke : ks = []
      · subst hke
        rw [if_neg (by decide)]
        rw [if_neg (fun z => hits.mp rfl (hvv.mp z.2))] at hvis
        exact ⟨p, sp, xs, os, _, _, _, _, _, _, _, _, rfl, hs5, hSp5, hfx5, hq5, by omega, hos5, hvis⟩
      · have hne : (!ks.isEmpty) = true := by cases ks with
          | nil => exact absurd rfl hke
          | cons a l => rfl
        have hlt : (sp.pt - before / (lv W j).g - 1) % (lv W j).s < here / (lv W j).g - before / (lv W j).g := Classical.byContradiction fun z => hke (by
          have := hits.mpr z
          exact List.map_eq_nil_iff.mp this)
        rw [if_pos hne]
        rw [if_pos ⟨hjl, hvv.mpr hlt⟩] at hvis
        rw [seq1]
        walk_at "rwn"
        refine ⟨r, rv, p, here, rfl, W, B, sp, hR3.same s5, hRk, hV3.same s5, hSp5, fun v H6 s6 ho => ?_⟩
        have hf6 := s6 _ _ hfx5
        unfold tBM rAppend
        dsimp only
        rw [seq1]
        walk_at "rwn"
        have hsz : sizeLine = 16777216 := rfl
        have hol : (order W B).length = W.length := by unfold order; split <;> simp
        have hlen5 := hRk.ok.len
        refine ⟨.inl ⟨rfl, xs, SqL.of hf6⟩, by omega, ?_⟩
        have s7 : Same H (upd H6 f (.lst (xs ++ [v]))) := Same.updN (hs5.trans s6) hf
        have hx7 : OSps (upd H6 f (.lst (xs ++ [v]))) (xs ++ [v]) (os ++ [taken W B sp here]) := ((hos5.same s6).updL hf6).snoc (ho.updL hf6)
        cases hk : taken W B sp here with
        | none =>
          rw [hk] at ho hvis hx7
          obtain rfl : v = .non := ho
          have q7 := q f _ _ s7 hf upd_same (by rw [hvis]; exact hx7)
          walk_at "rwn"
        | some s' =>
          rw [hk] at ho hvis hx7
          obtain ⟨p2, rfl, hp2⟩ := id ho
          have hq6 := s6 _ _ hq5
          have hfin : ∀ v12 v13 : Option V, swInv K r rv f qd W B sp0 before here H (i + 1) [some (.ref r), some (.ref rv), some (.ref p2), some (.int before), some (.int here), some (.ref f), v6, some (.int (j : Nat)), some (.int (lv W j).g), some (.int (lv W j).s), some (.int (before / (lv W j).g + 1)), some (.int (here / (lv W j).g)), v12, v13] (upd H6 f (.lst (xs ++ [.ref p2]))) :=
            fun v12 v13 => ⟨p2, s', _, _, _, _, _, _, _, _, _, _, rfl, s7, by
              unfold SpAt at hp2 ⊢
              rw [upd_ne (fun e => by rw [e, hf6] at hp2; cases hp2)]
              exact hp2, upd_same, by rw [upd_ne hqf]; exact hq6, by simp; omega, hx7, by rw [hvis, List.append_assoc]; rfl⟩
          walk_at "rwn"
          first | exact hfin _ _ | skip
  · rw [if_neg (fun z => ht (by rw [z.1]))] at hvis
    exact ⟨p, sp, xs, os, _, _, _, _, _, _, _, _, rfl, s1, hS, hfx, hq, by omega, hos, hvis⟩
def t__law_sweep (K : Frag) (w : World) : TS :=
  (tSeq (tPar 5 6 (tCons (tLst tNil) (tCons (tLstRg (tRg1 (tCB rLenLH (tCons (tVar 0) tNil)))) tNil)))
  (tSeq (tFor (iList K (tIf (tTest (tOp rEq (tOp rIxLH (tVar 1) (tC (.int 2))) (tC (.str "high")))) (tRevL K (tVar 6)) (tVar 6))) (gName 7)
    (tIfS (tTest (tOp rEq (tOp rIxTH (tVar 2) (tC (.int 0))) (tVar 7))) (tSeq (tAsg (tSl (rSlT K) (tOp rIxLH (tVar 0) (tVar 7)) tNoPart (tPart (tC (.int 2)))) (gTup K 2 (gCons (gName 8) (gCons (gName 9) gNil))))
  (tSeq (tPar 10 11 (tCons (tOp oAdd (tOp oDiv (tVar 3) (tVar 8)) (tC (.int 1))) (tCons (tOp oDiv (tVar 4) (tVar 8)) tNil)))
  (tSeq (tAsg (tLstRgW (tRg2 (tVar 10) (tOp oAdd (tCB oMin2 (tCons (tCB oInt1 (tCons (tVar 11) tNil)) (tCons (tCB oInt1 (tCons (tOp oAdd (tVar 10) (tVar 9)) tNil)) tNil))) (tC (.int 1))))) (gName 12))
  (tIfS (tTest (tOp (rNeD K) (tLc (iList K (tVar 12)) (gName 13) (tTest (tOp rEq (tOp oMod (tOp oSub (tVar 13) (tOp rIxTH (tVar 2) (tC (.int 1)))) (tVar 9)) (tC (.int 0)))) (tVar 13) [13]) (tLst tNil))) (tSeq (tAsg (tFn (sp__law_out K) E0 (tCons (tVar 0) (tCons (tVar 1) (tCons (tVar 2) (tCons (tVar 4) tNil))))) (gName 2))
  (tSeq (tDrop (tBM K "list" rAppend (tVar 5) (tCons (tVar 2) tNil)))
  (tIfS (tTest (tOp oIsN (tVar 2) (tC .non))) (tRet (tVar 5)) tNext))) tNext)))) tNext))
  (tRet (tVar 5))))
def n__law_sweep : List Str := ["_law_rows", "_law_values", "_law_spot", "_law_before", "_law_here", "_law_found", "_law_indices", "_law_index", "_law_grain", "_law_slots", "_law_first", "_law_end", "_law_some", "_law_at"]
theorem rd__law_sweep (vs : List V) (H : Hp) (Q : VK) (E : XK) (h : sp__law_sweep K vs H Q E) : t__law_sweep K w { nx := fun _ H' => Q .non H', rt := Q } (L2.start n__law_sweep vs) H := by
  obtain ⟨r, rv, p, before, here, rfl, W, B, sp, hR, hRk, hV, hS, q⟩ := h
  have hpos := hRk.ok.pos
  have hlen := hRk.ok.len
  have hV1 := hV.six
  obtain ⟨ts, ha, hb, hc⟩ := id hR
  unfold t__law_sweep n__law_sweep
  rw [seq1]
  unfold tLstRg tRg1 tRevL
  walk_at "rwn"
  intro f hf
  have s0 := Same.new (o := .lst []) hf
  have ha0 := s0 _ _ ha
  have e1 : rgV 0 (W.length : Int) = (List.range W.length).map fun i => V.int (i : Nat) := by
    unfold rgV
    rw [show ((W.length : Int) - 0).toNat = W.length by omega]
    refine List.map_congr_left fun i _ => ?_
    rw [Int.zero_add]
  have hf0 : upd H f (.lst []) f = some (.lst []) := updS _ _ _
  generalize upd H f (.lst []) = H0 at *
  walk_at "rwn"
  refine ⟨RgOk.of_le (by omega) (by omega) (by omega) (by omega), fun i6 h6 => ?_⟩
  have s1 := s0.trans (Same.new (o := .lst ((List.range W.length).map fun i => V.int (i : Nat))) h6)
  have hf1 := Same.new (o := .lst ((List.range W.length).map fun i => V.int (i : Nat))) h6 _ _ hf0
  have h61 : upd H0 i6 (.lst ((List.range W.length).map fun i => V.int (i : Nat))) i6 = some (.lst ((List.range W.length).map fun i => V.int (i : Nat))) := updS _ _ _
  have hV1 := s1 _ _ hV1
  have hif : i6 ≠ f := fun e => by rw [e, hf0] at h6; cases h6
  generalize upd H0 i6 (.lst ((List.range W.length).map fun i => V.int (i : Nat))) = H1 at *
  have hb : B.high = true ∨ B.high = false := by cases B.high <;> simp
  rw [seq1]
  have hV2 : VlAt H1 rv B := ⟨hV1, hV.ok⟩
  refine for_high rfl hV2 ?_
  rcases hb with hb | hb
  · rw [if_pos hb]
    refine ⟨_, rfl, i6, rfl, _, SqL.of h61, fun qd hqd => ?_⟩
    have ho : ((List.range W.length).map fun i => V.int (i : Nat)).reverse = ordV W B := by unfold ordV order; rw [if_pos hb, List.map_reverse]
    rw [ho]
    have hf2 := Same.new (o := .lst (ordV W B)) hqd _ _ hf1
    have hq : upd H1 qd (.lst (ordV W B)) qd = some (.lst (ordV W B)) := updS _ _ _
    have s2 := s1.trans (Same.new (o := .lst (ordV W B)) hqd)
    have hqf : qd ≠ f := fun e => by rw [e, hf1] at hqd; cases hqd
    generalize upd H1 qd (.lst (ordV W B)) = H2 at *
    refine ⟨qd, rfl, ⟨_, SqL.of hq⟩, for_list (xs := ordV W B) (swInv K r rv f qd W B sp before here H) ⟨p, sp, [], [], _, _, _, _, _, _, _, _, rfl, s2, hS.same s2, hf2, hq, Nat.le_refl _, OSps.nil, rfl⟩ (fun i σ H' _ ⟨_, _, _, _, _, _, _, _, _, _, _, _, _, _, _, _, z, _⟩ => SqL.of z) (fun i x σ H' hx hI => sw_body hR hRk hV hf hqf rfl q i x σ H' hx hI) ?_⟩
    rintro σ H3 ⟨p', sp', xs, os, v6, v7, v8, v9, v10, v11, v12, v13, rfl, s3, hS3, hf3, hq3, hl3, hos, hvis⟩
    rw [List.drop_of_length_le (by unfold ordV; simp)] at hvis
    exact ⟨_, rfl, q f xs H3 s3 hf hf3 (by rw [hvis]; simpa [visGo] using hos)⟩
  · rw [if_neg (by rw [hb]; decide)]
    have ho : ((List.range W.length).map fun i => V.int (i : Nat)) = ordV W B := by unfold ordV order; rw [if_neg (by rw [hb]; decide)]
    rw [ho] at h61
    refine ⟨_, rfl, i6, rfl, ⟨_, SqL.of h61⟩, for_list (xs := ordV W B) (swInv K r rv f i6 W B sp before here H) ⟨p, sp, [], [], _, _, _, _, _, _, _, _, rfl, s1, hS.same s1, hf1, h61, Nat.le_refl _, OSps.nil, rfl⟩ (fun i σ H' _ ⟨_, _, _, _, _, _, _, _, _, _, _, _, _, _, _, _, z, _⟩ => SqL.of z) (fun i x σ H' hx hI => sw_body hR hRk hV hf hif rfl q i x σ H' hx hI) ?_⟩
    rintro σ H3 ⟨p', sp', xs, os, v6, v7, v8, v9, v10, v11, v12, v13, rfl, s3, hS3, hf3, hq3, hl3, hos, hvis⟩
    rw [List.drop_of_length_le (by unfold ordV; simp)] at hvis
    exact ⟨_, rfl, q f xs H3 s3 hf hf3 (by rw [hvis]; simpa [visGo] using hos)⟩
theorem OSps.count : ∀ {H : Hp} {xs : List V} {os : List (Option Spot)}, OSps H xs os → (xs.filter fun x => !decide (x = V.non)).length = (os.filter (·.isSome)).length
  | _, [], [], _ => rfl
  | _, [], _ :: _, h => by have := h.1; simp at this
  | _, _ :: _, [], h => by have := h.1; simp at this
  | H, x :: xs, o :: os, h => by
    have ih := OSps.count (H := H) (xs := xs) (os := os) ⟨by have := h.1; simpa using this, fun i v q e1 e2 => h.2 (i + 1) v q (by simpa using e1) (by simpa using e2)⟩
    have h0 := h.2 0 x o rfl rfl
    cases o with
    | none =>
      obtain rfl : x = .non := h0
      rw [List.filter_cons_of_neg (by simp), List.filter_cons_of_neg (by simp), ih]
    | some sp =>
      obtain ⟨p, rfl, _⟩ := h0
      rw [List.filter_cons_of_pos (by simp), List.filter_cons_of_pos (by simp), List.length_cons, List.length_cons, ih]
theorem visGo_somes {W : List Lv} {B : Bk} {b n : Int} : ∀ (is : List Nat) (sp : Spot), ((visGo W B b n is sp).getLast? = some none → ((visGo W B b n is sp).filter (·.isSome)).length + 1 = (visGo W B b n is sp).length) ∧
    ((∀ sp', (visGo W B b n is sp).getLast? = some (some sp') → ((visGo W B b n is sp).filter (·.isSome)).length = (visGo W B b n is sp).length))
  | [], sp => ⟨fun h => by simp [visGo] at h, fun sp' h => by simp [visGo] at h⟩
  | i :: is, sp => by
    unfold visGo
    split
    · cases hk : taken W B sp n with
      | none => exact ⟨fun _ => rfl, fun sp' h => by simp at h⟩
      | some s' =>
        obtain ⟨h1, h2⟩ := visGo_somes is s' (W := W) (B := B) (b := b) (n := n)
        dsimp only
        rw [List.filter_cons_of_pos (by simp), List.length_cons, List.length_cons, List.getLast?_cons]
        refine ⟨fun h => ?_, fun sp' h => ?_⟩
        · cases hl : (visGo W B b n is s').getLast? with
          | none => rw [hl] at h; simp at h
          | some o =>
            rw [hl] at h
            obtain rfl : o = none := by simpa using h
            have := h1 hl
            omega
        · cases hl : (visGo W B b n is s').getLast? with
          | none =>
            have := List.getLast?_eq_none_iff.mp hl
            rw [this]
            rfl
          | some o =>
            rw [hl] at h
            obtain rfl : o = some sp' := by simpa using h
            have := h2 sp' hl
            omega
    · exact visGo_somes is sp
def sp__law_run (K : Frag) : Sp := fun vs H Q _ => ∃ (r rv p : Addr) (here : Int) (lim : Option Int), vs = [.ref r, .ref rv, .ref p, .int here, optV lim] ∧ ∃ W B sp, RowsAt H r W ∧ ROk W ∧ VlAt H rv B ∧ SpAt H p sp ∧ sp.lv < W.length ∧
  ∀ n res, wl W B lim n sp here 0 = some res → ∀ v f H', Same H H' → OSp H' v res.1 → H' f = some (.lst [v, .int res.2.1, .int res.2.2]) → Q (.ref f) H'
def runInv (r rv : Addr) (here : Int) (lim : Option Int) (W : List Lv) (B : Bk) (res : Res) (H : Hp) (m : Nat) (σ : L2.St) (H' : Hp) : Prop :=
  (∃ (p : Addr) (sp : Spot) (tick mv : Int) (v7 v8 v9 : Option V), σ = [some (.ref r), some (.ref rv), some (.ref p), some (.int here), some (optV lim), some (.int tick), some (.int mv), v7, v8, v9] ∧ Same H H' ∧ SpAt H' p sp ∧ sp.lv < W.length ∧ wl W B lim m sp tick mv = some res) ∨
  (∃ (tick mv : Int) (v7 v8 v9 : Option V), m = 0 ∧ σ = [some (.ref r), some (.ref rv), some .non, some (.int here), some (optV lim), some (.int tick), some (.int mv), v7, v8, v9] ∧ Same H H' ∧ res = (none, tick, mv))
def t__law_run (K : Frag) (w : World) : TS :=
  (tSeq (tPar 5 6 (tCons (tVar 3) (tCons (tC (.int 0)) tNil)))
  (tSeq (tWhile (tTest (tOp oNotN (tVar 2) (tC .non)))
    (tSeq (tAsg (tFn (sp__law_visit K) E0 (tCons (tVar 0) (tCons (tVar 2) (tCons (tVar 5) tNil)))) (gName 7))
  (tSeq (tIfS (tAnd (tTest (tOp oNotN (tVar 4) (tC .non))) (tTest (tOp oGt (tVar 7) (tVar 4)))) (tRet (tLst (tCons (tVar 2) (tCons (tVar 5) (tCons (tVar 6) tNil))))) tNext)
  (tSeq (tAsg (tFn (sp__law_sweep K) E0 (tCons (tVar 0) (tCons (tVar 1) (tCons (tVar 2) (tCons (tOp oSub (tVar 7) (tC (.int 1))) (tCons (tVar 7) tNil)))))) (gName 8))
  (tSeq (tPar 5 2 (tCons (tVar 7) (tCons (tOp rIxLH (tVar 8) (tUn oNeg (tC (.int 1)))) tNil)))
  (tAsg (tOp oAdd (tVar 6) (tCB rLenLH (tCons (tLc (iList K (tVar 8)) (gName 9) (tTest (tOp oNotN (tVar 9) (tC .non))) (tVar 9) [9]) tNil))) (gName 6)))))))
  (tRet (tLst (tCons (tC .non) (tCons (tVar 5) (tCons (tVar 6) tNil)))))))
def n__law_run : List Str := ["_law_rows", "_law_values", "_law_spot", "_law_here", "_law_limit", "_law_tick", "_law_many", "_law_at", "_law_found", "_law_one"]
theorem rd__law_run (vs : List V) (H : Hp) (Q : VK) (E : XK) (h : sp__law_run K vs H Q E) : t__law_run K w { nx := fun _ H' => Q .non H', rt := Q } (L2.start n__law_run vs) H := by
  obtain ⟨r, rv, p, here, lim, rfl, W, B, sp, hR, hRk, hV, hS, hl, q⟩ := h
  obtain ⟨res, hres⟩ := wl_ends hRk.ok B lim (mu sp here) sp here 0 hl (Nat.le_refl _)
  have q := q _ _ hres
  unfold t__law_run n__law_run
  rw [seq1]
  walk_at "rwn"
  rw [seq1]
  refine ⟨runInv r rv here lim W B res H, ⟨_, .inl ⟨p, sp, here, 0, _, _, _, rfl, Same.refl H, hS, hl, hres⟩⟩, ?_⟩
  rintro m σ H1 (⟨p, sp, tick, mv, v7, v8, v9, rfl, s1, hS, hl, hw⟩ | ⟨tick, mv, v7, v8, v9, rfl, rfl, s1, rfl⟩)
  · walk_at "rwn"
    cases m with
    | zero => cases hw
    | succ m =>
      refine ⟨fun σ' H' => ∃ m', m' < m + 1 ∧ runInv r rv here lim W B res H m' σ' H', fun σ' H' z => z, ?_⟩
      rw [seq1]
      walk_at "rwn"
      refine ⟨r, p, tick, rfl, W, sp, hR.same s1, hRk, hS, hl, fun H2 s2 => ?_⟩
      dsimp only
      rw [seq1]
      have hgt := va_step hRk.ok hl sp.pt tick
      unfold wl at hw
      dsimp only at hw
      walk_at "rwn"
      refine limSplit (fun ho => ?_) fun ho => ?_
      · rw [if_pos ho] at hw
        obtain rfl := Option.some.inj hw
        intro f hf
        exact q (.ref p) f _ ((s1.trans s2).trans (Same.new hf)) ⟨p, rfl, (hS.same s2).same (Same.new hf)⟩ (updS _ _ _)
      · rw [if_neg (by rw [ho]; exact Bool.false_ne_true)] at hw
        rw [seq1]
        walk_at "rwn"
        have s12 := s1.trans s2
        refine ⟨r, rv, p, _, _, rfl, W, B, sp, hR.same s12, hRk, hV.same s12, hS.same s2, fun f xs H3 s3 hfn hf hos => ?_⟩
        dsimp only
        rw [seq1]
        have hne := visited_ne hRk.ok (B := B) hl tick
        obtain ⟨f1, f2⟩ := visGo_somes (W := W) (B := B) (b := va (lv W sp.lv) sp.pt tick - 1) (n := va (lv W sp.lv) sp.pt tick) (order W B) sp
        have hcount := hos.count
        cases hq : (visited W B sp (va (lv W sp.lv) sp.pt tick - 1) (va (lv W sp.lv) sp.pt tick)).getLast? with
        | none => exact absurd (List.getLast?_eq_none_iff.mp hq) hne
        | some o =>
          rw [hq] at hw
          obtain ⟨v, hv1, hov⟩ := hos.last hq
          have hat := atI_m1 hv1
          have s13 := s12.trans s3
          generalize va (lv W sp.lv) sp.pt tick = t at *
          have hxl : xs.length ≤ 1000 := by
            have h1 := hos.1
            have h2 : (visited W B sp (t - 1) t).length ≤ (order W B).length := by
              have : ∀ (is : List Nat) (sp : Spot), (visGo W B (t - 1) t is sp).length ≤ is.length := fun is => by
                induction is with
                | nil => exact fun _ => Nat.le_refl _
                | cons i is ih =>
                  intro sp
                  unfold visGo
                  split
                  · cases taken W B sp t with
                    | none => exact Nat.succ_le_succ (Nat.zero_le _)
                    | some s' => exact Nat.succ_le_succ (ih s')
                  · exact Nat.le_succ_of_le (ih sp)
              exact this _ _
            have h3 : (order W B).length = W.length := by unfold order; split <;> simp
            have := hRk.ok.len
            omega
          cases o with
          | none =>
            obtain rfl := Option.some.inj hw
            obtain rfl : v = .non := hov
            walk_at "rwn"
            refine lcF (a := f) (xs := xs) (fun x => !decide (x = V.non)) rfl (show 9 < 10 by decide) (SqL.of hf) hxl (fun x hx H' R s' hr => ?_) fun D H4 hD s4 hD4 => ⟨D, rfl, _, hD4, 0, by omega, .inr ⟨_, _, _, _, _, rfl, rfl, s13.trans s4, ?_⟩⟩
            · unfold wipe wipe
              walk_at "rwn"
            · rw [hcount]
              have h1 : ((visited W B sp (t - 1) t).filter (·.isSome)).length + 1 = (visited W B sp (t - 1) t).length := f1 hq
              rw [show mv + ((visited W B sp (t - 1) t).length : Int) - 1 = mv + (((visited W B sp (t - 1) t).filter (·.isSome)).length : Int) by omega]
          | some sp' =>
            dsimp only at hw
            obtain ⟨p', rfl, hp'⟩ := hov
            have hmu := mu_step hRk.ok hgt.1 hq
            walk_at "rwn"
            refine lcF (a := f) (xs := xs) (fun x => !decide (x = V.non)) rfl (show 9 < 10 by decide) (SqL.of hf) hxl (fun x hx H' R s' hr => ?_) fun D H4 hD s4 hD4 => ⟨D, rfl, _, hD4, m, by omega, .inl ⟨p', sp', t, _, _, _, _, rfl, s13.trans s4, hp'.same s4, hmu.2.1, ?_⟩⟩
            · unfold wipe wipe
              walk_at "rwn"
            · rw [hcount]
              have h1 : ((visited W B sp (t - 1) t).filter (·.isSome)).length = (visited W B sp (t - 1) t).length := f2 sp' hq
              rw [h1]
              exact hw
  · walk_at "rwn"
    intro f hf
    exact q .non f _ (s1.trans (Same.new hf)) rfl (updS _ _ _)
/-- the law's own tick of firing -/
def wfin (W : List Lv) (B : Bk) (start delay : Int) : Int × Int := match placeM W B start delay with
  | none => (start, 0)
  | some sp => match wl W B none (mu sp start) sp start 0 with
    | none => (0, 0)
    | some r => r.2
theorem placeM_proper {W : List Lv} (ok : WOk W) {B : Bk} {now delay : Int} {sp : Spot} (hd : 0 ≤ delay) (h : placeM W B now delay = some sp) : Proper W sp now := by
  have hre : 2 ≤ reach W := (ok.all (W.length - 1) (by have := ok.pos; omega)).2.2.2.2
  unfold placeM at h
  split at h
  · cases h
  · obtain rfl := Option.some.inj h
    intro z
    rw [spotAt_due] at z
    have hz : reach W ≤ (if reach W ≤ (if 1 > delay then 1 else delay) ∧ B.bey = 2 then reach W - 1 else (if 1 > delay then 1 else delay)) := by
      omega
    rw [spotAt_far ok hz]
/-- it is the package's -/
theorem wfin_fin {W : List Lv} (ok : WOk W) (B : Bk) {start delay : Int} (hd : 0 ≤ delay) : wfin W B start delay = fin W B start delay := by
  unfold wfin fin
  cases h : placeM W B start delay with
  | none => rfl
  | some sp =>
    dsimp only
    obtain ⟨r, hr⟩ := fol_ends ok B none (mu sp start) sp start 0 (placeM_lt ok h) (Nat.le_refl _)
    obtain ⟨r', hr'⟩ := wl_ends ok B none (mu sp start) sp start 0 (placeM_lt ok h) (Nat.le_refl _)
    obtain ⟨m, hm⟩ := fol_wl ok _ (placeM_proper ok hd h) (placeM_lt ok h) hr
    rw [hr, hr', wl_eq hr' hm]
def sp__law_fire (K : Frag) : Sp := fun vs H Q _ => ∃ (r rv : Addr) (start delay : Int), vs = [.ref r, .ref rv, .int start, .int delay] ∧ ∃ W B, RowsAt H r W ∧ ROk W ∧ VlAt H rv B ∧ 0 ≤ delay ∧ (reach W ≤ delay → B.bey ≠ 0) ∧ ∀ H', Same H H' → Q (.int (fin W B start delay).1) H'
def t__law_fire (K : Frag) (w : World) : TS :=
  (tSeq (tAsg (tFn (sp__law_put K) E0 (tCons (tVar 0) (tCons (tVar 1) (tCons (tVar 2) (tCons (tVar 3) tNil))))) (gName 4))
  (tRet (tIf (tTest (tOp oIsN (tVar 4) (tC .non))) (tVar 2) (tOp rIxLH (tFn (sp__law_run K) E0 (tCons (tVar 0) (tCons (tVar 1) (tCons (tVar 4) (tCons (tVar 2) (tCons (tC .non) tNil)))))) (tC (.int 1))))))
def n__law_fire : List Str := ["_law_rows", "_law_values", "_law_start", "_law_delay", "_law_spot"]
theorem rd__law_fire (vs : List V) (H : Hp) (Q : VK) (E : XK) (h : sp__law_fire K vs H Q E) : t__law_fire K w { nx := fun _ H' => Q .non H', rt := Q } (L2.start n__law_fire vs) H := by
  obtain ⟨r, rv, start, delay, rfl, W, B, hR, hRk, hV, hd, hb, q⟩ := h
  rw [← wfin_fin hRk.ok B hd] at q
  unfold t__law_fire n__law_fire
  walk_at "rwl"
  refine ⟨r, rv, start, delay, rfl, W, B, hR, hRk, hV, hd, hb, fun v H1 s1 ho => ?_⟩
  cases hp : placeM W B start delay with
  | none =>
    rw [hp] at ho
    obtain rfl : v = .non := ho
    unfold wfin at q
    rw [hp] at q
    rw [if_pos rfl]
    exact q _ s1
  | some sp =>
    rw [hp] at ho
    obtain ⟨p, rfl, hsp⟩ := ho
    have hl := placeM_lt hRk.ok hp
    rw [if_neg (by intro z; cases z)]
    refine ⟨r, rv, p, start, none, rfl, W, B, sp, hR.same s1, hRk, hV.same s1, hsp, hl, fun n res hw v f H2 s2 ho2 hf => ?_⟩
    obtain ⟨r', hr'⟩ := wl_ends hRk.ok B none (mu sp start) sp start 0 hl (Nat.le_refl _)
    unfold wfin at q
    rw [hp] at q
    dsimp only at q
    rw [hr', wl_eq hr' hw] at q
    exact ⟨f, rfl, _, hf, _, rfl, q _ (s1.trans s2)⟩
end
end Tw
/-! Tw: lumps -/
namespace Tw
open PySem PySem.Spec PyProof.Rows L2 He TwM StX
open PySem.W (Frag)
local macro_rules | `(tactic| walk_at "rsf") => `(tactic| simp only [*, at3_0, at3_1, at3_2, at2_0, at2_1, updS, upd_two, gSub, rSetL, updN, and_assoc, not_true_eq_false, not_false_eq_true, tNever, List.length_map, tFld, rIxTH, rIxLH, rLenTH, rLenLH, lk1, lfs_g, lfs_s, lfs_p, HO.ins.injEq, HO.tup.injEq, HO.lst.injEq, sp_Book_rounding, sp_Book_action, sp_Book_order, sp_Book_due, sp_Book_zero, sp_Book_beyond, Int.toNat_natCast, sp_visit_after, sp_is_visited, sp_Level_grain, sp_Level_slots, sp_Level_span, sp_Wheel_reach, sp_Wheel___len__, sp_is_integer, sp_is_count, sp_is_within, sp_rounded, tSeq, tAsg, gName, tVar, tC, tOp, rI, rI0, rU, tUn, oAdd, oSub, oMul, oDiv, oMod, oNeg, oLt, oLe, oGt, oGe, oIsN, oNotN, tFn, tCons, tNil, tIfS, tIf, tTest, tB, tNot, tAnd, tOr, tAndV, tOrV, tNotV,
    tRet, tRetN, tNext, tCB, tDrop, tChain, rEq, rNe, oMax2, oMin2, oInt1, rLenF, L2.start, List.map_cons, List.map_nil, List.length_cons, List.length_nil, List.replicate_succ, List.replicate_zero, List.cons_append, List.nil_append, Nat.reduceAdd, Nat.reduceSub, Nat.zero_add,
    List.set_cons_zero, List.set_cons_succ, List.getElem?_cons_zero, List.getElem?_cons_succ, Option.some.injEq, V.int.injEq, V.ref.injEq, V.str.injEq, V.bl.injEq, exists_eq_left', exists_eq_left, exists_and_left, List.cons.injEq, and_true, true_and, decide_eq_true_eq, sc_ii, sc_ss, sc_bb, sc_ni, sc_in, sc_nn, sc_is, reduceCtorEq,
    Bool.not_eq_true', decide_eq_false_iff_not, if_true, if_false, Bool.false_eq_true, exists_eq', exists_const, false_and, and_false, or_false, false_or, exists_false, Bool.not_not, Bool.not_true, Bool.not_false, sUp_up, sFire_fire, sHigh_high, sPut_put, sZone_now, sBey_refuse, sBey_cut, tTup, tLst, sz0, sz1, sz2, sz3, sz4, sz5, sz6])
section
variable {K : Frag} {w : World}
def sp_passed_lump (K : Frag) : Sp := fun vs H Q _ => ∃ (a b p : Addr) (before now : Int) (mode : Str), vs = [.ref a, .ref b, .ref p, .int before, .int now, .str mode] ∧ ∃ W B sp, WhAt K H a W ∧ BkAt K H b B ∧ SpAt H p sp ∧ sp.lv < W.length ∧
  ∀ v H', Same H H' → OSp H' v (passM W B sp before now mode) → Q v H'
theorem pass_rest {H : Hp} {Q : VK} {a b p : Addr} {bf now : Int} {W : List Lv} {B : Bk} {sp : Spot} (hW : WhAt K H a W) (hB : BkAt K H b B) (hS : SpAt H p sp)
    (q : ∀ v H', Same H H' → OSp H' v (match (visited W B sp bf now).getLast? with | none => some sp | some o => o) → Q v H') :
    sp_visited K [V.ref a, V.ref b, V.ref p, V.int bf, V.int now] H (fun x H1 => ∀ (p_1 : Addr), H1 p_1 = none → rEqD K x (V.ref p_1) (upd H1 p_1 (HO.lst [])) fun x_1 H' =>
      ∃ k, x_1 = V.bl k ∧ if k = true then Q (V.ref p) H' else ∃ p, x = V.ref p ∧ ∃ x, H' p = some (HO.lst x) ∧ ∃ x_2, atI x (-1) = some x_2 ∧ Q x_2 H') E0 := by
  refine ⟨a, b, p, _, _, rfl, W, B, sp, hW, hB, hS, fun f xs H1 s1 hfn hf hos r hr => ?_⟩
  have s2 : Same H1 (upd H1 r (.lst [])) := Same.new hr
  have hf2 := s2 _ _ hf
  have hos2 := hos.same s2
  refine ⟨.list ((visited W B sp bf now).map dSp), .list [], .lst (SqL.of hf2) hos2.dp, .lst (SqL.of upd_same) .nil, shaped_list _, by decide, _, rfl, ?_⟩
  rw [eqv_nil]
  cases hv : (visited W B sp bf now).getLast? with
  | none =>
    rw [hv] at q
    have e := List.getLast?_eq_none_iff.mp hv
    rw [e, if_pos (show ([] : List (Option Spot)).isEmpty = true from rfl)]
    exact q _ _ (s1.trans s2) ⟨p, rfl, (hS.same s1).same s2⟩
  | some o =>
    rw [hv] at q
    obtain ⟨v, hv1, hov⟩ := hos2.last hv
    rw [if_neg (fun z => by rw [List.isEmpty_iff.mp z] at hv; cases hv)]
    exact ⟨f, rfl, xs, hf2, v, atI_m1 hv1, q v _ (s1.trans s2) hov⟩
def t_passed_lump (K : Frag) (w : World) : TS :=
  (tSeq (tIfS (tTest (tOp rEq (tVar 5) (tC (.str "each")))) (tRet (tOp rIxTH (tFn (sp_followed K) E0 (tCons (tVar 0) (tCons (tVar 1) (tCons (tVar 2) (tCons (tVar 3) (tCons (tVar 4) tNil)))))) (tC (.int 0)))) tNext)
  (tSeq (tAsg (tFn (sp_visited K) E0 (tCons (tVar 0) (tCons (tVar 1) (tCons (tVar 2) (tCons (tIf (tTest (tOp rEq (tVar 5) (tC (.str "last")))) (tOp oSub (tVar 4) (tC (.int 1))) (tVar 3)) (tCons (tVar 4) tNil)))))) (gName 6))
  (tSeq (tIfS (tTest (tOp (rEqD K) (tVar 6) (tLst tNil))) (tRet (tVar 2)) tNext)
  (tRet (tOp rIxLH (tVar 6) (tUn oNeg (tC (.int 1))))))))
def n_passed_lump : List Str := ["wheel", "book", "spot", "before", "now", "mode", "found"]
theorem rd_passed_lump (vs : List V) (H : Hp) (Q : VK) (E : XK) (h : sp_passed_lump K vs H Q E) : t_passed_lump K w { nx := fun _ H' => Q .non H', rt := Q } (L2.start n_passed_lump vs) H := by
  obtain ⟨a, b, p, before, now, mode, rfl, W, B, sp, hW, hB, hS, hl, q⟩ := h
  unfold t_passed_lump n_passed_lump
  walk_at "rsf"
  unfold passM at q
  refine ite2 (fun h1 => ?_) fun h1 => ?_
  · rw [if_pos h1] at q
    refine ⟨a, b, p, before, some now, rfl, W, B, sp, hW, hB, hS, hl, fun n r hr v f H1 s1 ho hf => ?_⟩
    obtain ⟨r', hr'⟩ := fol_ends hW.ok B (some now) (mu sp before) sp before 0 hl (Nat.le_refl _)
    have e1 := fol_mono _ hr' (max n (mu sp before)) (Nat.le_max_right _ _)
    have e2 := fol_mono _ hr (max n (mu sp before)) (Nat.le_max_left _ _)
    rw [e1] at e2
    obtain rfl := Option.some.inj e2
    rw [hr'] at q
    exact ⟨f, rfl, _, hf, v, rfl, q v H1 s1 ho⟩
  · rw [if_neg h1] at q
    refine ite2 (fun h2 => ?_) fun h2 => ?_
    · rw [if_pos h2] at q
      exact pass_rest hW hB hS q
    · rw [if_neg h2] at q
      exact pass_rest hW hB hS q
def sp_passed (K : Frag) : Sp := fun vs H Q _ => ∃ (a b p : Addr) (before now : Int) (mode : Str), vs = [.ref a, .ref b, .ref p, .int before, .int now, .str mode] ∧ ∃ W B sp, WhAt K H a W ∧ BkAt K H b B ∧ SpAt H p sp ∧ sp.lv < W.length ∧ 0 ≤ before ∧ before < now ∧
  (mode = "each" ∨ mode = "last" ∨ mode = "slots") ∧ ∀ v H', Same H H' → OSp H' v (passM W B sp before now mode) → Q v H'
def t_passed (K : Frag) (w : World) : TS :=
  (tSeq (tIfS (tNot (tB (tFn (sp_is_count K) E0 (tCons (tVar 3) tNil)))) tNever tNext)
  (tSeq (tIfS (tOr (tNot (tB (tFn (sp_is_integer K) E0 (tCons (tVar 4) tNil)))) (tTest (tOp oLe (tVar 4) (tVar 3)))) tNever tNext)
  (tSeq (tIfS (tOr (tNot (tB (tCB (rIsi K) (tCons (tVar 5) (tCons (tC (.ty "str")) tNil))))) (tTest (tOp (rIn K true) (tVar 5) (tC (.ref (ga K "MODES")))))) tNever tNext)
  (tRet (tFn (sp_passed_lump K) E0 (tCons (tVar 0) (tCons (tVar 1) (tCons (tVar 2) (tCons (tVar 3) (tCons (tVar 4) (tCons (tVar 5) tNil)))))))))))
def n_passed : List Str := ["wheel", "book", "spot", "before", "now", "mode"]
theorem rd_passed (T : Kg K) (vs : List V) (H : Hp) (Q : VK) (E : XK) (h : sp_passed K vs H Q E) : t_passed K w { nx := fun _ H' => Q .non H', rt := Q } (L2.start n_passed vs) H := by
  obtain ⟨a, b, p, before, now, mode, rfl, W, B, sp, hW, hB, hS, hl, h0, h1, hm, q⟩ := h
  have hin : (if true = true then !inV (.str mode) [.str "each", .str "last", .str "slots"] else inV (.str mode) [.str "each", .str "last", .str "slots"]) = false := by
    rcases hm with rfl | rfl | rfl <;> decide +kernel
  unfold t_passed n_passed
  walk_at "rsf"
  rw [if_neg (by omega)]
  refine isi_base (.base (.str mode)) (b := true) (by decide +kernel) ⟨_, rfl, ?_⟩
  rw [if_neg Bool.noConfusion]
  refine ⟨_, _, rfl, .inr (T.md _), rfl, by decide +kernel, _, rfl, ?_⟩
  rw [hin, if_neg Bool.false_ne_true]
  exact ⟨a, b, p, before, now, mode, rfl, W, B, sp, hW, hB, hS, hl, q⟩
end
end Tw
/-! Tw: delays of any size -/
namespace Tw
open TwM
section
variable {W : List Lv} {B : Bk} {lim : Option Int}
/-- how far a timer beyond the range goes on -/
def stepM (W : List Lv) (B : Bk) : Int := ((rnd B.up (reach W - 1) (lv W (W.length - 1)).g - 1) % (lv W (W.length - 1)).s + 1) * (lv W (W.length - 1)).g
theorem stepM_va (ok : WOk W) {t : Int} (hg : (lv W (W.length - 1)).g ∣ t) : va (lv W (W.length - 1)) (rnd B.up (t + reach W - 1) (lv W (W.length - 1)).g) t = t + stepM W B := by
  have hall := ok.all (W.length - 1) (by have := ok.pos; omega)
  have e : rnd B.up (t + reach W - 1) (lv W (W.length - 1)).g = rnd B.up (reach W - 1) (lv W (W.length - 1)).g + t / (lv W (W.length - 1)).g := by
    rw [show t + reach W - 1 = (reach W - 1) + t by omega]
    exact rnd_shiftD (by omega) hg
  unfold va stepM
  rw [e]
  generalize rnd B.up (reach W - 1) (lv W (W.length - 1)).g = p
  obtain ⟨z, rfl⟩ := hg
  rw [Int.mul_ediv_cancel_left _ (by omega), show p + z - z - 1 = p - 1 by omega, show z + 1 + (p - 1) % (lv W (W.length - 1)).s = z + ((p - 1) % (lv W (W.length - 1)).s + 1) by omega, Int.add_mul, Int.mul_comm z]
theorem stepM_pos (ok : WOk W) : 1 ≤ stepM W B ∧ stepM W B ≤ 100000 ∧ (lv W (W.length - 1)).g ∣ stepM W B := by
  have hall := ok.all (W.length - 1) (by have := ok.pos; omega)
  unfold stepM
  have h0 := Int.emod_nonneg (rnd B.up (reach W - 1) (lv W (W.length - 1)).g - 1) (b := (lv W (W.length - 1)).s) (by omega)
  have h1 := Int.emod_lt_of_pos (rnd B.up (reach W - 1) (lv W (W.length - 1)).g - 1) (b := (lv W (W.length - 1)).s) (by omega)
  refine ⟨?_, ?_, Int.dvd_mul_left _ _⟩
  · have : 1 * 1 ≤ ((rnd B.up (reach W - 1) (lv W (W.length - 1)).g - 1) % (lv W (W.length - 1)).s + 1) * (lv W (W.length - 1)).g := Int.mul_le_mul (by omega) (by omega) (by omega) (by omega)
    omega
  · have : ((rnd B.up (reach W - 1) (lv W (W.length - 1)).g - 1) % (lv W (W.length - 1)).s + 1) * (lv W (W.length - 1)).g ≤ 100 * 1000 := Int.mul_le_mul (by omega) (by omega) (by omega) (by omega)
    omega
theorem wl_mv : ∀ (n : Nat) {sp : Spot} {tick mv c : Int} {r : Res}, wl W B lim n sp tick mv = some r → wl W B lim n sp tick (mv + c) = some (r.1, r.2.1, r.2.2 + c)
  | 0, _, _, _, _, _, h => by cases h
  | n + 1, sp, tick, mv, c, r, h => by
    unfold wl at h ⊢
    dsimp only at h ⊢
    split at h
    · rename_i ho
      rw [if_pos ho]
      cases h
      rfl
    · rename_i ho
      rw [if_neg ho]
      split at h
      · cases h
      · cases h
        dsimp only
        congr 3
        omega
      · have := wl_mv n (c := c) h
        rw [← this]
        congr 1
        omega
theorem visGo_none {b n : Int} : ∀ (is : List Nat) {sp : Spot}, taken W B sp n = none → sp.lv ∈ is → isVis (lv W sp.lv) sp.pt b n = true → visGo W B b n is sp = [none]
  | [], sp, _, h, _ => by simp at h
  | i :: is, sp, ht, h, hv => by
    unfold visGo
    by_cases e : sp.lv = i
    · rw [if_pos ⟨e, by rw [← e]; exact hv⟩, ht]
    · rw [if_neg (fun z => e z.1)]
      exact visGo_none is ht (by rcases List.mem_cons.mp h with q | q; exact absurd q e; exact q) hv
/-- fired at the first visit -/
theorem fin_first (ok : WOk W) {start delay : Int} {sp : Spot} (hp : placeM W B start delay = some sp) (hk : sp.lv = 0 ∨ B.fire = true) : fin W B start delay = (va (lv W sp.lv) sp.pt start, 0) := by
  have hl := placeM_lt ok hp
  have hall := ok.all _ hl
  have ht : taken W B sp (va (lv W sp.lv) sp.pt start) = none := by unfold taken; rw [if_pos hk]
  have hv : visited W B sp (va (lv W sp.lv) sp.pt start - 1) (va (lv W sp.lv) sp.pt start) = [none] := visGo_none _ ht (mem_order.mpr hl) (va_vis (by omega) (by omega) _ _)
  have hf : fol W B none 1 sp start 0 = some (none, va (lv W sp.lv) sp.pt start, 0) := by
    unfold fol
    dsimp only
    rw [show over none (va (lv W sp.lv) sp.pt start) = false from rfl, if_neg Bool.false_ne_true, hv]
    rfl
  rw [fin_some hp ok hl hf]
theorem placeM_far (ok : WOk W) {start delay : Int} (h : reach W ≤ delay) : placeM W B start delay = if B.bey = 2 then some (spotAt W B start (reach W - 1) (start + (reach W - 1))) else some ⟨W.length - 1, rnd B.up (start + reach W - 1) (lv W (W.length - 1)).g, start + delay⟩ := by
  have hre : 2 ≤ reach W := (ok.all (W.length - 1) (by have := ok.pos; omega)).2.2.2.2
  unfold placeM
  rw [if_neg (fun z => by have := z.1; omega)]
  dsimp only
  rw [if_neg (show ¬ (1 : Int) > delay by omega)]
  by_cases hb : B.bey = 2
  · rw [if_pos ⟨h, hb⟩, if_pos hb]
  · rw [if_neg (fun z => hb z.2), if_neg hb, spotAt_far ok h]
/-- cut, or fired at once: the delay beyond the range does not matter -/
theorem fin_same (ok : WOk W) {start d d' : Int} (h : reach W ≤ d) (h' : reach W ≤ d') (hk : B.bey = 2 ∨ B.fire = true ∨ W.length = 1) : fin W B start d = fin W B start d' := by
  by_cases hb : B.bey = 2
  · unfold fin
    rw [placeM_far ok h, placeM_far ok h', if_pos hb, if_pos hb]
  · have p1 := placeM_far (B := B) ok (start := start) h
    have p2 := placeM_far (B := B) ok (start := start) h'
    rw [if_neg hb] at p1 p2
    have hk' : (W.length - 1 = 0) ∨ B.fire = true := by
      rcases hk with z | z | z
      · exact absurd z hb
      · exact .inr z
      · exact .inl (by omega)
    rw [fin_first ok p1 hk', fin_first ok p2 hk']
/-- moved: so many visits more -/
theorem fin_more (ok : WOk W) {start d : Int} (many : Nat) (hf : B.fire = false) (h1 : 1 < W.length) (hb : B.bey ≠ 2) (hd : reach W + (lv W (W.length - 1)).g * (lv W (W.length - 1)).s ≤ d) :
    fin W B start (d + stepM W B * many) = ((fin W B start d).1 + stepM W B * many, (fin W B start d).2 + many) := by
  have hall := ok.all (W.length - 1) (by omega)
  have hgs0 : 1 * 1 ≤ (lv W (W.length - 1)).g * (lv W (W.length - 1)).s := Int.mul_le_mul (by omega) (by omega) (by omega) (by omega)
  obtain ⟨st1, st2, st3⟩ := stepM_pos (B := B) ok
  have hD0 : 0 ≤ stepM W B * many := Int.mul_nonneg (by omega) (by omega)
  have hre : 2 ≤ reach W := hall.2.2.2.2
  have p1 := placeM_far (B := B) ok (start := start) (delay := d) (by omega)
  have p2 := placeM_far (B := B) ok (start := start) (delay := d + stepM W B * many) (by omega)
  rw [if_neg hb] at p1 p2
  have l1 := placeM_lt ok p1
  have l2 := placeM_lt ok p2
  rw [← wfin_fin ok B (by omega), ← wfin_fin ok B (by omega)]
  have key : ∀ {d' : Int} {sp : Spot}, placeM W B start d' = some sp → ∀ {n r}, wl W B none n sp start 0 = some r → wfin W B start d' = r.2 := fun {d' sp} hp {n r} hw => by
    unfold wfin
    rw [hp]
    obtain ⟨r', hr'⟩ := wl_ends ok B none (mu sp start) sp start 0 (placeM_lt ok hp) (Nat.le_refl _)
    dsimp only
    rw [hr', wl_eq hr' hw]
  -- the first visit
  generalize ht : va (lv W (W.length - 1)) (rnd B.up (start + reach W - 1) (lv W (W.length - 1)).g) start = t
  have hgt : start < t ∧ t ≤ start + (lv W (W.length - 1)).g * (lv W (W.length - 1)).s := by
    rw [← ht, Int.mul_comm (lv W (W.length - 1)).g]
    exact ⟨va_gt (by omega) (by omega) _ _, va_most (by omega) (by omega) _ _⟩
  have hg : (lv W (W.length - 1)).g ∣ t := by rw [← ht]; exact Int.dvd_mul_left _ _
  have first : ∀ {d' : Int} (n : Nat), d ≤ d' → wl W B none (n + 1) ⟨W.length - 1, rnd B.up (start + reach W - 1) (lv W (W.length - 1)).g, start + d'⟩ start 0 = wl W B none n (spotAt W B t (start + d' - t) (start + d')) t 1 := fun {d'} n hd' => by
    have hv := visit_far ok hf (sp := ⟨W.length - 1, rnd B.up (start + reach W - 1) (lv W (W.length - 1)).g, start + d'⟩) h1 rfl (t := t) (by rw [← ht]; exact va_vis (l := lv W (W.length - 1)) (by omega) (by omega) _ _) (by show reach W ≤ start + d' - t; omega)
    conv => lhs; unfold wl
    dsimp only
    rw [ht, show over none t = false from rfl, if_neg Bool.false_ne_true, hv]
    rfl
  -- near, from the first visit on
  have hprop := spotAt_proper (B := B) ok t (start + d)
  have hsl := spotAt_lt ok B t (start + d - t) (start + d)
  obtain ⟨r, hr⟩ := fol_ends ok B none _ (spotAt W B t (start + d - t) (start + d)) t 1 hsl (Nat.le_refl _)
  obtain ⟨m, hm⟩ := fol_wl ok _ hprop hsl hr
  have hnear := key p1 (n := m + 1) (by rw [first m (Int.le_refl _)]; exact hm)
  -- far
  have hDv : Dv W (W.length - 1) (stepM W B * many) := by
    obtain ⟨z, hz⟩ := st3
    rw [hz, Int.mul_assoc]
    exact dv_of ok (by omega) _
  have hix : TwM.levelIx W (start + d - t) ≤ W.length - 1 := by have := levelIx_lt ok (start + d - t); omega
  have hsh := fol_shift (B := B) ok hDv (mu (spotAt W B t (start + d - t) (start + d)) t) (sp := spotAt W B t (start + d - t) (start + d)) (tick := t) (mv := 1) (by rw [spotAt_lv]; exact hix) hsl (by rw [spotAt_due]; exact hix)
  rw [hr, ← spotAt_shift ok hDv hix] at hsh
  have e1 : start + d - t = start + d + stepM W B * many - (t + stepM W B * many) := by omega
  have hprop2 : Proper W (spotAt W B (t + stepM W B * many) (start + d - t) (start + d + stepM W B * many)) (t + stepM W B * many) := by rw [e1]; exact spotAt_proper ok _ _
  obtain ⟨m2, hm2⟩ := fol_wl ok _ hprop2 (spotAt_lt ok _ _ _ _) hsh
  have hva : va (lv W (W.length - 1)) (spotAt W B t (start + (d + stepM W B * many) - t) (start + (d + stepM W B * many))).pt t = t + stepM W B := by
    rw [spotAt_far ok (by omega)]
    exact stepM_va ok hg
  have hcm : (many : Int) * stepM W B = stepM W B * many := Int.mul_comm _ _
  have hfar := wl_far (lim := none) ok hf h1 (due := start + (d + stepM W B * many)) (step := stepM W B) many (t := t) (mv := 1) m2 hg (by omega) hva (by omega) (fun l z => by cases z)
  rw [hcm] at hfar
  have e2 : start + (d + stepM W B * many) - (t + stepM W B * many) = start + d - t := by omega
  have e3 : start + (d + stepM W B * many) = start + d + stepM W B * many := by omega
  have hm3 := wl_mv _ (c := (many : Int)) hm2
  rw [e2] at hfar
  have hfin := key p2 (n := m2 + many + 1) (r := ((shR W (stepM W B * many) r).1, (shR W (stepM W B * many) r).2.1, (shR W (stepM W B * many) r).2.2 + many)) (by
    rw [first _ (by omega), hfar, e3]
    exact hm3)
  rw [hfin, hnear]
  rfl
/-- what waits behind a lump that ends ahead of the range -/
theorem wl_stays (ok : WOk W) (hf : B.fire = false) (h1 : 1 < W.length) {l : Int} : ∀ (n : Nat) {sp : Spot} {tick mv : Int} {r : Res}, sp.lv = W.length - 1 → reach W ≤ sp.due - l → wl W B (some l) n sp tick mv = some r → ∃ sp', r.1 = some sp' ∧ sp'.lv = W.length - 1 ∧ sp'.due = sp.due
  | 0, _, _, _, _, _, _, h => by cases h
  | n + 1, sp, tick, mv, r, hl, hr, h => by
    have hall := ok.all (W.length - 1) (by omega)
    unfold wl at h
    dsimp only at h
    split at h
    · cases h
      exact ⟨sp, rfl, hl, rfl⟩
    · rename_i ho
      have hle : va (lv W sp.lv) sp.pt tick ≤ l := by
        rcases Int.lt_or_le l (va (lv W sp.lv) sp.pt tick) with z | z
        · exact absurd (decide_eq_true z) ho
        · exact z
      have hv := visit_far ok hf h1 hl (t := va (lv W sp.lv) sp.pt tick) (va_vis (by rw [hl]; omega) (by rw [hl]; omega) _ _) (by omega)
      rw [hv] at h
      have := wl_stays ok hf h1 n (sp := spotAt W B (va (lv W sp.lv) sp.pt tick) (sp.due - va (lv W sp.lv) sp.pt tick) sp.due) (by rw [spotAt_far ok (by omega)]) (by rw [spotAt_due]; exact hr) h
      rwa [spotAt_due] at this
end
end Tw
/-! Tw: walks that are cut and go on -/
namespace Tw
open TwM
section
variable {W : List Lv} {B : Bk} {lim : Option Int}
theorem va_keep {l : Lv} (hg : 0 < l.g) (hs : 0 < l.s) {pt a b : Int} (h1 : a ≤ b) (h2 : b < va l pt a) : va l pt b = va l pt a := by
  have d := va_dvd (l := l) hs pt a
  have c := va_most (l := l) hg hs pt a
  have e : b + (va l pt a - b) = va l pt a := by omega
  have := va_uniq (l := l) hg hs (pt := pt) (tick := b) (k := va l pt a - b) (by omega) (by rw [Int.mul_comm l.g]; omega) (by rw [e]; exact d)
  omega
/-- two results of a walk that tell the same -/
def Alike (r r' : Res) : Prop := r.1 = r'.1 ∧ r.2.2 = r'.2.2 ∧ (r.1 = none → r.2.1 = r'.2.1)
theorem Alike.refl (r : Res) : Alike r r := ⟨rfl, rfl, fun _ => rfl⟩
/-- where a walk begins does not matter ahead of the next visit -/
theorem wl_from (ok : WOk W) {n : Nat} {sp : Spot} {a b mv : Int} {r : Res} (hl : sp.lv < W.length) (h1 : a ≤ b) (h2 : b < va (lv W sp.lv) sp.pt a) (h : wl W B lim n sp b mv = some r) : ∃ r', wl W B lim n sp a mv = some r' ∧ Alike r r' := by
  have hall := ok.all _ hl
  cases n with
  | zero => cases h
  | succ n =>
    have e := va_keep (l := lv W sp.lv) (by omega) (by omega) h1 h2
    unfold wl at h ⊢
    dsimp only at h ⊢
    rw [e] at h
    split at h
    · rename_i ho
      rw [if_pos ho]
      cases h
      exact ⟨_, rfl, ⟨rfl, rfl, fun z => by have z : (some sp : Option Spot) = none := z; cases z⟩⟩
    · rename_i ho
      rw [if_neg ho]
      exact ⟨r, h, Alike.refl r⟩
/-- a walk to b, then on -/
theorem wl_cut (ok : WOk W) {b : Int} (hb : ∀ c, lim = some c → b ≤ c) : ∀ (n : Nat) {sp : Spot} {a mv : Int} {r : Res}, sp.lv < W.length → a ≤ b → wl W B (some b) n sp a mv = some r →
    (r.1 = none → wl W B lim n sp a mv = some r) ∧ ∀ sp', r.1 = some sp' → sp'.lv < W.length ∧ ∀ m r2, wl W B lim m sp' b r.2.2 = some r2 → ∃ m' r3, wl W B lim m' sp a mv = some r3 ∧ Alike r2 r3
  | 0, _, _, _, _, _, _, h => by cases h
  | n + 1, sp, a, mv, r, hl, hab, h => by
    have hgt := va_step ok hl sp.pt a
    unfold wl at h
    dsimp only at h
    split at h
    · rename_i ho
      cases h
      refine ⟨fun z => (by cases z), fun sp' z => ?_⟩
      cases z
      refine ⟨hl, fun m r2 h2 => ?_⟩
      obtain ⟨r3, h3, h4⟩ := wl_from ok hl hab (of_decide_eq_true ho) h2
      exact ⟨m, r3, h3, h4⟩
    · rename_i ho
      have hle : va (lv W sp.lv) sp.pt a ≤ b := by
        rcases Int.lt_or_le b (va (lv W sp.lv) sp.pt a) with z | z
        · exact absurd (decide_eq_true z) ho
        · exact z
      have ho2 : over lim (va (lv W sp.lv) sp.pt a) = false := by
        cases hlim : lim with
        | none => rfl
        | some c =>
          have := hb c hlim
          exact decide_eq_false (by omega)
      cases hq : (visited W B sp (va (lv W sp.lv) sp.pt a - 1) (va (lv W sp.lv) sp.pt a)).getLast? with
      | none => rw [hq] at h; cases h
      | some o =>
        rw [hq] at h
        cases o with
        | none =>
          cases h
          refine ⟨fun _ => ?_, fun sp' z => (by cases z)⟩
          unfold wl
          dsimp only
          rw [ho2, if_neg Bool.false_ne_true, hq]
        | some sp1 =>
          dsimp only at h
          obtain ⟨c1, c2⟩ := visGo_last ok _ hq
          obtain ⟨g1, g2⟩ := wl_cut ok hb n c1 hle h
          have step : ∀ {m r3}, wl W B lim m sp1 (va (lv W sp.lv) sp.pt a) (mv + (visited W B sp (va (lv W sp.lv) sp.pt a - 1) (va (lv W sp.lv) sp.pt a)).length) = some r3 → wl W B lim (m + 1) sp a mv = some r3 := fun {m r3} z => by
            unfold wl
            dsimp only
            rw [ho2, if_neg Bool.false_ne_true, hq]
            exact z
          refine ⟨fun z => step (g1 z), fun sp' z => ?_⟩
          obtain ⟨k1, k2⟩ := g2 sp' z
          refine ⟨k1, fun m r2 h2 => ?_⟩
          obtain ⟨m', r3, h3, h4⟩ := k2 m r2 h2
          exact ⟨m' + 1, r3, step h3, h4⟩
/-- what a timer is after ticks in turn, walked without leaps -/
def aft (W : List Lv) (B : Bk) (sp : Spot) (a b : Int) : Option Spot := match wl W B (some b) (mu sp a) sp a 0 with
  | some r => r.1
  | none => none
theorem aft_of (ok : WOk W) {sp : Spot} {a b mv : Int} {n : Nat} {r : Res} (hl : sp.lv < W.length) (h : wl W B (some b) n sp a mv = some r) : aft W B sp a b = r.1 := by
  unfold aft
  obtain ⟨r', h'⟩ := wl_ends ok B (some b) (mu sp a) sp a 0 hl (Nat.le_refl _)
  rw [h']
  have := wl_mv _ (c := mv) h'
  rw [Int.zero_add] at this
  have e := wl_eq this h
  rw [← e]
theorem passM_each (ok : WOk W) {sp : Spot} {a b : Int} (hl : sp.lv < W.length) (hp : Proper W sp a) : passM W B sp a b "each" = aft W B sp a b := by
  unfold passM
  rw [if_pos rfl]
  obtain ⟨r, hr⟩ := fol_ends ok B (some b) (mu sp a) sp a 0 hl (Nat.le_refl _)
  obtain ⟨m, hm⟩ := fol_wl ok _ hp hl hr
  rw [hr, aft_of ok hl hm]
/-- in one lump or in several -/
theorem aft_comp (ok : WOk W) {sp : Spot} {a b c : Int} (hl : sp.lv < W.length) (h1 : a ≤ b) (h2 : b ≤ c) : aft W B sp a c = match aft W B sp a b with
    | none => none
    | some sp' => aft W B sp' b c := by
  obtain ⟨r, hr⟩ := wl_ends ok B (some b) (mu sp a) sp a 0 hl (Nat.le_refl _)
  obtain ⟨g1, g2⟩ := wl_cut (lim := some c) ok (fun c' z => by cases z; exact h2) _ hl h1 hr
  rw [aft_of ok hl hr]
  cases hr1 : r.1 with
  | none => rw [aft_of ok hl (g1 hr1), hr1]
  | some sp' =>
    obtain ⟨k1, k2⟩ := g2 sp' hr1
    obtain ⟨r2, hr2⟩ := wl_ends ok B (some c) (mu sp' b) sp' b r.2.2 k1 (Nat.le_refl _)
    obtain ⟨m', r3, h3, h4⟩ := k2 _ _ hr2
    rw [aft_of ok hl h3, ← h4.1]
    exact (aft_of ok k1 hr2).symm
theorem aft_lt (ok : WOk W) {sp sp' : Spot} {a b : Int} (hl : sp.lv < W.length) (h : aft W B sp a b = some sp') (h1 : a ≤ b) : sp'.lv < W.length := by
  obtain ⟨r, hr⟩ := wl_ends ok B (some b) (mu sp a) sp a 0 hl (Nat.le_refl _)
  obtain ⟨g1, g2⟩ := wl_cut (lim := some b) ok (fun c' z => by cases z; exact Int.le_refl _) _ hl h1 hr
  rw [aft_of ok hl hr] at h
  exact (g2 sp' h).1
/-- fired by a lump just if it ends at or behind the tick of firing -/
theorem aft_fire (ok : WOk W) {sp : Spot} {a b : Int} {n : Nat} {r : Res} (hl : sp.lv < W.length) (h1 : a ≤ b) (h : wl W B none n sp a 0 = some r) : (aft W B sp a b = none ↔ r.2.1 ≤ b) ∧ r.1 = none ∧ a < r.2.1 := by
  have hnone : ∀ (n : Nat) {sp : Spot} {a mv : Int} {r : Res}, sp.lv < W.length → wl W B none n sp a mv = some r → r.1 = none ∧ a < r.2.1 := by
    intro n
    induction n with
    | zero => intro sp a mv r _ h; cases h
    | succ n ih =>
      intro sp a mv r hl h
      have hgt := va_step ok hl sp.pt a
      unfold wl at h
      dsimp only at h
      rw [show over none (va (lv W sp.lv) sp.pt a) = false from rfl, if_neg Bool.false_ne_true] at h
      split at h
      · cases h
      · cases h
        exact ⟨rfl, hgt.1⟩
      · rename_i hq
        obtain ⟨c1, c2⟩ := visGo_last ok _ hq
        have := ih c1 h
        exact ⟨this.1, by omega⟩
  have hbnd : ∀ (n : Nat) {sp : Spot} {a mv : Int} {r : Res}, sp.lv < W.length → a ≤ b → wl W B (some b) n sp a mv = some r → r.2.1 ≤ b := by
    intro n
    induction n with
    | zero => intro sp a mv r _ _ h; cases h
    | succ n ih =>
      intro sp a mv r hl hab h
      unfold wl at h
      dsimp only at h
      split at h
      · cases h; exact hab
      · rename_i ho
        have hle : va (lv W sp.lv) sp.pt a ≤ b := by
          rcases Int.lt_or_le b (va (lv W sp.lv) sp.pt a) with z | z
          · exact absurd (decide_eq_true z) ho
          · exact z
        split at h
        · cases h
        · cases h; exact hle
        · rename_i hq
          obtain ⟨c1, c2⟩ := visGo_last ok _ hq
          exact ih c1 hle h
  obtain ⟨z1, z2⟩ := hnone n hl h
  refine ⟨?_, z1, z2⟩
  obtain ⟨r', hr'⟩ := wl_ends ok B (some b) (mu sp a) sp a 0 hl (Nat.le_refl _)
  obtain ⟨g1, g2⟩ := wl_cut (lim := none) ok (fun c z => by cases z) _ hl h1 hr'
  rw [aft_of ok hl hr']
  cases hr1 : r'.1 with
  | none =>
    have := wl_eq (g1 hr1) h
    rw [← this]
    exact ⟨fun _ => hbnd _ hl h1 hr', fun _ => rfl⟩
  | some sp' =>
    obtain ⟨k1, k2⟩ := g2 sp' hr1
    obtain ⟨r2, hr2⟩ := wl_ends ok B none (mu sp' b) sp' b r'.2.2 k1 (Nat.le_refl _)
    obtain ⟨m', r3, h3, h4⟩ := k2 _ _ hr2
    have e := wl_eq h3 h
    obtain ⟨y1, y2⟩ := hnone _ k1 hr2
    have := h4.2.2 y1
    rw [e] at this
    exact ⟨fun z => (by cases z), fun z => by omega⟩
/-- what a walk with a limit leaves behind, step by step: a property of spots and ticks that every visit hands on -/
theorem aft_ind (ok : WOk W) {b : Int} {P : Spot → Int → Prop} (hv : ∀ sp t sp', P sp t → t ≤ b → (visited W B sp (t - 1) t).getLast? = some (some sp') → P sp' t) (hm : ∀ sp t t', P sp t → t ≤ t' → t' ≤ b → P sp t') :
    ∀ (n : Nat) {sp : Spot} {a mv : Int} {r : Res} {sp' : Spot}, sp.lv < W.length → a ≤ b → P sp a → wl W B (some b) n sp a mv = some r → r.1 = some sp' → P sp' b
  | 0, _, _, _, _, _, _, _, _, h, _ => by cases h
  | n + 1, sp, a, mv, r, sp', hl, hab, hp, h, hr => by
    have hgt := va_step ok hl sp.pt a
    unfold wl at h
    dsimp only at h
    split at h
    · cases h
      cases hr
      exact hm _ _ _ hp hab (Int.le_refl _)
    · rename_i ho
      have hle : va (lv W sp.lv) sp.pt a ≤ b := by
        rcases Int.lt_or_le b (va (lv W sp.lv) sp.pt a) with z | z
        · exact absurd (decide_eq_true z) ho
        · exact z
      split at h
      · cases h
      · cases h; cases hr
      · rename_i hq
        obtain ⟨c1, c2⟩ := visGo_last ok _ hq
        exact aft_ind ok hv hm n c1 hle (hv _ _ _ (hm _ _ _ hp (by omega) hle) hle hq) h hr
theorem aft_P (ok : WOk W) {a b : Int} {P : Spot → Int → Prop} (hv : ∀ sp t sp', P sp t → t ≤ b → (visited W B sp (t - 1) t).getLast? = some (some sp') → P sp' t) (hm : ∀ sp t t', P sp t → t ≤ t' → t' ≤ b → P sp t') {sp sp' : Spot} (hl : sp.lv < W.length) (hab : a ≤ b) (hp : P sp a) (h : aft W B sp a b = some sp') : P sp' b := by
  obtain ⟨r, hr⟩ := wl_ends ok B (some b) (mu sp a) sp a 0 hl (Nat.le_refl _)
  rw [aft_of ok hl hr] at h
  exact aft_ind ok hv hm _ hl hab hp hr h
theorem aft_proper (ok : WOk W) {a b : Int} {sp sp' : Spot} (hl : sp.lv < W.length) (hab : a ≤ b) (hp : Proper W sp a) (h : aft W B sp a b = some sp') : Proper W sp' b := by
  refine aft_P ok (P := Proper W) (fun sp t sp' hp _ hq => ?_) (fun sp t t' hp h1 _ => fun z => hp (by omega)) hl hab hp h
  obtain ⟨c1, c2, c3, c4⟩ := visGo_last ok _ hq
  intro z
  have hre : 2 ≤ reach W := (ok.all (W.length - 1) (by have := ok.pos; omega)).2.2.2.2
  rcases c4 with ⟨d1, d2⟩ | ⟨d1, d2⟩
  · rw [c2] at z
    rw [d2, spotAt_far ok z]
  · omega
/-- bounds of what a spot holds -/
structure SpB (N : Int) (sp : Spot) : Prop where
  p0 : 0 ≤ sp.pt
  p1 : sp.pt ≤ N
  d0 : 0 ≤ sp.due
  d1 : sp.due ≤ N
theorem rnd_bound {up : Bool} {t g : Int} (hg : 1 ≤ g) (ht : 0 ≤ t) : 0 ≤ rnd up t g ∧ rnd up t g ≤ t := by
  unfold rnd
  split
  · have h1 : (-t) / g ≤ 0 := by
      have : (-t) / g < 1 := Int.ediv_lt_of_lt_mul (by omega) (by omega)
      omega
    have h2 : -t ≤ (-t) / g := Int.le_ediv_of_mul_le (by omega) (by
      have : -t * g ≤ -t * 1 := Int.mul_le_mul_of_nonpos_left (by omega) hg
      omega)
    omega
  · exact ⟨Int.ediv_nonneg ht (by omega), Int.ediv_le_self _ ht⟩
theorem spotAt_bound (ok : WOk W) {now due N : Int} (h0 : 0 ≤ now) (h1 : now ≤ due) (h2 : due ≤ N) (h3 : now + reach W ≤ N) : SpB N (spotAt W B now (due - now) due) := by
  have hre : 2 ≤ reach W := (ok.all (W.length - 1) (by have := ok.pos; omega)).2.2.2.2
  unfold spotAt
  cases hl : levelOf W (due - now) with
  | some i =>
    have hi := levelOf_lt hl
    have hall := ok.all i hi.1
    obtain ⟨b1, b2⟩ := rnd_bound (up := B.up) (t := now + (due - now)) (g := (lv W i).g) (by omega) (by omega)
    exact ⟨b1, by show rnd _ _ _ ≤ N; omega, by show 0 ≤ due; omega, h2⟩
  | none =>
    have hall := ok.all (W.length - 1) (by have := ok.pos; omega)
    obtain ⟨b1, b2⟩ := rnd_bound (up := B.up) (t := now + reach W - 1) (g := (lv W (W.length - 1)).g) (by omega) (by omega)
    exact ⟨b1, by show rnd _ _ _ ≤ N; omega, by show 0 ≤ due; omega, h2⟩
theorem vis_bound (ok : WOk W) {sp sp' : Spot} {bf t N : Int} (h0 : 0 ≤ t) (h3 : t + reach W ≤ N) (hb : SpB N sp) (hq : (visited W B sp bf t).getLast? = some (some sp')) : SpB N sp' := by
  obtain ⟨c1, c2, c3, c4⟩ := visGo_last ok _ hq
  have hre : 2 ≤ reach W := (ok.all (W.length - 1) (by have := ok.pos; omega)).2.2.2.2
  rcases c4 with ⟨d1, d2⟩ | ⟨d1, d2⟩
  · rw [d2]
    exact spotAt_bound ok h0 (by omega) hb.d1 h3
  · rw [d2]
    exact ⟨h0, by show t ≤ N; omega, hb.d0, hb.d1⟩
theorem aft_bound (ok : WOk W) {a b N : Int} {sp sp' : Spot} (hl : sp.lv < W.length) (h0 : 0 ≤ a) (hab : a ≤ b) (hN : b + reach W ≤ N) (hb : SpB N sp) (h : aft W B sp a b = some sp') : SpB N sp' :=
  (aft_P ok (P := fun sp t => SpB N sp ∧ 0 ≤ t) (fun sp t sp' hp h1 hq => ⟨vis_bound ok hp.2 (by omega) hp.1 hq, hp.2⟩) (fun sp t t' hp h1 _ => ⟨hp.1, by omega⟩) hl hab ⟨hb, h0⟩ h).1
theorem TwM_vis {W : List Lv} {B : Bk} {b n : Int} : ∀ (is : List Nat) {sp : Spot}, visGo W B b n is sp ≠ [] → isVis (lv W sp.lv) sp.pt b n = true
  | [], sp, h => absurd rfl h
  | i :: is, sp, h => by
    unfold visGo at h
    split at h
    · rename_i hc
      rw [hc.1]; exact hc.2
    · exact TwM_vis is h
/-- no visit between a tick and the first visit behind it -/
theorem TwM_no {l : Lv} (hg : 0 < l.g) (hs : 0 < l.s) (pt : Int) {a b n : Int} (h1 : a ≤ b) (h2 : n < va l pt a) (h : isVis l pt b n = true) : False := by
  unfold isVis at h
  have h := of_decide_eq_true h
  unfold va at h2
  have m1 : a / l.g ≤ b / l.g := Int.ediv_le_ediv hg h1
  have m2 : n / l.g < a / l.g + 1 + (pt - a / l.g - 1) % l.s := Int.ediv_lt_of_lt_mul hg h2
  have k0 := Int.emod_nonneg (pt - b / l.g - 1) (b := l.s) (by omega)
  have k1 := Int.emod_nonneg (pt - a / l.g - 1) (b := l.s) (by omega)
  have i1 := hit_iff (q := a / l.g + 1) (pt := pt) (s := l.s) (j := b / l.g - a / l.g + (pt - b / l.g - 1) % l.s) hs (by omega)
  have e1 : pt - (a / l.g + 1) = pt - a / l.g - 1 := by omega
  rw [e1] at i1
  have e2 : a / l.g + 1 + (b / l.g - a / l.g + (pt - b / l.g - 1) % l.s) - pt = -((pt - b / l.g - 1) - (pt - b / l.g - 1) % l.s) := by omega
  have e3 : (a / l.g + 1 + (b / l.g - a / l.g + (pt - b / l.g - 1) % l.s) - pt) % l.s = 0 := by
    rw [e2]
    have := Int.mul_ediv_add_emod (pt - b / l.g - 1) l.s
    rw [show (pt - b / l.g - 1) - (pt - b / l.g - 1) % l.s = l.s * ((pt - b / l.g - 1) / l.s) by omega, ← Int.mul_neg]
    exact Int.mul_emod_right _ _
  have := (i1 (by omega)).mp e3
  omega
/-- a lump of one tick -/
theorem aft_one (ok : WOk W) {sp : Spot} {t : Int} (hl : sp.lv < W.length) : aft W B sp (t - 1) t = match (visited W B sp (t - 1) t).getLast? with
    | none => some sp
    | some o => o := by
  have hall := ok.all _ hl
  have hgt := va_step ok hl sp.pt (t - 1)
  obtain ⟨r, hr⟩ := wl_ends ok B (some t) (mu sp (t - 1)) sp (t - 1) 0 hl (Nat.le_refl _)
  have h0 := hr
  rw [aft_of ok hl hr]
  have hmu1 : 1 ≤ mu sp (t - 1) := by unfold mu; split <;> omega
  have hmu : ∃ n, mu sp (t - 1) = n + 1 := ⟨mu sp (t - 1) - 1, by omega⟩
  obtain ⟨n, hn⟩ := hmu
  rw [hn] at hr
  unfold wl at hr
  dsimp only at hr
  by_cases he : va (lv W sp.lv) sp.pt (t - 1) = t
  · rw [he] at hr
    rw [if_neg (by unfold over; simp)] at hr
    cases hq : (visited W B sp (t - 1) t).getLast? with
    | none =>
      have := visited_ne ok (B := B) hl (tick := t - 1)
      rw [he] at this
      exact absurd (List.getLast?_eq_none_iff.mp hq) this
    | some o =>
      rw [hq] at hr
      cases o with
      | none => cases hr; rfl
      | some sp' =>
        dsimp only at hr ⊢
        obtain ⟨c1, c2⟩ := visGo_last ok _ hq
        have hg2 := va_step ok c1 sp'.pt t
        cases n with
        | zero => cases hr
        | succ n =>
          unfold wl at hr
          dsimp only at hr
          rw [if_pos (by unfold over; exact decide_eq_true (by omega))] at hr
          cases hr
          rfl
  · rw [if_pos (by unfold over; exact decide_eq_true (by omega))] at hr
    cases hr
    have hnil : visited W B sp (t - 1) t = [] := by
      apply Classical.byContradiction
      intro hne
      have hvis := TwM_vis (W := W) (B := B) (order W B) hne
      exact TwM_no (by omega) (by omega) sp.pt (a := t - 1) (b := t - 1) (n := t) (Int.le_refl _) (by omega) hvis
    rw [hnil]
    rfl
end
end Tw
/-! Tw: texts of spots and of tuples of numbers -/
namespace Tw
open PySem PySem.Spec PyProof.Rows L2 He TwM StX
open PySem.W (Frag)
section
variable {K : Frag} {H : Hp}
theorem lg {x : Int} (h0 : 0 ≤ x) (h : x ≤ 2 ^ 250) : x.natAbs.log2 < 251 := PySem.Flt.log2_lt_of (k := 251) (by decide) (by
  have e : (2 : Int) ^ 250 = ((2 ^ 250 : Nat) : Int) := by norm_cast
  have : x.natAbs ≤ 2 ^ 250 := by omega
  exact Nat.lt_of_le_of_lt this (by decide +kernel))
theorem shown_ints_all : ∀ l : List Int, (∀ x ∈ l, x.natAbs.log2 < 1920) → PyData.showableAll (l.map PyData.int) = true
  | [], _ => rfl
  | x :: l, h => by
    rw [List.map_cons]
    show (PyData.showable (.int x) && PyData.showableAll (l.map PyData.int)) = true
    rw [shown_ints_all l fun y hy => h y (List.mem_cons_of_mem _ hy), Bool.and_true]
    exact decide_eq_true (h x (List.mem_cons_self ..))
theorem hasDict_ints : ∀ l : List Int, PyData.hasDictAll (l.map PyData.int) = false
  | [] => rfl
  | x :: l => by
    rw [List.map_cons]
    show (PyData.hasDict (.int x) || PyData.hasDictAll (l.map PyData.int)) = false
    rw [hasDict_ints l]
    rfl
theorem piled_ints : ∀ l : List Int, (∀ x ∈ l, x.natAbs.log2 < 1920) → piled (PyData.shownAll (l.map PyData.int)) ≤ 1923 * l.length
  | [], _ => Nat.le_refl _
  | x :: l, h => by
    have ih := piled_ints l fun y hy => h y (List.mem_cons_of_mem _ hy)
    have h1 := int_text_length_le (k := 1920) (by decide) (h x (List.mem_cons_self ..))
    rw [List.map_cons]
    show piled (Str.ofString (toString x) :: PyData.shownAll (l.map PyData.int)) ≤ _
    rw [piled_cons, PySem.ofString_length, List.length_cons]
    omega
/-- repr of a tuple of ints -/
theorem repr_ints {v : V} {l : List Int} {Q : VK} (hd : Dp K H v (.tuple (l.map PyData.int))) (hl : l.length ≤ 8000) (hb : ∀ x ∈ l, x.natAbs.log2 < 1920) (q : Q (.str (PyData.tuple (l.map PyData.int)).shown) H) : rReprG K [v] H Q := by
  refine ⟨v, _, rfl, hd, shown_ints_all l hb, hasDict_ints l, ?_, ?_, q⟩
  · have := depth_ints l
    show PyData.depthAll (l.map PyData.int) + 1 ≤ 16
    omega
  · have h1 := piled_ints l hb
    have h2 := fmt_text (PyData.shownAll (l.map PyData.int))
    have h3 : sizeLine = 16777216 := rfl
    show (tupleText (PyData.shownAll (l.map PyData.int))).length ≤ sizeLine
    omega
/-- repr of a spot, or of None -/
theorem repr_spot {v : V} {o : Option Spot} {Q : VK} (h : OSp H v o) (hb : ∀ sp, o = some sp → SpB (2 ^ 250) sp ∧ sp.lv < 100) (q : Q (.str (dSp o).shown) H) : rReprG K [v] H Q := by
  cases o with
  | none => exact ⟨v, .none, rfl, h.dp, rfl, rfl, Nat.zero_le _, by decide +kernel, q⟩
  | some sp =>
    obtain ⟨b, hl⟩ := hb sp rfl
    refine repr_ints (l := [(sp.lv : Int), sp.pt, sp.due]) h.dp (show 3 ≤ 8000 by decide) (fun x hx => ?_) q
    have b1 := lg b.p0 b.p1
    have b2 := lg b.d0 b.d1
    have b3 := lg (x := (sp.lv : Int)) (by omega) (by
      have : (100 : Int) ≤ 2 ^ 250 := by decide +kernel
      omega)
    simp only [List.mem_cons, List.not_mem_nil, or_false] at hx
    rcases hx with rfl | rfl | rfl <;> omega
end
end Tw
/-! Tw: the law's name of a caught error -/
namespace Tw
open PySem PySem.Spec PyProof.Rows L2 He TwM StX
open PySem.W (Frag)
local macro_rules | `(tactic| walk_at "rsl") => `(tactic| simp only [*, at3_0, at3_1, at3_2, at2_0, at2_1, updS, upd_two, gSub, rSetL, updN, tPar, tPar3, gTup, gCons, gNil, and_assoc, not_true_eq_false, not_false_eq_true, tNever, List.length_map, tFld, rIxTH, rIxLH, rLenTH, rLenLH, lk1, lfs_g, lfs_s, lfs_p, HO.ins.injEq, HO.tup.injEq, HO.lst.injEq, sp_Book_rounding, sp_Book_action, sp_Book_order, sp_Book_due, sp_Book_zero, sp_Book_beyond, Int.toNat_natCast, sp_visit_after, sp_is_visited, sp_Level_grain, sp_Level_slots, sp_Level_span, sp_Wheel_reach, sp_Wheel___len__, sp_is_integer, sp_is_count, sp_is_within, sp_rounded, tAsg, gName, tVar, tC, tOp, rI, rI0, rU, tUn, oAdd, oSub, oMul, oDiv, oMod, oNeg, oLt, oLe, oGt, oGe, oIsN, oNotN, tFn, tCons, tNil, tIfS, tIf, tTest, tB, tNot, tAnd, tOr, tAndV, tOrV, tNotV,
    tRet, tRetN, tNext, tCB, tDrop, tChain, rEq, rNe, oMax2, oMin2, oInt1, rLenF, L2.start, List.map_cons, List.map_nil, List.length_cons, List.length_nil, List.replicate_succ, List.replicate_zero, List.cons_append, List.nil_append, Nat.reduceAdd, Nat.reduceSub, Nat.zero_add,
    List.set_cons_zero, List.set_cons_succ, List.getElem?_cons_zero, List.getElem?_cons_succ, Option.some.injEq, V.int.injEq, V.ref.injEq, V.str.injEq, V.bl.injEq, exists_eq_left', exists_eq_left, exists_and_left, List.cons.injEq, and_true, true_and, decide_eq_true_eq, sc_ii, sc_ss, sc_bb, sc_ni, sc_in, sc_nn, sc_is, reduceCtorEq,
    Bool.not_eq_true', decide_eq_false_iff_not, if_true, if_false, Bool.false_eq_true, exists_eq', exists_const, false_and, and_false, or_false, false_or, exists_false, Bool.not_not, Bool.not_true, Bool.not_false, sUp_up, sFire_fire, sHigh_high, sPut_put, sZone_now, sBey_refuse, sBey_cut, tTup, tLst, sz0, sz1, sz2, sz3, sz4, sz5, sz6])
local macro_rules | `(tactic| walk_at "st") => `(tactic| ((try dsimp only); rw [seq1]; walk_at "rsl"))
section
variable {K : Frag} {w : World}
def erN : List PySem.Str := ["InvalidNumber", "InvalidText", "InvalidName", "InvalidLevels", "InvalidSwitch", "InvalidMode", "InvalidMenu", "InvalidPlan", "InvalidCommand", "TooLong", "TooMany", "NothingToUndo"]
def kdN : List PySem.Str := ["number", "text", "name", "levels", "switch", "mode", "menu", "plan", "command", "long", "many", "undo"]
/-- the class at D is the i-th own error -/
structure KnF (K : Frag) (D : Addr) (i : Nat) : Prop where
  exc : ExcC K D
  lt : i < 12
  is : ∀ (j : Nat) (x : PySem.Str), erN[j]? = some x → PySem.W.kitOne K (.ref D) (.ref (ga K x)) = some (decide (j = i))
  wh : PySem.W.kitOne K (.ref D) (.ref (ga K "WheelError")) = some (decide (i < 9))
def bExc (K : Frag) (D : Addr) : Bool := decide (PySem.W.findIn K (.ref D) "__getattribute__" = some (some (.builtin "BaseException.__getattribute__"))) && (decide (PySem.W.findIn K (.ref D) "__getattr__" = some none) && (decide (PySem.W.subIn K (.ref D) (.type "BaseException") = some true) && (PySem.W.hasDictIn K D &&
  (decide (PySem.W.findIn K (.ref D) "__class__" = some (some (.builtin "object.__class__"))) && (decide (PySem.W.specialIn K (.builtin "object.__class__") "__get__" = some (some (.builtin "getset_descriptor.__get__"))) && (decide (PySem.W.takesIn K (.builtin "object.__class__") = some true) && decide (PySem.W.mroIn K D (.type "object") = some true)))))))
theorem exc_ok {K : Frag} {D : Addr} (h : bExc K D = true) : ExcC K D := by
  unfold bExc at h
  simp only [Bool.and_eq_true, decide_eq_true_eq] at h
  obtain ⟨h1, h2, h3, h4, h5, h6, h7, h8⟩ := h
  exact ⟨h1, h2, h3, h4, h5, h6, h7, h8⟩
/-- the class at the global name x is the i-th own error -/
def bKn (x : PySem.Str) (i : Nat) (K : Frag) : Bool := bExc K (ga K x) && (decide (i < 9) && (((List.range 12).all fun j => decide (PySem.W.kitOne K (.ref (ga K x)) (.ref (ga K (erN.getD j ""))) = some (decide (j = i)))) &&
  (decide (PySem.W.kitOne K (.ref (ga K x)) (.ref (ga K "WheelError")) = some true) && decide (PySem.W.exmOne K (.ref (ga K x)) (.ref (ga K "WheelError")) = some true))))
theorem kn_ok {K : Frag} {x : PySem.Str} {i : Nat} (h : bKn x i K = true) : KnF K (ga K x) i ∧ PySem.W.exmOne K (.ref (ga K x)) (.ref (ga K "WheelError")) = some true := by
  unfold bKn at h
  simp only [Bool.and_eq_true, decide_eq_true_eq] at h
  obtain ⟨h1, h2, h3, h4, h5⟩ := h
  refine ⟨⟨exc_ok h1, by omega, fun j y hy => ?_, by rw [decide_eq_true h2]; exact h4⟩, h5⟩
  have hj : j < 12 := (List.getElem?_eq_some_iff.mp hy).1
  have z := List.all_eq_true.mp h3 j (List.mem_range.mpr hj)
  rw [List.getD_eq_getElem?_getD, hy] at z
  exact of_decide_eq_true z
def sp__law_kind (K : Frag) (p : Addr × Obj) : Sp := fun vs H Q _ => ∃ (D dd : Addr) (fs : List (PySem.Str × V)) (i : Nat), vs = [.ref p.1] ∧ KnF K D i ∧ Zc (.ref D) (some dd) p.2 ∧ (∃ vs, p.2.data = .fields vs) ∧ H dd = some (.xd fs) ∧ ∀ H', Same H H' → Q (.str (kdN.getD i "")) H'
def n__law_kind : List PySem.Str := ["_law_error", "_law_kinds", "_law_names"]
def t__law_kind (K : Frag) (p : Addr × Obj) : TS :=
  (tSeq (tAsg (tLst (tCons (tCB (rIsP K p) (tCons (tVar 0) (tCons (tC (.ref (ga K "InvalidNumber"))) tNil))) (tCons (tCB (rIsP K p) (tCons (tVar 0) (tCons (tC (.ref (ga K "InvalidText"))) tNil))) (tCons (tCB (rIsP K p) (tCons (tVar 0) (tCons (tC (.ref (ga K "InvalidName"))) tNil))) tNil)))) (gName 1))
  (tSeq (tAsg (tOp rCat (tVar 1) (tLst (tCons (tCB (rIsP K p) (tCons (tVar 0) (tCons (tC (.ref (ga K "InvalidLevels"))) tNil))) (tCons (tCB (rIsP K p) (tCons (tVar 0) (tCons (tC (.ref (ga K "InvalidSwitch"))) tNil))) tNil)))) (gName 1))
  (tSeq (tAsg (tOp rCat (tVar 1) (tLst (tCons (tCB (rIsP K p) (tCons (tVar 0) (tCons (tC (.ref (ga K "InvalidMode"))) tNil))) (tCons (tCB (rIsP K p) (tCons (tVar 0) (tCons (tC (.ref (ga K "InvalidMenu"))) tNil))) (tCons (tCB (rIsP K p) (tCons (tVar 0) (tCons (tC (.ref (ga K "InvalidPlan"))) tNil))) tNil))))) (gName 1))
  (tSeq (tAsg (tOp rCat (tVar 1) (tLst (tCons (tCB (rIsP K p) (tCons (tVar 0) (tCons (tC (.ref (ga K "InvalidCommand"))) tNil))) (tCons (tCB (rIsP K p) (tCons (tVar 0) (tCons (tC (.ref (ga K "TooLong"))) tNil))) (tCons (tCB (rIsP K p) (tCons (tVar 0) (tCons (tC (.ref (ga K "TooMany"))) tNil))) tNil))))) (gName 1))
  (tSeq (tAsg (tOp rCat (tVar 1) (tLst (tCons (tCB (rIsP K p) (tCons (tVar 0) (tCons (tC (.ref (ga K "NothingToUndo"))) tNil))) tNil))) (gName 1))
  (tSeq (tIfS (tOr (tTest (tOp rNe (tBM K "list" (rCntF K) (tVar 1) (tCons (tC (.bl true)) tNil)) (tC (.int 1)))) (tTest (tOp rNe (tCB (rIsP K p) (tCons (tVar 0) (tCons (tC (.ref (ga K "WheelError"))) tNil))) (tOp oLt (tBM K "list" (rIndex K) (tVar 1) (tCons (tC (.bl true)) tNil)) (tC (.int 9)))))) (tRet (tC (.str "odd"))) tNext)
  (tSeq (tAsg (tLst (tCons (tC (.str "number")) (tCons (tC (.str "text")) (tCons (tC (.str "name")) (tCons (tC (.str "levels")) (tCons (tC (.str "switch")) (tCons (tC (.str "mode")) (tCons (tC (.str "menu")) (tCons (tC (.str "plan")) (tCons (tC (.str "command")) (tCons (tC (.str "long")) (tCons (tC (.str "many")) (tCons (tC (.str "undo")) tNil))))))))))))) (gName 2))
  (tRet (tOp rIxLH (tVar 2) (tBM K "list" (rIndex K) (tVar 1) (tCons (tC (.bl true)) tNil)))))))))))
theorem rd__law_kind {p : Addr × Obj} (vs : List V) (H : Hp) (Q : VK) (E : XK) (h : sp__law_kind K p vs H Q E) : t__law_kind K p { nx := fun _ H' => Q .non H', rt := Q } (L2.start n__law_kind vs) H := by
  obtain ⟨D, dd, fs, i, rfl, F, hz, hv, hd, q⟩ := h
  have isP : ∀ (j : Nat) {x : PySem.Str} {H' : Hp} {Q' : VK}, Same H H' → erN[j]? = some x → Q' (.bl (decide (j = i))) H' → rIsP K p [.ref p.1, .ref (ga K x)] H' Q' := fun j {x H' Q'} s e q' => ⟨D, _, _, _, dd, fs, F.exc, rfl, hz, hv, s _ _ hd, fun u r => r, F.is j x e, q'⟩
  have isW : ∀ {H' : Hp} {Q' : VK}, Same H H' → Q' (.bl (decide (i < 9))) H' → rIsP K p [.ref p.1, .ref (ga K "WheelError")] H' Q' := fun {H' Q'} s q' => ⟨D, _, _, _, dd, fs, F.exc, rfl, hz, hv, s _ _ hd, fun u r => r, F.wh, q'⟩
  unfold t__law_kind n__law_kind
  rw [seq1]
  walk_at "rsl"
  refine isP 0 (Same.refl _) rfl (isP 1 (Same.refl _) rfl (isP 2 (Same.refl _) rfl fun A hA => ?_))
  have s1 := Same.new (o := .lst [V.bl (decide (0 = i)), V.bl (decide (1 = i)), V.bl (decide (2 = i))]) hA
  have A1 := updS H A (.lst [V.bl (decide (0 = i)), V.bl (decide (1 = i)), V.bl (decide (2 = i))])
  generalize upd H A (.lst [V.bl (decide (0 = i)), V.bl (decide (1 = i)), V.bl (decide (2 = i))]) = H1 at *
  walk_at "st"
  refine isP 3 s1 rfl (isP 4 s1 rfl (fun B hB => ?_))
  refine ⟨A, B, _, _, rfl, rfl, Same.new hB _ _ A1, updS _ _ _, (show 5 ≤ 16777216 by decide), fun C hC => ?_⟩
  have s2 := s1.trans ((Same.new (o := .lst [V.bl (decide (3 = i)), V.bl (decide (4 = i))]) hB).trans (Same.new (o := .lst ([V.bl (decide (0 = i)), V.bl (decide (1 = i)), V.bl (decide (2 = i))] ++ [V.bl (decide (3 = i)), V.bl (decide (4 = i))])) hC))
  have C1 := updS (upd H1 B (.lst [V.bl (decide (3 = i)), V.bl (decide (4 = i))])) C (.lst ([V.bl (decide (0 = i)), V.bl (decide (1 = i)), V.bl (decide (2 = i))] ++ [V.bl (decide (3 = i)), V.bl (decide (4 = i))]))
  generalize upd (upd H1 B (.lst [V.bl (decide (3 = i)), V.bl (decide (4 = i))])) C (.lst ([V.bl (decide (0 = i)), V.bl (decide (1 = i)), V.bl (decide (2 = i))] ++ [V.bl (decide (3 = i)), V.bl (decide (4 = i))])) = H2 at *
  simp only [List.cons_append, List.nil_append] at C1
  walk_at "st"
  refine isP 5 s2 rfl (isP 6 s2 rfl (isP 7 s2 rfl (fun B2 hB2 => ?_)))
  refine ⟨C, B2, _, _, rfl, rfl, Same.new hB2 _ _ C1, updS _ _ _, (show 8 ≤ 16777216 by decide), fun C2 hC2 => ?_⟩
  have s3 := s2.trans ((Same.new (o := .lst [V.bl (decide (5 = i)), V.bl (decide (6 = i)), V.bl (decide (7 = i))]) hB2).trans (Same.new (o := .lst ([V.bl (decide (0 = i)), V.bl (decide (1 = i)), V.bl (decide (2 = i)), V.bl (decide (3 = i)), V.bl (decide (4 = i))] ++ [V.bl (decide (5 = i)), V.bl (decide (6 = i)), V.bl (decide (7 = i))])) hC2))
  have C21 := updS (upd H2 B2 (.lst [V.bl (decide (5 = i)), V.bl (decide (6 = i)), V.bl (decide (7 = i))])) C2 (.lst ([V.bl (decide (0 = i)), V.bl (decide (1 = i)), V.bl (decide (2 = i)), V.bl (decide (3 = i)), V.bl (decide (4 = i))] ++ [V.bl (decide (5 = i)), V.bl (decide (6 = i)), V.bl (decide (7 = i))]))
  generalize upd (upd H2 B2 (.lst [V.bl (decide (5 = i)), V.bl (decide (6 = i)), V.bl (decide (7 = i))])) C2 (.lst ([V.bl (decide (0 = i)), V.bl (decide (1 = i)), V.bl (decide (2 = i)), V.bl (decide (3 = i)), V.bl (decide (4 = i))] ++ [V.bl (decide (5 = i)), V.bl (decide (6 = i)), V.bl (decide (7 = i))])) = H3 at *
  simp only [List.cons_append, List.nil_append] at C21
  walk_at "st"
  refine isP 8 s3 rfl (isP 9 s3 rfl (isP 10 s3 rfl (fun B3 hB3 => ?_)))
  refine ⟨C2, B3, _, _, rfl, rfl, Same.new hB3 _ _ C21, updS _ _ _, (show 11 ≤ 16777216 by decide), fun C3 hC3 => ?_⟩
  have s4 := s3.trans ((Same.new (o := .lst [V.bl (decide (8 = i)), V.bl (decide (9 = i)), V.bl (decide (10 = i))]) hB3).trans (Same.new (o := .lst ([V.bl (decide (0 = i)), V.bl (decide (1 = i)), V.bl (decide (2 = i)), V.bl (decide (3 = i)), V.bl (decide (4 = i)), V.bl (decide (5 = i)), V.bl (decide (6 = i)), V.bl (decide (7 = i))] ++ [V.bl (decide (8 = i)), V.bl (decide (9 = i)), V.bl (decide (10 = i))])) hC3))
  have C31 := updS (upd H3 B3 (.lst [V.bl (decide (8 = i)), V.bl (decide (9 = i)), V.bl (decide (10 = i))])) C3 (.lst ([V.bl (decide (0 = i)), V.bl (decide (1 = i)), V.bl (decide (2 = i)), V.bl (decide (3 = i)), V.bl (decide (4 = i)), V.bl (decide (5 = i)), V.bl (decide (6 = i)), V.bl (decide (7 = i))] ++ [V.bl (decide (8 = i)), V.bl (decide (9 = i)), V.bl (decide (10 = i))]))
  generalize upd (upd H3 B3 (.lst [V.bl (decide (8 = i)), V.bl (decide (9 = i)), V.bl (decide (10 = i))])) C3 (.lst ([V.bl (decide (0 = i)), V.bl (decide (1 = i)), V.bl (decide (2 = i)), V.bl (decide (3 = i)), V.bl (decide (4 = i)), V.bl (decide (5 = i)), V.bl (decide (6 = i)), V.bl (decide (7 = i))] ++ [V.bl (decide (8 = i)), V.bl (decide (9 = i)), V.bl (decide (10 = i))])) = H4 at *
  simp only [List.cons_append, List.nil_append] at C31
  walk_at "st"
  refine isP 11 s4 rfl (fun B4 hB4 => ?_)
  refine ⟨C3, B4, _, _, rfl, rfl, Same.new hB4 _ _ C31, updS _ _ _, (show 12 ≤ 16777216 by decide), fun C4 hC4 => ?_⟩
  have s5 := s4.trans ((Same.new (o := .lst [V.bl (decide (11 = i))]) hB4).trans (Same.new (o := .lst ([V.bl (decide (0 = i)), V.bl (decide (1 = i)), V.bl (decide (2 = i)), V.bl (decide (3 = i)), V.bl (decide (4 = i)), V.bl (decide (5 = i)), V.bl (decide (6 = i)), V.bl (decide (7 = i)), V.bl (decide (8 = i)), V.bl (decide (9 = i)), V.bl (decide (10 = i))] ++ [V.bl (decide (11 = i))])) hC4))
  have C41 := updS (upd H4 B4 (.lst [V.bl (decide (11 = i))])) C4 (.lst ([V.bl (decide (0 = i)), V.bl (decide (1 = i)), V.bl (decide (2 = i)), V.bl (decide (3 = i)), V.bl (decide (4 = i)), V.bl (decide (5 = i)), V.bl (decide (6 = i)), V.bl (decide (7 = i)), V.bl (decide (8 = i)), V.bl (decide (9 = i)), V.bl (decide (10 = i))] ++ [V.bl (decide (11 = i))]))
  generalize upd (upd H4 B4 (.lst [V.bl (decide (11 = i))])) C4 (.lst ([V.bl (decide (0 = i)), V.bl (decide (1 = i)), V.bl (decide (2 = i)), V.bl (decide (3 = i)), V.bl (decide (4 = i)), V.bl (decide (5 = i)), V.bl (decide (6 = i)), V.bl (decide (7 = i)), V.bl (decide (8 = i)), V.bl (decide (9 = i)), V.bl (decide (10 = i))] ++ [V.bl (decide (11 = i))])) = H5 at *
  simp only [List.cons_append, List.nil_append] at C41
  have hi := F.lt
  have hi : i = 0 ∨ i = 1 ∨ i = 2 ∨ i = 3 ∨ i = 4 ∨ i = 5 ∨ i = 6 ∨ i = 7 ∨ i = 8 ∨ i = 9 ∨ i = 10 ∨ i = 11 := by omega
  have ix : ∀ {H' : Hp} {Q' : VK}, Same H5 H' → Q' (.int (i : Nat)) H' → rIndex K (.ref C4) [.bl true] H' Q' := fun {H' Q'} s q' => by
    refine ⟨C4, _, .bl true, i, .bl true, rfl, rfl, SqL.of (s _ _ C41), rfl, rfl, ?_, rfl, fun m z hm hz => ?_, q'⟩
    · rcases hi with rfl | rfl | rfl | rfl | rfl | rfl | rfl | rfl | rfl | rfl | rfl | rfl <;> rfl
    · have hb : z = .bl (decide (m = i)) := by
        have hm9 : m = 0 ∨ m = 1 ∨ m = 2 ∨ m = 3 ∨ m = 4 ∨ m = 5 ∨ m = 6 ∨ m = 7 ∨ m = 8 ∨ m = 9 ∨ m = 10 := by omega
        rcases hm9 with rfl | rfl | rfl | rfl | rfl | rfl | rfl | rfl | rfl | rfl | rfl <;> exact (Option.some.inj hz).symm
      rw [hb, decide_eq_false (by omega)]
      rfl
  have ct : ∀ {Q' : VK}, Q' (.int 1) H5 → rCntF K (.ref C4) [.bl true] H5 Q' := fun {Q'} q' => by
    refine ⟨C4, _, .bl true, rfl, rfl, SqL.of C41, rfl, rfl, ?_⟩
    have e : ([V.bl (decide (0 = i)), V.bl (decide (1 = i)), V.bl (decide (2 = i)), V.bl (decide (3 = i)), V.bl (decide (4 = i)), V.bl (decide (5 = i)), V.bl (decide (6 = i)), V.bl (decide (7 = i)), V.bl (decide (8 = i)), V.bl (decide (9 = i)), V.bl (decide (10 = i)), V.bl (decide (11 = i))] : List V).countP (fun z => eqV z (.bl true)) = 1 := by
      rcases hi with rfl | rfl | rfl | rfl | rfl | rfl | rfl | rfl | rfl | rfl | rfl | rfl <;> decide
    rw [e]
    exact q'
  have nm : kdN[i]? = some (kdN.getD i "") := by
    rcases hi with rfl | rfl | rfl | rfl | rfl | rfl | rfl | rfl | rfl | rfl | rfl | rfl <;> rfl
  unfold tBM
  walk_at "st"
  refine ⟨.inl ⟨rfl, _, SqL.of C41⟩, ct ⟨rfl, ?_⟩⟩
  rw [if_neg (fun z => z rfl)]
  refine isW s5 ⟨.inl ⟨rfl, _, SqL.of C41⟩, ix (Same.refl _) ⟨_, rfl, rfl, ?_⟩⟩
  have hlt : decide (((i : Nat) : Int) < 9) = decide (i < 9) := by
    by_cases h9 : i < 9
    · rw [decide_eq_true h9, decide_eq_true (show ((i : Nat) : Int) < 9 by omega)]
    · rw [decide_eq_false h9, decide_eq_false (show ¬ ((i : Nat) : Int) < 9 by omega)]
  rw [hlt, if_neg (fun z => z rfl)]
  walk_at "st"
  have h12 : (12 : Nat) ≤ sizeLine := by decide
  refine ⟨h12, fun L hL => ?_⟩
  have x6 := Same.new (o := .lst [V.str (Str.ofString "number"), V.str (Str.ofString "text"), V.str (Str.ofString "name"), V.str (Str.ofString "levels"), V.str (Str.ofString "switch"), V.str (Str.ofString "mode"), V.str (Str.ofString "menu"), V.str (Str.ofString "plan"), V.str (Str.ofString "command"), V.str (Str.ofString "long"), V.str (Str.ofString "many"), V.str (Str.ofString "undo")]) hL
  refine ⟨.inl ⟨rfl, _, SqL.of (x6 _ _ C41)⟩, ix x6 ⟨_, _, rfl, updS _ _ _, _, ?_, q _ (s5.trans x6)⟩⟩
  rcases hi with rfl | rfl | rfl | rfl | rfl | rfl | rfl | rfl | rfl | rfl | rfl | rfl <;> rfl
end
end Tw
/-! Tw: the law's end where the law makes lambdas (tables of codes) and no repr is under way -/
namespace Tw
open PySem PySem.Spec PyProof.Rows L2 LamX
section
variable {P : Program} {w : World} {K : PySem.W.Frag} {mg mb : Str → Option Value}
/-- a module's builtins, as a law's call meets them -/
def BuiltM (mg : Str → Option Value) (h : Heap) : Prop := ∃ (bm : Addr) (ob : Obj), mg "__builtins__" = some (.ref bm) ∧ bm ≠ builtinsNs ∧ h.get? bm = some ob ∧ ob.cls = .type "module" ∧ ob.dict = some builtinsNs ∧ ob.data = .plain
theorem entryT {s : Shared} {a : Addr} {vs : List Value} {ns : List Int} {cs : List (Addr × Addr)} (KX : K.In s.heap) (hns : s.heap.Ns mainGlobals mg) (hb : s.heap.Ns builtinsNs mb) (hbb : ∀ x : Str, x ≠ "__name__" → mb x = bootBuiltins x) (hlim : s.heap.NoLimit) (hg : s.gens = #[])
    (hT : ∀ p ∈ cs, s.heap.get? p.2 = some { cls := .none, data := .fields #[] }) (nT : ∀ p ∈ cs, K.lookup p.2 = none) (hC : ∀ p ∈ cs, PySem.W.codeHdIn K p.1 p.2 = true) (hbm : BuiltM mg s.heap)
    (ha : s.heap.get? a = some { cls := .type "list", data := .seq vs.toArray }) (hi : IntsAre vs ns) (hl : ns.length ≤ sizeLine) :
    ∃ (H : Hp) (base : Heap), K.In base ∧ base.Ns mainGlobals mg ∧ Env0 P w K mg base callerA [] s H ∧ (∀ b, H b = none ∨ (∃ p ∈ cs, p.2 = b) ∨ ∃ o xs, H b = some (.frz o (.lst xs))) ∧ SqL K H a (ns.map V.int) ∧ (∀ p ∈ cs, H p.2 = some (.tbl #[])) ∧ ∀ p ∈ cs, TabB base mg p.1 p.2 := by
  classical
  have rv := vals_ints hi
  have hlv := hi.length
  have aT : ∀ p ∈ cs, p.2 ≠ a := fun p hp z => by
    have q := hT p hp
    rw [z, ha] at q
    cases q
  have key : ∀ H : Hp, (∀ b, H b ≠ none → b = a ∨ ∃ p ∈ cs, p.2 = b) → (H a ≠ none → K.lookup a = none) → HOk P w H s.heap → K.In (hidT s.heap H) ∧ (hidT s.heap H).Ns mainGlobals mg ∧ Env0 P w K mg (hidT s.heap H) callerA [] s H ∧ ∀ p ∈ cs, TabB (hidT s.heap H) mg p.1 p.2 := by
    intro H h1 h2 hok
    have free : ∀ {b : Addr} {o : Obj}, s.heap.get? b = some o → (∀ x n, o.data ≠ .seq x n) → o.data ≠ .fields #[] → H b = none := fun {b o} z d1 d2 => Classical.byContradiction fun n => by
      rcases h1 b n with rfl | ⟨p, hp, rfl⟩
      · rw [ha] at z
        cases z
        exact d1 _ _ rfl
      · rw [hT p hp] at z
        cases z
        exact d2 rfl
    have keepD : ∀ {b m}, s.heap.Ns b m → (hidT s.heap H).Ns b m := by
      rintro b m ⟨o, es, ep, z, d, r⟩
      exact ⟨o, es, ep, hidT_get z (free z (fun x n y => by rw [d] at y; cases y) fun y => by rw [d] at y; cases y), d, r⟩
    have kin : K.In (hidT s.heap H) := fun b o z => hidT_get (KX b o z) (Classical.byContradiction fun n => by
      rcases h1 b n with rfl | ⟨p, hp, rfl⟩
      · rw [h2 n] at z
        cases z
      · rw [nT p hp] at z
        cases z)
    obtain ⟨mc, l1, l2⟩ := hlim
    refine ⟨kin, keepD hns, ⟨rfl, ⟨kin, keepD hns, ⟨mb, keepD hb, hbb⟩, ⟨mc, keepD l1, l2⟩⟩, fun b o z => of_hidT z, Nat.le_of_eq (hidT_size _ _), trivial, fun b z => (nomatch z), hok, .of_eq hg⟩, fun p hp => ?_⟩
    have nM : mainGlobals ≠ p.2 := fun z => by
      obtain ⟨o, es, ep, y, d, _⟩ := hns
      rw [z, hT p hp] at y
      cases y
      cases d
    obtain ⟨bm, ob, b1, b2, b3, b4, b5, b6⟩ := hbm
    have nG : bm ≠ mainGlobals := fun z => by
      obtain ⟨o, es, ep, y, d, _⟩ := hns
      rw [z, y] at b3
      cases b3
      rw [d] at b6
      cases b6
    have nP : bm ≠ p.2 := fun z => by
      rw [z, hT p hp] at b3
      cases b3
      cases b6
    exact NdefX.tabB_of_K kin (hC p hp) ⟨bm, ob, b1, b2, nG, nP, hidT_get b3 (free b3 (fun x n y => by rw [b6] at y; cases y) fun y => by rw [b6] at y; cases y), b4, b5, b6⟩ nM
  obtain ⟨L, hL⟩ : ∃ L : Option HO, L = if K.lookup a = none then some (HO.frz { cls := .type "list", data := .seq vs.toArray } (.lst (ns.map V.int))) else none := ⟨_, rfl⟩
  obtain ⟨H, hH⟩ : ∃ H : Hp, H = fun b => if b = a then L else if ∃ p ∈ cs, p.2 = b then some (.tbl #[]) else none := ⟨_, rfl⟩
  have e1 : H a = L := by rw [hH]; exact if_pos rfl
  have e2 : ∀ p ∈ cs, H p.2 = some (.tbl #[]) := fun p hp => by rw [hH]; exact (if_neg (aT p hp)).trans (if_pos ⟨p, hp, rfl⟩)
  have e3 : ∀ b, b ≠ a → (¬ ∃ p ∈ cs, p.2 = b) → H b = none := fun b n1 n2 => by rw [hH]; exact (if_neg n1).trans (if_neg n2)
  have h1 : ∀ b, H b ≠ none → b = a ∨ ∃ p ∈ cs, p.2 = b := fun b n => Classical.byContradiction fun m => n (e3 b (fun z => m (.inl z)) fun z => m (.inr z))
  have hok : HOk P w H s.heap := fun b u z => by
    have nb : H b ≠ none := fun y => by rw [y] at z; cases z
    rcases h1 b nb with rfl | ⟨p, hp, rfl⟩
    · rw [e1, hL] at z
      split at z
      · cases z
        exact ⟨ha, by rw [List.length_map]; exact hl, vs, _, rv, ha⟩
      · cases z
    · rw [e2 p hp] at z
      cases z
      exact hT p hp
  have hKa : H a ≠ none → K.lookup a = none := fun n => Classical.byContradiction fun m => n (by rw [e1, hL]; exact if_neg m)
  obtain ⟨k1, k2, k3, k4⟩ := key H h1 hKa hok
  refine ⟨H, _, k1, k2, k3, fun b => ?_, ?_, e2, k4⟩
  · by_cases hba : b = a
    · rw [hba, e1, hL]
      split
      · exact .inr (.inr ⟨_, _, rfl⟩)
      · exact .inl rfl
    · by_cases hbT : ∃ p ∈ cs, p.2 = b
      · exact .inr (.inl hbT)
      · exact .inl (e3 b hba hbT)
  · cases hk : K.lookup a with
    | none => exact .inl (.inr ⟨{ cls := .type "list", data := .seq vs.toArray }, by rw [e1, hL, if_pos hk]⟩)
    | some o =>
      have z := KX a o hk
      rw [ha] at z
      obtain rfl := (Option.some.inj z).symm
      exact .inr ⟨_, vs.toArray, _, hk, rfl, rfl, rfl, by rw [List.size_toArray, hlv]; exact hl, by simpa using rv⟩
theorem lawGT {s : Shared} {CX : CXT} {k : Nat} {fa a : Addr} {sp : Sp} {vs : List Value} {ns : List Int} {cs : List (Addr × Addr)} (KX : K.In s.heap) (hns : s.heap.Ns mainGlobals mg) (hb : s.heap.Ns builtinsNs mb) (hbb : ∀ x : Str, x ≠ "__name__" → mb x = bootBuiltins x) (hlim : s.heap.NoLimit) (hg : s.gens = #[])
    (hT : ∀ p ∈ cs, s.heap.get? p.2 = some { cls := .none, data := .fields #[] }) (nT : ∀ p ∈ cs, K.lookup p.2 = none) (hC : ∀ p ∈ cs, PySem.W.codeHdIn K p.1 p.2 = true) (hbm : BuiltM mg s.heap)
    (ha : s.heap.get? a = some { cls := .type "list", data := .seq vs.toArray }) (hi : IntsAre vs ns) (hl : ns.length ≤ sizeLine) (hr : RmG k callerA) (F : ∀ base : Heap, K.In base → base.Ns mainGlobals mg → (∀ p ∈ cs, TabB base mg p.1 p.2) → FnG P w K mg base CX k fa sp)
    (hsp : ∀ H : Hp, SqL K H a (ns.map V.int) → (∀ p ∈ cs, H p.2 = some (.tbl #[])) → sp [.ref a] H (fun v _ => v = .bl true) fun _ _ _ => False) (hCX : ∀ H e s', CX [] H s (fun _ _ _ => False) e s' → False) :
    codeAny (model P w) callerA (.call (.ref fa) ⟨[.ref a], []⟩) (fun r s' => r = .ok (.ret (.bool true)) ∧ OldK s.heap s'.heap ∧ s'.os = s.os ∧ AllBare s'.gens) s := by
  classical
  obtain ⟨H, base, k1, k2, e0, ho, hs, htb, hTB⟩ := entryT (P := P) (w := w) KX hns hb hbb hlim hg hT nT hC hbm ha hi hl
  refine codeAny_mono (F base k1 k2 hTB callerA [] s H [.ref a] [.ref a] _ _ hr e0 (.cons rfl .nil) (hsp H hs htb)) fun r s2 z => ?_
  match r, z with
  | .error y, z => exact (hCX H y s2 z).elim
  | .ok .next, z => exact z.elim
  | .ok .brk, z => exact z.elim
  | .ok .cont, z => exact z.elim
  | .ok (.ret u), ⟨v, H2, os, bare, un, hok, rv, q⟩ =>
    obtain rfl : v = .bl true := q
    obtain rfl : u = Value.bool true := rv
    have kept : ∀ b o, (¬ ∃ p ∈ cs, p.2 = b) → s.heap.get? b = some o → s2.heap.get? b = some o := fun b o nb z => by
      rcases ho b with n | n | ⟨o1, xs, n⟩
      · exact un.keep b o z n (fun m => nomatch m) (fun m => nomatch m)
      · exact absurd n nb
      · obtain ⟨g1, _⟩ := e0.hok b _ n
        obtain ⟨g2, _⟩ := hok b _ (un.frzs b o1 _ n)
        rw [z] at g1
        cases g1
        exact g2
    have more : ∀ p ∈ cs, ∃ ps : Array Value, s2.heap.get? p.2 = some { cls := .none, data := .fields ps } := fun p hp => by
      obtain ⟨ps, z⟩ := un.tbls p.2 #[] (htb p hp)
      exact ⟨_, hok p.2 _ z⟩
    refine ⟨rfl, ⟨fun b o z => ?_, fun b o z => ?_⟩, os, bare⟩
    · by_cases hbT : ∃ p ∈ cs, p.2 = b
      · obtain ⟨p, hp, rfl⟩ := hbT
        obtain ⟨ps, hm⟩ := more p hp
        rw [hT p hp] at z
        cases z
        exact .inr (.inl ⟨((PySem.W.codeHd_of_K KX (hC p hp)).tab (hT p hp)).isCodeTable, rfl, #[], ps, rfl, by rw [Array.empty_append]; exact hm⟩)
      · exact .inl (kept b o hbT z)
    · by_cases hbT : ∃ p ∈ cs, p.2 = b
      · obtain ⟨p, hp, rfl⟩ := hbT
        obtain ⟨ps, hm⟩ := more p hp
        exact ⟨_, hm⟩
      · exact ⟨o, kept b o hbT z⟩
theorem walk_ofGT {l : PySem.W.OpenLaw} {n k : Nat} {q : Program} {loose : List Str} {XP : (Str → Option Value) → Heap → Prop} {YP : World → Heap → Prop} {d : DefRec} {CX : CXT} (hn : l.most = some n) (hn2 : n ≤ sizeLine) (hdf : d.params.defaults = []) (hr : RmG k callerA)
    (F : ∀ w mg fa h, YP w h → h.Ns mainGlobals mg → mg d.name = some (.ref fa) → ∃ (K : PySem.W.Frag) (cs : List (Addr × Addr)) (sp : Sp), K.In h ∧ (∀ p ∈ cs, h.get? p.2 = some { cls := .none, data := .fields #[] }) ∧ (∀ p ∈ cs, K.lookup p.2 = none) ∧ (∀ p ∈ cs, PySem.W.codeHdIn K p.1 p.2 = true) ∧
      (∀ (H : Hp) (a : Addr) (ns : List Int), ns.length ≤ n → SqL K H a (ns.map V.int) → (∀ p ∈ cs, H p.2 = some (.tbl #[])) → sp [.ref a] H (fun v _ => v = .bl true) fun _ _ _ => False) ∧
      ∀ base : Heap, K.In base → base.Ns mainGlobals mg → (∀ p ∈ cs, TabB base mg p.1 p.2) → FnG l.prog w K mg base CX k fa sp) (hCX : ∀ H s e s', CX [] H s (fun _ _ _ => False) e s' → False) :
    PySem.W.WalkO q loose XP YP l.row.toRowW d [] (fun f vs => PySem.call f vs) := by
  refine Att.attach_call hn hdf fun w s0 s1 mg mb fa o pm cd doc a vs ns G Y ho hd hcd hmg hobj hints hlen hg => ?_
  obtain ⟨K, cs, sp, KX, hT, nT, hC, h1, h2⟩ := F w mg fa _ Y G.T.g hmg
  exact lawGT KX G.T.g G.T.b G.T.builtins G.T.nolimit hg hT nT hC G.T.bmain hobj hints (Nat.le_trans hlen hn2) hr h2 (fun H z y => h1 H a ns hlen z y) fun H e s' => hCX H s1 e s'
end
end Tw
/-! Tw: a lambda is called, an error that comes out is named and shown -/
namespace Tw
open PySem PySem.Spec PyProof.Rows L2 LamX He
open L2H (RoomH)
/-- repr where an error is handled: as rReprG -/
theorem call_reprU {X : Cx} (gd : X.A.guards = some []) (hu : X.A.units + 40 < cLine) : CallR X (.builtin "repr") (rReprG X.K) := by
  intro pins s σ H xs us Q I r h
  obtain ⟨x, d, rfl, hd, h1, h2, h3, h4, q⟩ := h
  obtain ⟨u, rfl, ru⟩ := vals1 r
  obtain ⟨as, hR⟩ := Dp.reads I d x u hd ru
  cases hR with
  | none => exact PySem.P.repr_of_none ⟨.str _, H, I.tok _, ⟨_, rfl⟩, q⟩
  | bool b => exact PySem.P.repr_of_bool ⟨.str _, H, I.tok _, ⟨_, rfl⟩, q⟩
  | int i t => exact PySem.P.repr_of_int (of_decide_eq_true h1) ⟨.str _, H, I.tok _, ⟨_, rfl⟩, q⟩
  | str y t => exact PySem.P.repr_of_str ⟨.str _, H, I.tok _, ⟨_, rfl⟩, q⟩ h4
  | list a1 a2 a3 a4 => exact repr_of_reads' (.list a1 a2 a3 a4) h1 (fun z => by rw [h2] at z; cases z) gd (by omega) (fun _ _ z => z) (fun h' u tk hk => ⟨.str _, H, I.kept hk, ⟨_, rfl⟩, q⟩) h4
  | tuple a1 a2 a3 a4 => exact repr_of_reads' (.tuple a1 a2 a3 a4) h1 (fun z => by rw [h2] at z; cases z) gd (by omega) (fun _ _ z => z) (fun h' u tk hk => ⟨.str _, H, I.kept hk, ⟨_, rfl⟩, q⟩) h4
  | dict => simp [PyData.hasDict] at h2
/-- repr({}) -/
def rReprD0 : List V → Hp → VK → Prop := fun xs H Q => ∃ a, xs = [.ref a] ∧ H a = some (.dK []) ∧ Q (.str (PyData.dict []).shown) H
theorem call_reprD0 {X : Cx} (gd : X.A.guards = some []) (hu : X.A.units + 40 < cLine) : CallR X (.builtin "repr") rReprD0 := by
  intro pins s σ H xs us Q I r h
  obtain ⟨a, rfl, ha, q⟩ := h
  rw [Vals.ref1 r]
  have hx : ObjOk X.prog X.w H s.heap a (.dK []) := I.hok a _ ha
  obtain ⟨_, hn, vs, hkv, ho⟩ := hx
  cases hkv
  obtain ⟨o, es, ep, ho, hex, hd, _, hp, _⟩ := ho
  have hes : es = #[] := by
    cases h0 : es.toList with
    | nil => exact Array.toList_inj.mp h0
    | cons x l => rw [h0] at hp; cases hp
  subst hes
  have hr : Reads s.heap (.ref a) (.dict []) (a :: [] ++ []) := .dict (kvs := []) ho hex.1 hd .nil .nil
  have hdp : (PyData.dict []).depth ≤ 8 := by decide
  exact repr_of_reads' hr rfl (fun _ m => by
    have e : sysModules = a := by simpa using m
    rw [← e] at hn
    simp at hn) gd (by omega) (fun _ _ z => z) (fun h' u tk hk => ⟨.str _, H, I.kept hk, ⟨_, rfl⟩, q⟩) (by decide)
/-- repr(x), x plain data without a dict, or an empty dict -/
def rReprE (K : PySem.W.Frag) : List V → Hp → VK → Prop := fun xs H Q => rReprG K xs H Q ∨ rReprD0 xs H Q
theorem call_reprE {X : Cx} (gd : X.A.guards = some []) (hu : X.A.units + 40 < cLine) : CallR X (.builtin "repr") (rReprE X.K) := fun pins s σ H xs us Q I r h => h.elim (fun z => call_reprU gd hu pins s σ H xs us Q I r z) fun z => call_reprD0 gd hu pins s σ H xs us Q I r z
theorem rReprE.mono {K : PySem.W.Frag} {xs : List V} {H : Hp} {Q Q' : VK} (h : rReprE K xs H Q) (i : ∀ v, Q v H → Q' v H) : rReprE K xs H Q' := by
  rcases h with ⟨y, dat, e1, e2, e3, e4, e5, e6, e7⟩ | ⟨a, e1, e2, e3⟩
  · exact .inl ⟨y, dat, e1, e2, e3, e4, e5, e6, i _ e7⟩
  · exact .inr ⟨a, e1, e2, i _ e3⟩
/-- e.f of the caught error, whatever its class -/
def tXfA (K : PySem.W.Frag) (a : Addr) (cls : Value) (d : Option Addr) (n : PySem.Str) (te : TE) : TE := fun σ H Q => te σ H fun x H1 => x = .ref a ∧ ∃ (C dd : Addr) (fs : List (PySem.Str × V)) (v : V), cls = .ref C ∧ XfC K C ∧ PySem.W.findIn K (.ref C) n = some none ∧ d = some dd ∧ H1 dd = some (.xd fs) ∧ fs.lookup n = some v ∧ Q v H1
theorem pe_xfA {X : Cx} {a : Addr} {oe : Obj} {cls : Value} {d : Option Addr} {pn : List (Addr × Obj)} {e : Expr} {te : TE} {pos : Pos} {n : PySem.Str} (hz : Zc cls d oe) (hf : ∃ vs, oe.data = .fields vs) (he : PE (X.suite a ((a, oe) :: pn)) e te)
    (hb : attributeBase e n X.env (eval e X.env) = eval e X.env := by rfl) : PE (X.suite a ((a, oe) :: pn)) (.Attribute e n pos) (tXfA X.K a cls d n te) := by
  refine ⟨fun pins s σ H Q I h => attr_of hb (thn (he.run pins s σ H _ I h) fun u s1 g => ?_)⟩
  obtain ⟨x, H1, I1, rx, rfl, C, dd, fs, v, rfl, T, hno, rfl, ea, l, q⟩ := g
  obtain rfl : u = Value.ref a := rx
  obtain ⟨vs, hd⟩ := hf
  have ha := (I1.pin (a, oe) (List.mem_append_left _ List.mem_cons_self)).1
  have hx : ObjOk X.prog X.w H1 s1.heap dd (.xd fs) := I1.hok dd _ ea
  obtain ⟨mA, hns, hr⟩ := hx
  obtain ⟨od, ho, hl⟩ := lookIn_ns hns
  obtain ⟨u, hu, ru⟩ := RelO.some_of (v := v) (o := mA n) (by rw [← l]; exact hr n)
  have J : PySem.W.InstAt s1.heap a oe C (some od) := ⟨ha, hz.1, by unfold PySem.W.notCls; rw [hd] <;> rfl, by rw [hz.2]; exact ho⟩
  exact HandSPX.exc_get I1.kIn J T.ga T.gg T.exC (PySem.W.findObj_own T.hdC hno rfl (by rw [hl, hu])) (handed_of ru) ⟨v, H1, I1.tok _, ru, q⟩
/-- the kind of the caught error -/
def spK (K : PySem.W.Frag) (a : Addr) (cls : Value) (d : Option Addr) : Sp := fun vs H Q _ => ∃ (D dd : Addr) (fs : List (PySem.Str × V)) (i : Nat), vs = [.ref a] ∧ cls = .ref D ∧ d = some dd ∧ KnF K D i ∧ H dd = some (.xd fs) ∧ ∀ H', Same H H' → Q (.str (kdN.getD i "")) H'
theorem pe_kind {X : Cx} {a fk : Addr} {oe : Obj} {cls : Value} {d : Option Addr} {pn : List (Addr × Obj)} {x : PySem.Str} {e : Expr} {t : TA} {k : Nat} {p pos : Pos} (F : FnP X.prog X.w X.K X.mg X.base k fk (sp__law_kind X.K)) (hr : RoomH k (X.suite a ((a, oe) :: pn)).A) (hz : Zc cls d oe) (hf : ∃ vs, oe.data = .fields vs)
    (hg : Gl X x) (hm : X.mg x = some (.ref fk)) (hk : PySem.W.keepIn X.K (.ref fk) = true) (ha : PA (X.suite a ((a, oe) :: pn)) [e] t) (hdb : (x == ("__debug__" : PySem.Str)) = false := by decide) (he : starEach [e] X.env = (false, eval e X.env) :: starEach [] X.env := by rfl) :
    PE (X.suite a ((a, oe) :: pn)) (.Call (.Name x p) [e] [] pos) (tFn (spK X.K a cls d) C8.E0 t) := ⟨fun pins s σ H Q I h =>
  wpAny_Call_Name_kw (ld_glob (X := X.suite a ((a, oe) :: pn)) I hg hm (PySem.W.callWith_K (h₀ := X.base) I.ok.mod.kin hk
    (thn (ha.run pos pins s σ H _ I h) fun us s1 ⟨vs, H1, I1, r, z⟩ => ⟨I1.kIn, call_fnP (X := X.suite a ((a, oe) :: pn)) (q := (a, oe)) F hr List.mem_cons_self I1 r (by
      obtain ⟨D, dd, fs, i, e1, rfl, rfl, e2, e3, e4⟩ := z
      exact ⟨D, dd, fs, i, e1, e2, hz, hf, e3, e4⟩)⟩) he rfl) hdb)⟩
/-- what the error clause makes of an error: its kind and the text of its value -/
def tsF (K : PySem.W.Frag) (fld : PySem.Str) (a : Addr) (cls : Value) (d : Option Addr) : TS := tRet (tLst (tCons (tFn (spK K a cls d) C8.E0 (tCons (tVar 1) tNil)) (tCons (tCB (rReprE K) (tCons (tXfA K a cls d fld (tVar 1)) tNil)) tNil)))
/-- no wish: the clause is never looked at -/
def tsN : Addr → Value → Option Addr → TS := fun _ _ _ _ _ _ => False
theorem pss_off {X : Cx} {b : List Stmt} {a : Addr} {cls : Value} {d : Option Addr} : PSs X b (tsN a cls d) := ⟨fun _ _ _ _ _ _ h => h.elim⟩
def clK (K : PySem.W.Frag) : List Cl := [(.ref (ga K "WheelError"), 1, tsF K "value"), (.ref (ga K "TooLong"), 1, tsF K "delay"), (.ref (ga K "TooMany"), 1, tsF K "limit"), (.ref (ga K "NothingToUndo"), 1, tsN)]
/-- the clause tells the error's field fld -/
def ErFld (K : PySem.W.Frag) (fld : PySem.Str) (D : Addr) (fs : List (PySem.Str × V)) (i : Nat) (H' : Hp) (Q : VK) : Prop := ∃ v : V, XfC K D ∧ PySem.W.findIn K (.ref D) fld = some none ∧ fs.lookup fld = some v ∧
  ∀ H2, Same H' H2 → rReprE K [v] H2 fun x H3 => ∀ R, H3 R = none → Q (.ref R) (upd H3 R (.lst [.str (kdN.getD i ""), x]))
def exmN (K : PySem.W.Frag) (D : Addr) (x : PySem.Str) (b : Bool) : Prop := PySem.W.exmOne K (.ref D) (.ref (ga K x)) = some b
def ErOut (K : PySem.W.Frag) (Q : VK) : XK := fun cls d H' => ∃ (D dd : Addr) (fs : List (PySem.Str × V)) (i : Nat), cls = .ref D ∧ d = some dd ∧ KnF K D i ∧ H' dd = some (.xd fs) ∧
  ((exmN K D "WheelError" true ∧ ErFld K "value" D fs i H' Q) ∨ (exmN K D "WheelError" false ∧ exmN K D "TooLong" true ∧ ErFld K "delay" D fs i H' Q) ∨
    (exmN K D "WheelError" false ∧ exmN K D "TooLong" false ∧ exmN K D "TooMany" true ∧ ErFld K "limit" D fs i H' Q))
def TCg (K : PySem.W.Frag) : (XK → Hp → VK → Prop) → Hp → VK → Prop := fun tl H Q => tl (ErOut K Q) H fun _ H' => Q .non H'
theorem caught_gives {X : Cx} {Ng : List PySem.Str} {x a q : PySem.Str} {sg : Scope} {g : Addr} {cdg : Value} {h1 : ExceptHandler} {hs : List ExceptHandler} {st : List Stmt} {p1 p2 p3 p8 : Pos} (hNd : Ng.Nodup) (hN : Ng.length = 2)
    (hcl : ∀ (s : Shared) (H : Hp), ClsOk (cxOf C8.CX0 X.prog X.w X.K X.mg X.base Ng x sg g cdg X.A X.stack s H C8.E0).nox (h1 :: hs) (clK X.K)) (hst : ∀ (s : Shared) (H : Hp), PSs (cxOf C8.CX0 X.prog X.w X.K X.mg X.base Ng x sg g cdg X.A X.stack s H C8.E0).nox st (tRet (tC .non)))
    (h0 : ∀ f : Addr, (L2.start Ng [V.ref f])[0]? = some (some (V.ref f))) :
    GivesTo X Ng x sg g cdg (.Try [.Expr (.Call (.Name a p1) [] [] p2) p3] (h1 :: hs) [] [] p8 :: st) a q (TCg X.K) := by
  intro f c' s H Q tl act hc h
  refine ⟨_, pss_cons (ps_try_all (X := (cxOf C8.CX0 X.prog X.w X.K X.mg X.base Ng x sg g cdg X.A X.stack s H C8.E0).nox)
      (tb := fun W D σ H => ∃ Ech : XK, (∀ cls d σ' H', Ech cls d H' → W cls d σ' H') ∧ σ[0]? = some (some (.ref f)) ∧ H c' = some (CodeO c' q) ∧ tl Ech H fun _ H' => D.nx σ H') rfl rfl hNd L2.takes0 (fun W pn xe tk _ => ?_) (hcl s H)) (hst s H), ?_⟩
  · refine ⟨fun pins s' σ H' D I h' => ?_⟩
    obtain ⟨Ech, hW, e1, e2, e3⟩ := h'
    exact (pss_one (ps_expr (pos := p3) (act W pn xe Ech p1 p2 tk hW))).run pins s' σ H' D I ⟨e1, e2, e3⟩
  · refine ⟨ErOut X.K Q, fun cls d σ' H' hE => ?_, h0 f, hc, h⟩
    obtain ⟨D, dd, fs, i, rfl, rfl, F, hdd, hE⟩ := hE
    have say : ∀ (fld : PySem.Str), ErFld X.K fld D fs i H' Q → σ'.length = Ng.length → ∀ (e : Addr) (DD : Ends), DD.rt = Q → tsF X.K fld e (.ref D) (some dd) DD (σ'.set 1 (some (V.ref e))) H' := fun fld hF hlen e DD hrt => by
      obtain ⟨v, T, hno, hl, hr⟩ := hF
      have hv : (σ'.set 1 (some (V.ref e)))[1]? = some (some (V.ref e)) := by rw [List.getElem?_set_self (by rw [hlen]; omega)]
      refine ⟨_, hv, D, dd, fs, i, rfl, rfl, rfl, F, hdd, fun H2 s2 => ⟨_, hv, rfl, D, dd, fs, v, rfl, T, hno, rfl, s2 _ _ hdd, hl, ?_⟩⟩
      exact (hr H2 s2).mono fun x hx => ⟨(show 2 ≤ 16777216 by decide), fun R hR => by rw [hrt]; exact hx R hR⟩
    rcases hE with ⟨w1, hF⟩ | ⟨w1, w2, hF⟩ | ⟨w1, w2, w3, hF⟩
    · exact ⟨true, w1, fun _ hlen e he => say _ hF hlen e _ rfl, fun z => by cases z⟩
    · exact ⟨false, w1, fun z => (by cases z), fun _ => ⟨true, w2, fun _ hlen e he => say _ hF hlen e _ rfl, fun z => by cases z⟩⟩
    · exact ⟨false, w1, fun z => (by cases z), fun _ => ⟨false, w2, fun z => (by cases z), fun _ => ⟨true, w3, fun _ hlen e he => say _ hF hlen e _ rfl, fun z => by cases z⟩⟩⟩
end Tw
/-! Tw: a def of the law that makes lambdas; _law_caught called with one -/
namespace Tw
open PySem PySem.Spec PyProof.Rows L2 LamX
section
variable {P : Program} {w : World} {K : PySem.W.Frag} {mg : Str → Option Value} {base : Heap} {CX : CXT} {k : Nat} {f : Addr} {sp : Sp}
/-- as fnG_of; the code of the def that runs is known -/
theorem fnG_ofC {x qual : Str} {params : Arguments} {body : List Stmt} {scope : Scope} {kws : List (Str × V)} {fd : FuncData} {N ps : List Str} (F : FunD K x qual params body scope [] kws f fd) (S : FnScope N ps scope) (hb : Binds K fd ps [])
    (hl : ∀ vs H Q E, sp vs H Q E → vs.length = ps.length)
    (hbody : ∀ cdv A fs t H vs Q E, cdv = .ref (codA K f) → RmG k (A.deeper (envOfC qual scope t.heap.objs.size f cdv)) → sp vs H Q E → ∃ tt, PSs (cxOf CX P w K mg base N qual scope f cdv A fs t H E) body tt ∧ tt { nx := fun _ H' => Q .non H', rt := Q } (L2.start N vs) H) :
    FnG P w K mg base CX (k + 1) f sp := by
  intro A fs t H us vs Q E hr e0 rv h
  obtain ⟨oc, od, dV, kV, doc, pm, an, cdv, ct, osl, efd, lk, hcd, _, _⟩ := F.ex
  have hcv : cdv = .ref (codA K f) := by
    unfold codA
    rw [lk, efd]
    cases cdv with
    | ref c => rfl
    | _ => cases hcd
  have KX : K.In t.heap := e0.mod.kin.keeps fun b o z => (e0.bs b o z).1
  have hlen : us.length = ps.length := rv.length.symm.trans (hl _ _ _ _ h)
  have hbt := hb t us KX (by rw [List.append_nil]; exact hlen)
  rw [List.append_nil] at hbt
  rw [efd] at lk hbt
  refine codeAny_call_function hr.rm.depth (KX _ _ lk) rfl S.co S.gen rfl (PySem.W.codeRec_of KX hcd) (hbt _ _ _ _ ?_)
  refine wpAny_newFunctionEnv_cells S.kind (fun y hy => ?_) fun env he t1 inc => ?_
  · exact (S.par y.1 (List.of_mem_zip hy).1).elim .inl fun z => .inr ⟨z, PySem.W.cellsFrom_some _ _ _ (.inl z)⟩
  · subst he
    obtain ⟨tt, hp, hq⟩ := hbody cdv A fs t H vs Q E hcv (hr.deeper _) h
    have hnl : t.heap.NoLimit := e0.mod.nolimit.keeps fun b o z => (e0.bs b o z).1
    refine ⟨hnl.keeps inc.toInCall.keep, codeAny_func (wpAny_mono (hp.run [] t1 _ _ _ (inv_start S hr.rm.hd e0 (hl _ _ _ _ h) rv inc) hq) (fun fl t2 z => ?_) fun _ _ z => z)⟩
    cases fl with
    | ret u =>
      obtain ⟨v, _, H2, J, r2, q2⟩ := z
      exact ⟨v, H2, J.os, J.bare, J.base, J.hok, r2, q2⟩
    | next =>
      obtain ⟨_, H2, J, q2⟩ := z
      exact ⟨.non, H2, J.os, J.bare, J.base, J.hok, rfl, q2⟩
    | brk => exact z.elim fun _ z => z.elim fun _ z => z.2.elim
    | cont => exact z.elim fun _ z => z.elim fun _ z => z.2.elim
end
section
variable {X : Cx}
theorem pe_caught {TT : (XK → Hp → VK → Prop) → Hp → VK → Prop} {x a : Str} {g c P : Addr} {k : Nat} {pg : Arguments} {bg : List Stmt} {sg : Scope} {kws : List (Str × V)} {fd : FuncData} {Ng : List Str} {params : Arguments} {body : Expr} {scope : Scope} {t : XK → TE} {p lpos pos : Pos}
    (F : FunD X.K x x pg bg sg [] kws g fd) (hb : ∀ (kV doc pm : Value) (an : Option Addr) (cdv ct : Value) (us : List Value), us.length = 1 → bindArgs (PySem.W.fnOf x x pg bg sg .none kV doc pm an cdv ct) ⟨us, []⟩ = pure ([a].zip us)) (Sg : FnScope Ng [a] sg) (hNg : Ng[0]? = some a) (hva : Vis sg a)
    (hg : Gl X x) (hm : X.mg x = some (.ref g)) (hG : ∀ cdg, GivesTo X Ng x sg g cdg bg a (X.env.qual ++ "<lambda>") TT) (TB : TabB X.base X.mg c P) (hcode : X.env.code = .ref c) (hr : Room (k + 2) X.A) (L : LamS X.env.scope scope) (hdef : defaultsOf params X.env = ([], []))
    (hbind : ∀ (q : Str) (cl : List (Str × Addr)) (pm cv ctv : Value), bindArgs (PySem.W.kla_fn "<lambda>" q params body scope cl pm cv ctv) ⟨[], []⟩ = pure [])
    (hbody : ∀ (A : Around) (outer : List Env) (s : Shared) (H : Hp) (E : XK) (f c' : Addr), Room k (A.deeper (lamEnv X scope s.heap.objs.size f c')) → PE (lamCx X A outer s H E scope f c') body (t E))
    (hdb : (x == ("__debug__" : Str)) = false := by decide) (hd : (a == ("__debug__" : Str)) = false := by decide) (hcd : (a == ("__classdict__" : Str)) = false := by decide) :
    PE X (.Call (.Name x p) [.Lambda params body scope lpos] [] pos) (tLam [(P, X.env.qual ++ "<lambda>")] TT t) := by
  have hbn := F.bindsN (ps := [a]) hb
  have kp := F.kp
  obtain ⟨oc, od, dV, kV, doc, pm, an, cdv, ct, osl, rfl, lk, hcg, _, _⟩ := F.ex
  exact pe_lamcall (T := [(P, X.env.qual ++ "<lambda>")]) hg hm kp lk hcg hbn Sg hNg hva (hG cdv) TB hcode (by simp) (fun q hq _ => by rw [List.mem_singleton.mp hq]) hr L hdef hbind hbody hdb hd hcd
/-- as pe_caught; T: the tables of all defs that make lambdas -/
theorem pe_caughtT {T : List (Addr × Str)} {TT : (XK → Hp → VK → Prop) → Hp → VK → Prop} {x a : Str} {g c P : Addr} {k : Nat} {pg : Arguments} {bg : List Stmt} {sg : Scope} {kws : List (Str × V)} {fd : FuncData} {Ng : List Str} {params : Arguments} {body : Expr} {scope : Scope} {t : XK → TE} {p lpos pos : Pos}
    (F : FunD X.K x x pg bg sg [] kws g fd) (hb : ∀ (kV doc pm : Value) (an : Option Addr) (cdv ct : Value) (us : List Value), us.length = 1 → bindArgs (PySem.W.fnOf x x pg bg sg .none kV doc pm an cdv ct) ⟨us, []⟩ = pure ([a].zip us)) (Sg : FnScope Ng [a] sg) (hNg : Ng[0]? = some a) (hva : Vis sg a)
    (hg : Gl X x) (hm : X.mg x = some (.ref g)) (hG : ∀ cdg, GivesTo X Ng x sg g cdg bg a (X.env.qual ++ "<lambda>") TT) (TB : TabB X.base X.mg c P) (hmT : (P, X.env.qual ++ "<lambda>") ∈ T) (hu : ∀ p ∈ T, p.1 = P → p.2 = X.env.qual ++ "<lambda>") (hcode : X.env.code = .ref c) (hr : Room (k + 2) X.A) (L : LamS X.env.scope scope) (hdef : defaultsOf params X.env = ([], []))
    (hbind : ∀ (q : Str) (cl : List (Str × Addr)) (pm cv ctv : Value), bindArgs (PySem.W.kla_fn "<lambda>" q params body scope cl pm cv ctv) ⟨[], []⟩ = pure [])
    (hbody : ∀ (A : Around) (outer : List Env) (s : Shared) (H : Hp) (E : XK) (f c' : Addr), Room k (A.deeper (lamEnv X scope s.heap.objs.size f c')) → PE (lamCx X A outer s H E scope f c') body (t E))
    (hdb : (x == ("__debug__" : Str)) = false := by decide) (hd : (a == ("__debug__" : Str)) = false := by decide) (hcd : (a == ("__classdict__" : Str)) = false := by decide) :
    PE X (.Call (.Name x p) [.Lambda params body scope lpos] [] pos) (tLam T TT t) := by
  have hbn := F.bindsN (ps := [a]) hb
  have kp := F.kp
  obtain ⟨oc, od, dV, kV, doc, pm, an, cdv, ct, osl, rfl, lk, hcg, _, _⟩ := F.ex
  exact pe_lamcall (T := T) hg hm kp lk hcg hbn Sg hNg hva (hG cdv) TB hcode hmT hu hr L hdef hbind hbody hdb hd hcd
end
end Tw
/-! Tw: values of other kinds: whether they are integers -/
namespace Tw
open PySem PySem.Spec PyProof.Rows L2 He TwM StX
open PySem.W (Frag)
local macro_rules | `(tactic| walk_at "rsl") => `(tactic| simp only [*, at3_0, at3_1, at3_2, at2_0, at2_1, updS, upd_two, gSub, rSetL, updN, tPar, tPar3, gTup, gCons, gNil, and_assoc, not_true_eq_false, not_false_eq_true, tNever, List.length_map, tFld, rIxTH, rIxLH, rLenTH, rLenLH, lk1, lfs_g, lfs_s, lfs_p, HO.ins.injEq, HO.tup.injEq, HO.lst.injEq, sp_Book_rounding, sp_Book_action, sp_Book_order, sp_Book_due, sp_Book_zero, sp_Book_beyond, Int.toNat_natCast, sp_visit_after, sp_is_visited, sp_Level_grain, sp_Level_slots, sp_Level_span, sp_Wheel_reach, sp_Wheel___len__, sp_is_integer, sp_is_count, sp_is_within, sp_rounded, tAsg, gName, tVar, tC, tOp, rI, rI0, rU, tUn, oAdd, oSub, oMul, oDiv, oMod, oNeg, oLt, oLe, oGt, oGe, oIsN, oNotN, tFn, tCons, tNil, tIfS, tIf, tTest, tB, tNot, tAnd, tOr, tAndV, tOrV, tNotV,
    tRet, tRetN, tNext, tCB, tDrop, tChain, rEq, rNe, oMax2, oMin2, oInt1, rLenF, L2.start, List.map_cons, List.map_nil, List.length_cons, List.length_nil, List.replicate_succ, List.replicate_zero, List.cons_append, List.nil_append, Nat.reduceAdd, Nat.reduceSub, Nat.zero_add,
    List.set_cons_zero, List.set_cons_succ, List.getElem?_cons_zero, List.getElem?_cons_succ, Option.some.injEq, V.int.injEq, V.ref.injEq, V.str.injEq, V.bl.injEq, exists_eq_left', exists_eq_left, exists_and_left, List.cons.injEq, and_true, true_and, decide_eq_true_eq, sc_ii, sc_ss, sc_bb, sc_ni, sc_in, sc_nn, sc_is, reduceCtorEq,
    Bool.not_eq_true', decide_eq_false_iff_not, if_true, if_false, Bool.false_eq_true, exists_eq', exists_const, false_and, and_false, or_false, false_or, exists_false, Bool.not_not, Bool.not_true, Bool.not_false, sUp_up, sFire_fire, sHigh_high, sPut_put, sZone_now, sBey_refuse, sBey_cut, tTup, tLst, sz0, sz1, sz2, sz3, sz4, sz5, sz6])
local macro_rules | `(tactic| walk_at "st") => `(tactic| ((try dsimp only); rw [seq1]; walk_at "rsl"))
/-- x is not y, both True or False -/
def rIsNB : R2 := fun x y H Q => ∃ a b, x = .bl a ∧ y = .bl b ∧ Q (.bl (!decide (a = b))) H
section
variable {K : Frag} {w : World}
/-- whether a value is an int and no truth value, from H on -/
def IsIntV (K : Frag) (H : Hp) (x : V) (b : Bool) : Prop := ∃ b1 b2 : Bool, (∀ (H' : Hp) (Q : VK), Same H H' → Q (.bl b1) H' → rIsi K [x, .ty "int"] H' Q) ∧ (b1 = true → ∀ (H' : Hp) (Q : VK), Same H H' → Q (.bl b2) H' → rIsi K [x, .ty "bool"] H' Q) ∧ b = (b1 && !b2)
theorem IsIntV.same {H H' : Hp} {x : V} {b : Bool} (h : IsIntV K H x b) (s : Same H H') : IsIntV K H' x b := by
  obtain ⟨b1, b2, h1, h2, e⟩ := h
  exact ⟨b1, b2, fun H2 Q s2 => h1 H2 Q (s.trans s2), fun z H2 Q s2 => h2 z H2 Q (s.trans s2), e⟩
theorem isInt_int {H : Hp} (i : Int) : IsIntV K H (.int i) true := ⟨true, false, fun _ _ _ q => isi_base (.base (.int i)) (by decide +kernel) q, fun _ _ _ _ q => isi_base (.base (.int i)) (by decide +kernel) q, rfl⟩
theorem isInt_bl {H : Hp} (b : Bool) : IsIntV K H (.bl b) false := ⟨true, true, fun _ _ _ q => isi_base (.base (.bl b)) (by decide +kernel) q, fun _ _ _ _ q => isi_base (.base (.bl b)) (by decide +kernel) q, rfl⟩
theorem isInt_non {H : Hp} : IsIntV K H .non false := ⟨false, false, fun _ _ _ q => isi_base (.base .non) (by decide +kernel) q, fun z => (by cases z), rfl⟩
theorem isInt_str {H : Hp} (x : Str) : IsIntV K H (.str x) false := ⟨false, false, fun _ _ _ q => isi_base (.base (.str x)) (by decide +kernel) q, fun z => (by cases z), rfl⟩
theorem isInt_tup {H : Hp} {a : Addr} {xs : List V} (h : H a = some (.tup xs)) : IsIntV K H (.ref a) false := ⟨false, false, fun _ _ s q => isi_base (.base (.tup (s _ _ h))) (by decide +kernel) q, fun z => (by cases z), rfl⟩
theorem isInt_lst {H : Hp} {a : Addr} {xs : List V} (h : H a = some (.lst xs)) : IsIntV K H (.ref a) false := ⟨false, false, fun _ _ s q => isi_base (.base (.lst (s _ _ h))) (by decide +kernel) q, fun z => (by cases z), rfl⟩
def sp_is_integerA (K : Frag) : Sp := fun vs H Q _ => ∃ x b, vs = [x] ∧ IsIntV K H x b ∧ Q (.bl b) H
def t_is_integerA (K : Frag) (w : World) : TS :=
  (tRet (tAndV (tCB (rIsi K) (tCons (tVar 0) (tCons (tC (.ty "int")) tNil))) (tNotV (tCB (rIsi K) (tCons (tVar 0) (tCons (tC (.ty "bool")) tNil))))))
def n_is_integerA : List Str := ["value"]
theorem rd_is_integerA (vs : List V) (H : Hp) (Q : VK) (E : XK) (h : sp_is_integerA K vs H Q E) : t_is_integerA K w { nx := fun _ H' => Q .non H', rt := Q } (L2.start n_is_integerA vs) H := by
  obtain ⟨x, b, rfl, ⟨b1, b2, h1, h2, rfl⟩, q⟩ := h
  unfold t_is_integerA n_is_integerA
  walk_at "rsl"
  refine h1 H _ (Same.refl _) ⟨b1, rfl, ?_⟩
  cases b1 with
  | false => exact q
  | true =>
    walk_at "rsl"
    exact h2 rfl H _ (Same.refl _) ⟨b2, rfl, q⟩
def cntB (x : V) : Bool := match x with
  | .int i => decide (0 ≤ i)
  | _ => false
def sp_is_countA (K : Frag) : Sp := fun vs H Q _ => ∃ x b, vs = [x] ∧ IsIntV K H x b ∧ (b = true → ∃ i, x = .int i) ∧ Q (.bl (b && cntB x)) H
def t_is_countA (K : Frag) (w : World) : TS :=
  (tRet (tAndV (tFn (sp_is_integerA K) E0 (tCons (tVar 0) tNil)) (tOp oGe (tVar 0) (tC (.int 0)))))
def n_is_countA : List Str := ["value"]
theorem rd_is_countA (vs : List V) (H : Hp) (Q : VK) (E : XK) (h : sp_is_countA K vs H Q E) : t_is_countA K w { nx := fun _ H' => Q .non H', rt := Q } (L2.start n_is_countA vs) H := by
  obtain ⟨x, b, rfl, h1, h2, q⟩ := h
  unfold t_is_countA n_is_countA
  refine ⟨_, rfl, x, b, rfl, h1, b, rfl, ?_⟩
  cases b with
  | false => exact q
  | true =>
    obtain ⟨i, rfl⟩ := h2 rfl
    exact ⟨_, rfl, i, 0, rfl, rfl, q⟩
end
end Tw
/-! Tw: values of any kind that a law hands in, as data; an error caught, compared with its name and the text of its value -/
namespace Tw
open PySem PySem.Spec PyProof.Rows L2 He TwM StX LamX
open PySem.W (Frag)
/-- what is left of a for over a list when its list is there -/
def ForL (K : Frag) (a : Addr) (g : TG) (tb : TS) (D : Ends) (σ : L2.St) (H : Hp) : Prop := tFor (fun σ H R => R (Itl K a) H) g tb D σ H
theorem forl_eq {K : Frag} {tl : TE} {g : TG} {tb : TS} {D : Ends} {σ : L2.St} {H : Hp} : tFor (iList K tl) g tb D σ H = tl σ H (fun x H1 => ∃ a, x = .ref a ∧ (∃ xs, SqL K H1 a xs) ∧ ForL K a g tb D σ H1) := rfl
theorem forL {K : Frag} {a : Addr} {g : TG} {tb : TS} {D : Ends} {σ : L2.St} {H : Hp} {xs : List V} (Pv : Nat → L2.St → Hp → Prop) (h0 : Pv 0 σ H) (hl : ∀ i σ H, Pv i σ H → SqL K H a xs)
    (hs : ∀ i x σ H, xs[i]? = some x → Pv i σ H → g x σ H fun σ2 H2 => tb { D with nx := Pv (i + 1), ct := Pv (i + 1), bk := D.nx } σ2 H2) (hd : ∀ σ H, Pv xs.length σ H → D.nx σ H) : ForL K a g tb D σ H := for_list Pv h0 (fun i σ H _ z => hl i σ H z) hs hd
theorem passE {X : Cx} : Passes (L2.CX X.prog X.w) X C8.E0 := fun _ _ _ _ _ _ _ h => by
  obtain ⟨_, _, _, _, _, _, _, _, _, _, _, _, z⟩ := h
  exact False.elim z
/-- a value that is no reference, as data -/
def flD : V → Option PyData
  | .non => some .none
  | .bl b => some (.bool b)
  | .int i => some (.int i)
  | .str x => some (.str x)
  | _ => none
/-- x stands for d: plain, a flat tuple, a flat list or an empty dict -/
inductive Ov (H : Hp) : V → PyData → Prop
  | at_ {x : V} {d : PyData} (h : flD x = some d) : Ov H x d
  | tup {a : Addr} {xs : List V} {ds : List PyData} (h : H a = some (.tup xs)) (f : xs.map flD = ds.map some) : Ov H (.ref a) (.tuple ds)
  | lst {a : Addr} {xs : List V} {ds : List PyData} (h : H a = some (.lst xs)) (f : xs.map flD = ds.map some) : Ov H (.ref a) (.list ds)
  | dict {a : Addr} (h : H a = some (.dK [])) : Ov H (.ref a) (.dict [])
def intD : PyData → Bool
  | .int _ => true
  | _ => false
def strD : PyData → Bool
  | .str _ => true
  | _ => false
/-- all that is no table and not the pool stays -/
def ExtP (p l : Addr) (H H' : Hp) : Prop := ∀ b o, b ≠ p → b ≠ l → H b = some o → (∀ ps, o ≠ .tbl ps) → H' b = some o
theorem ExtP.refl (p l : Addr) (H : Hp) : ExtP p l H H := fun _ _ _ _ h _ => h
theorem ExtP.trans {p l : Addr} {H H1 H2 : Hp} (a : ExtP p l H H1) (b : ExtP p l H1 H2) : ExtP p l H H2 := fun c o n m h z => b c o n m (a c o n m h z) z
theorem ExtP.ofN {p l : Addr} {H H1 : Hp} (a : ExtN H H1) : ExtP p l H H1 := fun c o _ _ h z => a c o h z
theorem ExtP.ofP {p l : Addr} {H H1 : Hp} (a : SameP p l H H1) : ExtP p l H H1 := fun c o n m h _ => a c o n m h
theorem ExtP.ofS {p l : Addr} {H H1 : Hp} (a : Same H H1) : ExtP p l H H1 := fun c o _ _ h _ => a c o h
theorem Same.toN {H H1 : Hp} (a : Same H H1) : ExtN H H1 := fun c o h _ => a c o h
section
variable {K : Frag} {H H' : Hp} {x : V} {d : PyData} {p l : Addr}
theorem Ov.ext (h : Ov H x d) (e : ∀ b o, (∃ xs, o = HO.tup xs) ∨ (∃ xs, o = HO.lst xs ∧ ∃ ds : List PyData, xs.map flD = ds.map some) ∨ o = .dK [] → H b = some o → H' b = some o) : Ov H' x d := by
  cases h with
  | at_ h => exact .at_ h
  | tup h f => exact .tup (e _ _ (.inl ⟨_, rfl⟩) h) f
  | lst h f => exact .lst (e _ _ (.inr (.inl ⟨_, rfl, _, f⟩)) h) f
  | dict h => exact .dict (e _ _ (.inr (.inr rfl)) h)
theorem Ov.extN (h : Ov H x d) (e : ExtN H H') : Ov H' x d := h.ext fun b o z q => e b o q fun ps w => by
  subst w
  rcases z with ⟨_, z⟩ | ⟨_, z, _⟩ | z <;> cases z
theorem Ov.same (h : Ov H x d) (e : Same H H') : Ov H' x d := h.extN (Same.toN e)
/-- what the pool's changes leave -/
theorem PoolAt.off (hp : PoolAt H p l) {b : Addr} {o : HO} (h : H b = some o) (z : (∃ xs, o = HO.tup xs) ∨ (∃ a C fs, o = HO.ins a C fs) ∨ o = .dK [] ∨ (∃ ps, o = .tbl ps) ∨ (∃ e, o = .ext e)) : b ≠ p ∧ b ≠ l := by
  obtain ⟨n, cs, i1, i2, i3, i4, h1, h2, h3⟩ := hp
  have ne : ∀ xs, o ≠ .lst xs := fun xs w => by
    subst w
    rcases z with ⟨_, z⟩ | ⟨_, _, _, z⟩ | z | ⟨_, z⟩ | ⟨_, z⟩ <;> cases z
  exact ⟨fun w => by rw [w, h1] at h; exact ne _ (Option.some.inj h).symm, fun w => by rw [w, h2] at h; exact ne _ (Option.some.inj h).symm⟩
theorem TabS.sameP {P : Addr} {q : PySem.Str} (hp : PoolAt H p l) (s : SameP p l H H') (t : TabS H P q) : TabS H' P q := by
  obtain ⟨ps, h1, h2, h3⟩ := t
  obtain ⟨n1, n2⟩ := hp.off h1 (.inr (.inr (.inr (.inl ⟨_, rfl⟩))))
  refine ⟨ps, s _ _ n1 n2 h1, h2, fun pos cv hc => ?_⟩
  obtain ⟨c, e1, e2⟩ := h3 pos cv hc
  obtain ⟨n1, n2⟩ := hp.off e2 (.inr (.inr (.inr (.inr ⟨_, rfl⟩))))
  exact ⟨c, e1, s _ _ n1 n2 e2⟩
theorem Tabs.sameP {T : List (Addr × PySem.Str)} (hp : PoolAt H p l) (s : SameP p l H H') (t : Tabs T H) : Tabs T H' := fun q hq => TabS.sameP hp s (t q hq)
theorem PoolAt.extN (hp : PoolAt H p l) (s : ExtN H H') : PoolAt H' p l := by
  obtain ⟨n, cs, i1, i2, i3, i4, h1, h2, h3⟩ := hp
  exact ⟨n, cs, i1, i2, i3, i4, s _ _ h1 (fun ps z => by cases z), s _ _ h2 (fun ps z => by cases z), h3⟩
theorem LvAt.extN {a : Addr} {v : Lv} (h : LvAt K H a v) (s : ExtN H H') : LvAt K H' a v := ⟨h.ok, h.at_.elim fun dx q => ⟨dx, s _ _ q fun ps z => by cases z⟩⟩
theorem WhAt.extN {a : Addr} {W : List Lv} (h : WhAt K H a W) (s : ExtN H H') : WhAt K H' a W := by
  obtain ⟨ok, dx, t, as, h1, h2, h3, h4⟩ := h
  exact ⟨ok, dx, t, as, s _ _ h1 fun ps z => (by cases z), s _ _ h2 fun ps z => (by cases z), h3, fun i c q => (h4 i c q).extN s⟩
theorem BkAt.extN {a : Addr} {B : Bk} (h : BkAt K H a B) (s : ExtN H H') : BkAt K H' a B := by
  obtain ⟨ok, dx, t, h1, h2⟩ := h
  exact ⟨ok, dx, t, s _ _ h1 fun ps z => (by cases z), s _ _ h2 fun ps z => (by cases z)⟩
theorem SpAt.extN {a : Addr} {sp : Spot} (h : SpAt H a sp) (s : ExtN H H') : SpAt H' a sp := s _ _ h fun ps z => by cases z
theorem Ov.isI (h : Ov H x d) : IsIntV K H x (intD d) := by
  cases h with
  | at_ h =>
    cases x with
    | non => cases h; exact isInt_non
    | bl b => cases h; exact isInt_bl b
    | int i => cases h; exact isInt_int i
    | str y => cases h; exact isInt_str y
    | _ => cases h
  | tup h f => exact isInt_tup h
  | lst h f => exact isInt_lst h
  | dict h => exact ⟨false, false, fun H' Q s q => isi_base (.base (.dK (s _ _ h))) (by decide +kernel) q, fun z => (Bool.noConfusion z), rfl⟩
theorem Ov.int (h : Ov H x d) (z : intD d = true) : ∃ i, x = .int i ∧ d = .int i := by
  cases h with
  | at_ h =>
    cases x with
    | int i => cases h; exact ⟨i, rfl, rfl⟩
    | non => cases h; cases z
    | bl b => cases h; cases z
    | str y => cases h; cases z
    | _ => cases h
  | _ => cases z
theorem Ov.str (h : Ov H x d) (z : strD d = true) : ∃ i, x = .str i ∧ d = .str i := by
  cases h with
  | at_ h =>
    cases x with
    | str i => cases h; exact ⟨i, rfl, rfl⟩
    | non => cases h; cases z
    | bl b => cases h; cases z
    | int y => cases h; cases z
    | _ => cases h
  | _ => cases z
/-! ### its repr -/
def OkD (d : PyData) : Prop := (d = .dict [] ∨ (d.showable = true ∧ d.hasDict = false ∧ d.depth ≤ 16 ∧ d.shown.length ≤ sizeLine)) ∧ PySem.PyData.strOk d.shown = true
theorem flD_dp : ∀ {xs : List V} {ds : List PyData}, xs.map flD = ds.map some → DpAll K H xs ds
  | [], [], _ => .nil
  | [], _ :: _, h => by cases h
  | _ :: _, [], h => by cases h
  | x :: xs, d :: ds, h => by
    rw [List.map_cons, List.map_cons] at h
    injection h with h1 h2
    refine .cons ?_ (flD_dp h2)
    cases x with
    | non => cases h1; exact .non
    | bl b => cases h1; exact .bl b
    | int i => cases h1; exact .int i
    | str y => cases h1; exact .str y
    | _ => cases h1
theorem Ov.repr {Q : VK} (h : Ov H x d) (k : OkD d) (q : Q (.str d.shown) H) : rReprE K [x] H Q := by
  obtain ⟨k, _⟩ := k
  cases h with
  | at_ h =>
    have z : d.showable = true ∧ d.hasDict = false ∧ d.depth ≤ 16 ∧ d.shown.length ≤ sizeLine := k.elim (fun e => by subst e; cases x <;> cases h) id
    obtain ⟨z1, z2, z3, z4⟩ := z
    have hd : Dp K H x d := by
      cases x with
      | non => cases h; exact .non
      | bl b => cases h; exact .bl b
      | int i => cases h; exact .int i
      | str y => cases h; exact .str y
      | _ => cases h
    exact .inl ⟨x, d, rfl, hd, z1, z2, z3, z4, q⟩
  | tup h f =>
    obtain ⟨z1, z2, z3, z4⟩ := k.elim (fun e => by cases e) id
    exact .inl ⟨_, _, rfl, .tup (SqT.of h) (flD_dp f), z1, z2, z3, z4, q⟩
  | lst h f =>
    obtain ⟨z1, z2, z3, z4⟩ := k.elim (fun e => by cases e) id
    exact .inl ⟨_, _, rfl, .lst (.inl (.inl h)) (flD_dp f), z1, z2, z3, z4, q⟩
  | dict h => exact .inr ⟨_, rfl, h, q⟩
theorem strOk_of (s : String) : PySem.PyData.strOk (Str.ofString s) = true := by
  rw [Str.ofString_eq_toList]
  unfold PySem.PyData.strOk
  rw [Array.all_eq_true]
  intro i hi
  simp only [List.size_toArray, List.length_map] at hi
  simp only [List.getElem_toArray, List.getElem_map, decide_eq_true_eq]
  have hv := (s.toList[i]).valid
  have e : (s.toList[i]).toNat = (s.toList[i]).val.toNat := rfl
  rw [e]
  rcases hv with h | ⟨_, h⟩
  · exact Nat.lt_trans h (by decide)
  · exact h
theorem okD_int {i : Int} (h : i.natAbs.log2 < 1920) : OkD (.int i) := by
  refine ⟨.inr ⟨decide_eq_true h, rfl, (show 0 ≤ 16 by decide), ?_⟩, strOk_of _⟩
  have h3 := int_text_length_le (k := 1920) (by decide) h
  show (Str.ofString (toString i)).length ≤ sizeLine
  rw [PySem.ofString_length]
  have h6 : sizeLine = 16777216 := rfl
  omega
theorem okD_i {i : Int} (h0 : -(2 ^ 100) < i) (h1 : i < 2 ^ 100) : OkD (.int i) := okD_int (by
  by_cases hz : i.natAbs = 0
  · rw [hz]; decide
  · have h2 : i.natAbs < 2 ^ 100 := by omega
    exact Nat.lt_trans ((Nat.log2_lt hz).mpr h2) (by decide))
def okB (d : PyData) : Bool := (d.showable && (!d.hasDict && (decide (d.depth ≤ 16) && decide (d.shown.length ≤ 16777216)))) && PySem.PyData.strOk d.shown
theorem okD_of (h : okB d = true) : OkD d := by
  unfold okB at h
  simp only [Bool.and_eq_true, decide_eq_true_eq, Bool.not_eq_true'] at h
  exact ⟨.inr ⟨h.1.1, h.1.2.1, h.1.2.2.1, h.1.2.2.2⟩, h.2⟩
theorem okD_dict : OkD (.dict []) := ⟨.inl rfl, by decide +kernel⟩
/-- a value that the pool is not a part of -/
def OvP (p l : Addr) (H : Hp) (x : V) (d : PyData) : Prop := Ov H x d ∧ ∀ a, x = .ref a → a ≠ p ∧ a ≠ l
theorem OvP.extP (h : OvP p l H x d) (s : ExtP p l H H') : OvP p l H' x d := by
  obtain ⟨h, n⟩ := h
  refine ⟨?_, n⟩
  cases h with
  | at_ h => exact .at_ h
  | tup h f => exact .tup (s _ _ (n _ rfl).1 (n _ rfl).2 h fun ps z => by cases z) f
  | lst h f => exact .lst (s _ _ (n _ rfl).1 (n _ rfl).2 h fun ps z => by cases z) f
  | dict h => exact .dict (s _ _ (n _ rfl).1 (n _ rfl).2 h fun ps z => by cases z)
theorem OvP.sameP (h : OvP p l H x d) (s : SameP p l H H') : OvP p l H' x d := h.extP (.ofP s)
theorem OvP.at_ (h : flD x = some d) : OvP p l H x d := ⟨.at_ h, fun a e => by subst e; cases h⟩
/-- one of the values of a list, drawn -/
theorem drawOv {Pr : V → PyData → Prop} {L : Addr} {n : Int} {xs : List V} {Q : VK} (hp : PoolAt H p l) (hL : H L = some (.lst xs)) (n1 : L ≠ p) (n2 : L ≠ l) (hn : 0 < n) (hl : n.natAbs.log2 < 1920) (hx : n = xs.length) (hall : ∀ x ∈ xs, ∃ d, OvP p l H x d ∧ Pr x d)
    (q : ∀ x d H', SameP p l H H' → PoolAt H' p l → OvP p l H' x d → Pr x d → Q x H') :
    sp__law_draw K [.ref p, .int n] H (fun y H2 => ∃ x x_3, y = .int x_3 ∧ H2 L = some (.lst x) ∧ ∃ x_4, atI x x_3 = some x_4 ∧ Q x_4 H2) E0 := by
  refine draw hp hn hl fun i H1 s1 hp1 a b => ?_
  obtain ⟨v, hv, e⟩ := atV (xs := xs) a (by omega)
  obtain ⟨d, hd, hP⟩ := hall v (List.mem_of_getElem? hv)
  exact ⟨_, i, rfl, s1 _ _ n1 n2 hL, _, e, q v d H1 s1 hp1 (hd.sameP s1) hP⟩
/-! ### an error caught -/
/-- the class c is an own error, known by the word nm -/
structure KeC (K : Frag) (c nm : PySem.Str) : Prop where
  kn : ∃ i, KnF K (ga K c) i ∧ kdN.getD i "" = nm
  xf : XfC K (ga K c)
  no : PySem.W.findIn K (.ref (ga K c)) "value" = some none
  ex : PySem.W.exmOne K (.ref (ga K c)) (.ref (ga K "WheelError")) = some true
theorem kec_of {c nm file qual : PySem.Str} {i : Nat} (e : ErrF K c "value" file qual) (k : KnF K (ga K c) i ∧ PySem.W.exmOne K (.ref (ga K c)) (.ref (ga K "WheelError")) = some true) (h : kdN.getD i "" = nm) : KeC K c nm := ⟨⟨i, k.1, h⟩, e.xf, e.no, k.2⟩
def Ke (K : Frag) (cs : List (PySem.Str × PySem.Str)) : Prop := ∀ q ∈ cs, KeC K q.1 q.2
/-- the class c is an own error, known by the word nm, that tells its field fld -/
structure KeG (K : Frag) (c nm fld : PySem.Str) : Prop where
  kn : ∃ i, KnF K (ga K c) i ∧ kdN.getD i "" = nm
  xf : XfC K (ga K c)
  no : PySem.W.findIn K (.ref (ga K c)) fld = some none
  cl : (fld = "value" ∧ exmN K (ga K c) "WheelError" true) ∨ (fld = "delay" ∧ exmN K (ga K c) "WheelError" false ∧ exmN K (ga K c) "TooLong" true) ∨
    (fld = "limit" ∧ exmN K (ga K c) "WheelError" false ∧ exmN K (ga K c) "TooLong" false ∧ exmN K (ga K c) "TooMany" true)
theorem KeC.g {c nm : PySem.Str} (k : KeC K c nm) : KeG K c nm "value" := ⟨k.kn, k.xf, k.no, .inl ⟨rfl, k.ex⟩⟩
theorem KeG.out {c nm fld : PySem.Str} (k : KeG K c nm fld) {dd : Addr} (hd : H dd = none) (hv : Ov H x d) (ok : OkD d) {Q : VK} (q : ∀ (H2 : Hp) (R : Addr), Same H H2 → H2 R = none → Q (.ref R) (upd H2 R (.lst [.str nm, .str d.shown]))) :
    ErOut K Q (.ref (ga K c)) (some dd) (upd H dd (.xd [(fld, x)])) := by
  obtain ⟨⟨i, k1, k2⟩, k3, k4, k5⟩ := k
  have sn : Same H (upd H dd (.xd [(fld, x)])) := Same.new hd
  have hlk : ([(fld, x)] : List (PySem.Str × V)).lookup fld = some x := by simp [List.lookup]
  have hF : ErFld K fld (ga K c) [(fld, x)] i (upd H dd (.xd [(fld, x)])) Q := by
    refine ⟨x, k3, k4, hlk, fun H2 s2 => ?_⟩
    rw [k2]
    exact (hv.same (sn.trans s2)).repr ok fun R hR => q H2 R (sn.trans s2) hR
  refine ⟨_, _, [(fld, x)], i, rfl, rfl, k1, upd_same, ?_⟩
  rcases k5 with ⟨rfl, w1⟩ | ⟨rfl, w1, w2⟩ | ⟨rfl, w1, w2, w3⟩
  · exact .inl ⟨w1, hF⟩
  · exact .inr (.inl ⟨w1, w2, hF⟩)
  · exact .inr (.inr ⟨w1, w2, w3, hF⟩)
theorem KeC.out {c nm : PySem.Str} (k : KeC K c nm) {dd : Addr} (hd : H dd = none) (hv : Ov H x d) (ok : OkD d) {Q : VK} (q : ∀ (H2 : Hp) (R : Addr), Same H H2 → H2 R = none → Q (.ref R) (upd H2 R (.lst [.str nm, .str d.shown]))) :
    ErOut K Q (.ref (ga K c)) (some dd) (upd H dd (.xd [("value", x)])) := k.g.out hd hv ok q
theorem pair_shaped {nm t : PySem.Str} (h1 : PySem.PyData.strOk nm = true) (h2 : PySem.PyData.strOk t = true) : SeqAt.shaped (.list [.str nm, .str t]) = true := by
  have e : PyData.canLay0 (.list [.str nm, .str t]) = true := by
    show (PySem.PyData.strOk nm && (PySem.PyData.strOk t && true)) = true
    rw [h1, h2]; rfl
  unfold SeqAt.shaped
  rw [e]
  rfl
theorem pair_eqv {nm t : PySem.Str} : PyData.eqv (.list [.str nm, .str t]) (.list [.str nm, .str t]) = true := by
  show ((nm == nm) && ((t == t) && true)) = true
  simp
theorem dp_pair {a : Addr} {nm t : PySem.Str} (h : H a = some (.lst [.str nm, .str t])) : Dp K H (.ref a) (.list [.str nm, .str t]) := .lst (.inl (.inl h)) (.cons (.str _) (.cons (.str _) .nil))
/-- _law_caught(lambda: ..), where an error comes out, of a heap that has grown -/
theorem lam_errG {fld : PySem.Str} {T : List (Addr × PySem.Str)} {te : XK → TE} {σ : L2.St} {Q : VK} {c nm : PySem.Str} (k : KeG K c nm fld) (hT : Tabs T H) (ok : OkD d) (hov : Ov H x d)
    (hcall : ∀ (H1 : Hp) (E : XK) (Q : VK), ExtN H H1 → (∀ H2 dd, Same H1 H2 → H2 dd = none → E (.ref (ga K c)) (some dd) (upd H2 dd (.xd [(fld, x)]))) → te E σ H1 Q)
    (q : ∀ (R : Addr) (H' : Hp), H' R = some (.lst [.str nm, .str d.shown]) → ExtN H H' → Tabs T H' → Q (.ref R) H') : tLam T (TCg K) te σ H Q := by
  refine ⟨hT, fun H1 e1 T1 => hcall H1 _ _ e1 fun H1' dd s1 hd => k.out hd (hov.extN (e1.trans (Same.toN s1))) ok fun H2 R s2 hR => ?_⟩
  have s3 := (s1.trans s2).trans (Same.new (o := .lst [.str nm, .str d.shown]) hR)
  exact q R _ (updS H2 R _) (e1.trans (Same.toN s3)) (T1.ext fun b o z => s3 _ _ z)
/-- an error over WheelError -/
theorem lam_errS {T : List (Addr × PySem.Str)} {te : XK → TE} {σ : L2.St} {Q : VK} {c nm : PySem.Str} (k : KeC K c nm) (hT : Tabs T H) (ok : OkD d) (hov : Ov H x d)
    (hcall : ∀ (H1 : Hp) (E : XK) (Q : VK), ExtN H H1 → (∀ H2 dd, Same H1 H2 → H2 dd = none → E (.ref (ga K c)) (some dd) (upd H2 dd (.xd [("value", x)]))) → te E σ H1 Q)
    (q : ∀ (R : Addr) (H' : Hp), H' R = some (.lst [.str nm, .str d.shown]) → ExtN H H' → Tabs T H' → Q (.ref R) H') : tLam T (TCg K) te σ H Q := lam_errG k.g hT ok hov hcall q
/-- the same, of the heap as it stands -/
theorem lam_err {T : List (Addr × PySem.Str)} {te : XK → TE} {σ : L2.St} {Q : VK} {c nm : PySem.Str} (k : KeC K c nm) (hT : Tabs T H) (ok : OkD d) (hov : Ov H x d)
    (hcall : ∀ (H1 : Hp) (E : XK) (Q : VK), ExtN H H1 → (∀ dd, H1 dd = none → E (.ref (ga K c)) (some dd) (upd H1 dd (.xd [("value", x)]))) → te E σ H1 Q)
    (q : ∀ (R : Addr) (H' : Hp), H' R = some (.lst [.str nm, .str d.shown]) → ExtN H H' → Tabs T H' → Q (.ref R) H') : tLam T (TCg K) te σ H Q := lam_errS k hT ok hov (fun H1 E Q e hE => hcall H1 E Q e fun dd hd => hE H1 dd (Same.refl _) hd) q
/-- and where none comes out -/
theorem lam_ok {T : List (Addr × PySem.Str)} {te : XK → TE} {σ : L2.St} {Q : VK} (hT : Tabs T H)
    (hcall : ∀ (H1 : Hp) (E : XK) (Q : VK), ExtN H H1 → (∀ v H', Same H1 H' → Q v H') → te E σ H1 Q)
    (q : ∀ (H' : Hp), ExtN H H' → Tabs T H' → Q .non H') : tLam T (TCg K) te σ H Q :=
  ⟨hT, fun H1 e1 T1 => hcall H1 _ _ e1 fun v H' s => q H' (e1.trans (Same.toN s)) (T1.ext fun b o z => s _ _ z)⟩
/-- two such lists are the same -/
theorem pair_same {R R' : Addr} {nm t : PySem.Str} {Q : VK} (h1 : PySem.PyData.strOk nm = true) (h2 : PySem.PyData.strOk t = true) (a : H R = some (.lst [.str nm, .str t])) (b : H R' = some (.lst [.str nm, .str t])) (q : Q (.bl false) H) : rNeD K (.ref R) (.ref R') H Q :=
  ⟨_, _, dp_pair a, dp_pair b, pair_shaped h1 h2, pair_shaped h1 h2, by rw [pair_eqv]; exact q⟩
theorem pair_sameE {R R' : Addr} {nm t : PySem.Str} {Q : VK} (h1 : PySem.PyData.strOk nm = true) (h2 : PySem.PyData.strOk t = true) (a : H R = some (.lst [.str nm, .str t])) (b : H R' = some (.lst [.str nm, .str t])) (q : Q (.bl true) H) : rEqD K (.ref R) (.ref R') H Q :=
  ⟨_, _, dp_pair a, dp_pair b, pair_shaped h1 h2, pair_shaped h1 h2, by rw [pair_eqv]; exact q⟩
/-- an error is due: the test finds it -/
theorem caught_is {T : List (Addr × PySem.Str)} {te : XK → TE} {tb : TE} {σ : L2.St} {D : Ends} {c nm : PySem.Str} (k : KeC K c nm) (hn : PySem.PyData.strOk nm = true) (hT : Tabs T H) (ok : OkD d) (hov : Ov H x d)
    (hcall : ∀ (H1 : Hp) (E : XK) (Q : VK), ExtN H H1 → (∀ dd, H1 dd = none → E (.ref (ga K c)) (some dd) (upd H1 dd (.xd [("value", x)]))) → te E σ H1 Q)
    (htb : ∀ (H1 : Hp) (Q : VK), ExtN H H1 → (∀ (R : Addr) (H2 : Hp), Same H1 H2 → H2 R = none → Q (.ref R) (upd H2 R (.lst [.str nm, .str d.shown]))) → tb σ H1 Q)
    (hnx : ∀ H', ExtN H H' → Tabs T H' → D.nx σ H') :
    tIfS (tTest (tOp (rNeD K) (tLam T (TCg K) te) tb)) (tRet (tC (.bl false))) tNext D σ H := by
  refine lam_err k hT ok hov hcall fun R H3 a1 e3 T3 => htb H3 _ e3 fun R2 H4 s4 hR2 => ?_
  have s5 := s4.trans (Same.new (o := .lst [.str nm, .str d.shown]) hR2)
  exact pair_same hn ok.2 (s5 _ _ a1) (updS H4 R2 _) ⟨false, rfl, hnx _ (e3.trans (Same.toN s5)) (T3.ext fun b o z => s5 _ _ z)⟩
theorem none_same {Q : VK} (q : Q (.bl false) H) : rNeD K .non .non H Q := ⟨.none, .none, .non, .non, by decide, by decide, q⟩
theorem caught_isG {fld : PySem.Str} {T : List (Addr × PySem.Str)} {te : XK → TE} {tb : TE} {σ : L2.St} {D : Ends} {c nm : PySem.Str} (k : KeG K c nm fld) (hn : PySem.PyData.strOk nm = true) (hT : Tabs T H) (ok : OkD d) (hov : Ov H x d)
    (hcall : ∀ (H1 : Hp) (E : XK) (Q : VK), ExtN H H1 → (∀ H2 dd, Same H1 H2 → H2 dd = none → E (.ref (ga K c)) (some dd) (upd H2 dd (.xd [(fld, x)]))) → te E σ H1 Q)
    (htb : ∀ (H1 : Hp) (Q : VK), ExtN H H1 → (∀ (R : Addr) (H2 : Hp), Same H1 H2 → H2 R = none → Q (.ref R) (upd H2 R (.lst [.str nm, .str d.shown]))) → tb σ H1 Q)
    (hnx : ∀ H', ExtN H H' → Tabs T H' → D.nx σ H') :
    tIfS (tTest (tOp (rNeD K) (tLam T (TCg K) te) tb)) (tRet (tC (.bl false))) tNext D σ H := by
  refine lam_errG k hT ok hov hcall fun R H3 a1 e3 T3 => htb H3 _ e3 fun R2 H4 s4 hR2 => ?_
  have s5 := s4.trans (Same.new (o := .lst [.str nm, .str d.shown]) hR2)
  exact pair_same hn ok.2 (s5 _ _ a1) (updS H4 R2 _) ⟨false, rfl, hnx _ (e3.trans (Same.toN s5)) (T3.ext fun b o z => s5 _ _ z)⟩
/-- [name, repr(x)] -/
theorem lit_repr {i : Nat} {σ : L2.St} {nm : PySem.Str} {Q : VK} (h : σ[i]? = some (some x)) (hv : Ov H x d) (ok : OkD d) (q : ∀ (R : Addr) (H2 : Hp), Same H H2 → H2 R = none → Q (.ref R) (upd H2 R (.lst [.str nm, .str d.shown]))) :
    tLst (tCons (tC (.str nm)) (tCons (tCB (rReprE K) (tCons (tVar i) tNil)) tNil)) σ H Q := ⟨x, h, hv.repr ok ⟨(show 2 ≤ 16777216 by decide), fun R hR => q R H (Same.refl _) hR⟩⟩
end
end Tw
/-! Tw: own errors that are not over WheelError -/
namespace Tw
open PySem PySem.Spec PyProof.Rows L2 He
open PySem.W (Frag)
def bKnO (x : PySem.Str) (i : Nat) (K : Frag) : Bool := bExc K (ga K x) && (decide (i < 12) && (((List.range 12).all fun j => decide (PySem.W.kitOne K (.ref (ga K x)) (.ref (ga K (erN.getD j ""))) = some (decide (j = i)))) &&
  (decide (PySem.W.kitOne K (.ref (ga K x)) (.ref (ga K "WheelError")) = some (decide (i < 9))) && (decide (PySem.W.exmOne K (.ref (ga K x)) (.ref (ga K "WheelError")) = some false) &&
  (decide (PySem.W.exmOne K (.ref (ga K x)) (.ref (ga K "TooLong")) = some (decide (i = 9))) && decide (PySem.W.exmOne K (.ref (ga K x)) (.ref (ga K "TooMany")) = some (decide (i = 10))))))))
structure KnO (K : Frag) (x : PySem.Str) (i : Nat) : Prop where
  kn : KnF K (ga K x) i
  wh : exmN K (ga K x) "WheelError" false
  lo : exmN K (ga K x) "TooLong" (decide (i = 9))
  ma : exmN K (ga K x) "TooMany" (decide (i = 10))
theorem knO_ok {K : Frag} {x : PySem.Str} {i : Nat} (h : bKnO x i K = true) : KnO K x i := by
  unfold bKnO at h
  simp only [Bool.and_eq_true, decide_eq_true_eq] at h
  obtain ⟨h1, h2, h3, h4, h5, h6, h7⟩ := h
  refine ⟨⟨exc_ok h1, h2, fun j y hy => ?_, h4⟩, h5, h6, h7⟩
  have hj : j < 12 := (List.getElem?_eq_some_iff.mp hy).1
  have z := List.all_eq_true.mp h3 j (List.mem_range.mpr hj)
  rw [List.getD_eq_getElem?_getD, hy] at z
  exact of_decide_eq_true z
theorem keg_long {K : Frag} {file qual : PySem.Str} {bd : BaseD} (e : ErrG bd K "TooLong" "delay" file qual) (k : KnO K "TooLong" 9) : KeG K "TooLong" "long" "delay" := ⟨⟨9, k.kn, rfl⟩, e.xf, e.no, .inr (.inl ⟨rfl, k.wh, k.lo⟩)⟩
theorem keg_many {K : Frag} {file qual : PySem.Str} {bd : BaseD} (e : ErrG bd K "TooMany" "limit" file qual) (k : KnO K "TooMany" 10) : KeG K "TooMany" "many" "limit" := ⟨⟨10, k.kn, rfl⟩, e.xf, e.no, .inr (.inr ⟨rfl, k.wh, k.lo, k.ma⟩)⟩
end Tw
/-! Hd: the head of this law: facts by names, one run -/
namespace Hd
open PySem PySem.Spec PyProof.Rows L2 He PySem.W Tw
def top (i : Nat) : Stmt := PySem.Challenge.pw_timerwheels_k19_lateness.main.body.getD i (.Pass ⟨0, 0, 0, 0⟩)
abbrev file : PySem.Str := PySem.Challenge.pw_timerwheels_k19_lateness.main.file
abbrev s_is_switch : Stmt := top 18
def dd_is_switch : He5.DefA := { at_ := fun K => ga K "is_switch", name := "is_switch", qual := "is_switch", params := defArgs s_is_switch, body := defBody s_is_switch, scope := defScope s_is_switch, dfl := [], kwd := [] }
abbrev s_is_value : Stmt := top 19
def dd_is_value : He5.DefA := { at_ := fun K => ga K "is_value", name := "is_value", qual := "is_value", params := defArgs s_is_value, body := defBody s_is_value, scope := defScope s_is_value, dfl := [], kwd := [] }
abbrev s_book_of : Stmt := top 21
def dd_book_of : He5.DefA := { at_ := fun K => ga K "book_of", name := "book_of", qual := "book_of", params := defArgs s_book_of, body := defBody s_book_of, scope := defScope s_book_of, dfl := [], kwd := [] }
abbrev s_is_integer : Stmt := top 23
def dd_is_integer : He5.DefA := { at_ := fun K => ga K "is_integer", name := "is_integer", qual := "is_integer", params := defArgs s_is_integer, body := defBody s_is_integer, scope := defScope s_is_integer, dfl := [], kwd := [] }
abbrev s_is_count : Stmt := top 24
def dd_is_count : He5.DefA := { at_ := fun K => ga K "is_count", name := "is_count", qual := "is_count", params := defArgs s_is_count, body := defBody s_is_count, scope := defScope s_is_count, dfl := [], kwd := [] }
abbrev s_rounded : Stmt := top 26
def dd_rounded : He5.DefA := { at_ := fun K => ga K "rounded", name := "rounded", qual := "rounded", params := defArgs s_rounded, body := defBody s_rounded, scope := defScope s_rounded, dfl := [], kwd := [] }
abbrev s_spot_at : Stmt := top 27
def dd_spot_at : He5.DefA := { at_ := fun K => ga K "spot_at", name := "spot_at", qual := "spot_at", params := defArgs s_spot_at, body := defBody s_spot_at, scope := defScope s_spot_at, dfl := [], kwd := [] }
abbrev s_place : Stmt := top 28
def dd_place : He5.DefA := { at_ := fun K => ga K "place", name := "place", qual := "place", params := defArgs s_place, body := defBody s_place, scope := defScope s_place, dfl := [], kwd := [] }
abbrev s_visit_after : Stmt := top 29
def dd_visit_after : He5.DefA := { at_ := fun K => ga K "visit_after", name := "visit_after", qual := "visit_after", params := defArgs s_visit_after, body := defBody s_visit_after, scope := defScope s_visit_after, dfl := [], kwd := [] }
abbrev s_is_visited : Stmt := top 31
def dd_is_visited : He5.DefA := { at_ := fun K => ga K "is_visited", name := "is_visited", qual := "is_visited", params := defArgs s_is_visited, body := defBody s_is_visited, scope := defScope s_is_visited, dfl := [], kwd := [] }
abbrev s_taken_out : Stmt := top 32
def dd_taken_out : He5.DefA := { at_ := fun K => ga K "taken_out", name := "taken_out", qual := "taken_out", params := defArgs s_taken_out, body := defBody s_taken_out, scope := defScope s_taken_out, dfl := [], kwd := [] }
abbrev s_level_order : Stmt := top 33
def dd_level_order : He5.DefA := { at_ := fun K => ga K "level_order", name := "level_order", qual := "level_order", params := defArgs s_level_order, body := defBody s_level_order, scope := defScope s_level_order, dfl := [], kwd := [] }
abbrev s_visited : Stmt := top 34
def dd_visited : He5.DefA := { at_ := fun K => ga K "visited", name := "visited", qual := "visited", params := defArgs s_visited, body := defBody s_visited, scope := defScope s_visited, dfl := [], kwd := [] }
abbrev s_skipped : Stmt := top 35
def dd_skipped : He5.DefA := { at_ := fun K => ga K "skipped", name := "skipped", qual := "skipped", params := defArgs s_skipped, body := defBody s_skipped, scope := defScope s_skipped, dfl := [], kwd := [] }
abbrev s_shifted : Stmt := top 36
def dd_shifted : He5.DefA := { at_ := fun K => ga K "shifted", name := "shifted", qual := "shifted", params := defArgs s_shifted, body := defBody s_shifted, scope := defScope s_shifted, dfl := [], kwd := [] }
abbrev s_followed : Stmt := top 37
def dd_followed : He5.DefA := { at_ := fun K => ga K "followed", name := "followed", qual := "followed", params := defArgs s_followed, body := defBody s_followed, scope := defScope s_followed, dfl := [], kwd := [] }
abbrev s_fire_tick : Stmt := top 39
def dd_fire_tick : He5.DefA := { at_ := fun K => ga K "fire_tick", name := "fire_tick", qual := "fire_tick", params := defArgs s_fire_tick, body := defBody s_fire_tick, scope := defScope s_fire_tick, dfl := [], kwd := [] }
abbrev s_lateness : Stmt := top 41
def dd_lateness : He5.DefA := { at_ := fun K => ga K "lateness", name := "lateness", qual := "lateness", params := defArgs s_lateness, body := defBody s_lateness, scope := defScope s_lateness, dfl := [], kwd := [] }
abbrev s_is_within : Stmt := top 47
def dd_is_within : He5.DefA := { at_ := fun K => ga K "is_within", name := "is_within", qual := "is_within", params := defArgs s_is_within, body := defBody s_is_within, scope := defScope s_is_within, dfl := [], kwd := [] }
abbrev s_are_levels : Stmt := top 49
def dd_are_levels : He5.DefA := { at_ := fun K => ga K "are_levels", name := "are_levels", qual := "are_levels", params := defArgs s_are_levels, body := defBody s_are_levels, scope := defScope s_are_levels, dfl := [], kwd := [] }
abbrev s__law_begin : Stmt := top 52
def dd__law_begin : He5.DefA := { at_ := fun K => ga K "_law_begin", name := "_law_begin", qual := "_law_begin", params := defArgs s__law_begin, body := defBody s__law_begin, scope := defScope s__law_begin, dfl := [], kwd := [] }
abbrev s__law_mixed : Stmt := top 53
def dd__law_mixed : He5.DefA := { at_ := fun K => ga K "_law_mixed", name := "_law_mixed", qual := "_law_mixed", params := defArgs s__law_mixed, body := defBody s__law_mixed, scope := defScope s__law_mixed, dfl := [], kwd := [] }
abbrev s__law_draw : Stmt := top 54
def dd__law_draw : He5.DefA := { at_ := fun K => ga K "_law_draw", name := "_law_draw", qual := "_law_draw", params := defArgs s__law_draw, body := defBody s__law_draw, scope := defScope s__law_draw, dfl := [], kwd := [] }
abbrev s__law_span : Stmt := top 55
def dd__law_span : He5.DefA := { at_ := fun K => ga K "_law_span", name := "_law_span", qual := "_law_span", params := defArgs s__law_span, body := defBody s__law_span, scope := defScope s__law_span, dfl := [], kwd := [] }
abbrev s__law_draw_rows : Stmt := top 56
def dd__law_draw_rows : He5.DefA := { at_ := fun K => ga K "_law_draw_rows", name := "_law_draw_rows", qual := "_law_draw_rows", params := defArgs s__law_draw_rows, body := defBody s__law_draw_rows, scope := defScope s__law_draw_rows, dfl := [], kwd := [] }
abbrev s__law_draw_values : Stmt := top 57
def dd__law_draw_values : He5.DefA := { at_ := fun K => ga K "_law_draw_values", name := "_law_draw_values", qual := "_law_draw_values", params := defArgs s__law_draw_values, body := defBody s__law_draw_values, scope := defScope s__law_draw_values, dfl := [], kwd := [] }
abbrev s__law_wheel_of : Stmt := top 58
def dd__law_wheel_of : He5.DefA := { at_ := fun K => ga K "_law_wheel_of", name := "_law_wheel_of", qual := "_law_wheel_of", params := defArgs s__law_wheel_of, body := defBody s__law_wheel_of, scope := defScope s__law_wheel_of, dfl := [], kwd := [] }
abbrev s__law_made_wheel : Stmt := top 59
def dd__law_made_wheel : He5.DefA := { at_ := fun K => ga K "_law_made_wheel", name := "_law_made_wheel", qual := "_law_made_wheel", params := defArgs s__law_made_wheel, body := defBody s__law_made_wheel, scope := defScope s__law_made_wheel, dfl := [], kwd := [] }
abbrev s__law_made_book : Stmt := top 60
def dd__law_made_book : He5.DefA := { at_ := fun K => ga K "_law_made_book", name := "_law_made_book", qual := "_law_made_book", params := defArgs s__law_made_book, body := defBody s__law_made_book, scope := defScope s__law_made_book, dfl := [], kwd := [] }
abbrev s__law_turned : Stmt := top 61
def dd__law_turned : He5.DefA := { at_ := fun K => ga K "_law_turned", name := "_law_turned", qual := "_law_turned", params := defArgs s__law_turned, body := defBody s__law_turned, scope := defScope s__law_turned, dfl := [], kwd := [] }
abbrev s__law_belongs : Stmt := top 62
def dd__law_belongs : He5.DefA := { at_ := fun K => ga K "_law_belongs", name := "_law_belongs", qual := "_law_belongs", params := defArgs s__law_belongs, body := defBody s__law_belongs, scope := defScope s__law_belongs, dfl := [], kwd := [] }
abbrev s__law_spot_at : Stmt := top 63
def dd__law_spot_at : He5.DefA := { at_ := fun K => ga K "_law_spot_at", name := "_law_spot_at", qual := "_law_spot_at", params := defArgs s__law_spot_at, body := defBody s__law_spot_at, scope := defScope s__law_spot_at, dfl := [], kwd := [] }
abbrev s__law_put : Stmt := top 64
def dd__law_put : He5.DefA := { at_ := fun K => ga K "_law_put", name := "_law_put", qual := "_law_put", params := defArgs s__law_put, body := defBody s__law_put, scope := defScope s__law_put, dfl := [], kwd := [] }
abbrev s__law_out : Stmt := top 65
def dd__law_out : He5.DefA := { at_ := fun K => ga K "_law_out", name := "_law_out", qual := "_law_out", params := defArgs s__law_out, body := defBody s__law_out, scope := defScope s__law_out, dfl := [], kwd := [] }
abbrev s__law_sweep : Stmt := top 66
def dd__law_sweep : He5.DefA := { at_ := fun K => ga K "_law_sweep", name := "_law_sweep", qual := "_law_sweep", params := defArgs s__law_sweep, body := defBody s__law_sweep, scope := defScope s__law_sweep, dfl := [], kwd := [] }
abbrev s__law_visit : Stmt := top 67
def dd__law_visit : He5.DefA := { at_ := fun K => ga K "_law_visit", name := "_law_visit", qual := "_law_visit", params := defArgs s__law_visit, body := defBody s__law_visit, scope := defScope s__law_visit, dfl := [], kwd := [] }
abbrev s__law_run : Stmt := top 68
def dd__law_run : He5.DefA := { at_ := fun K => ga K "_law_run", name := "_law_run", qual := "_law_run", params := defArgs s__law_run, body := defBody s__law_run, scope := defScope s__law_run, dfl := [], kwd := [] }
abbrev s__law_fire : Stmt := top 69
def dd__law_fire : He5.DefA := { at_ := fun K => ga K "_law_fire", name := "_law_fire", qual := "_law_fire", params := defArgs s__law_fire, body := defBody s__law_fire, scope := defScope s__law_fire, dfl := [], kwd := [] }
abbrev s__law_lag : Stmt := top 70
def dd__law_lag : He5.DefA := { at_ := fun K => ga K "_law_lag", name := "_law_lag", qual := "_law_lag", params := defArgs s__law_lag, body := defBody s__law_lag, scope := defScope s__law_lag, dfl := [], kwd := [] }
abbrev s__law_kind : Stmt := top 71
def dd__law_kind : He5.DefA := { at_ := fun K => ga K "_law_kind", name := "_law_kind", qual := "_law_kind", params := defArgs s__law_kind, body := defBody s__law_kind, scope := defScope s__law_kind, dfl := [], kwd := [] }
abbrev s__law_caught : Stmt := top 72
def dd__law_caught : He5.DefA := { at_ := fun K => ga K "_law_caught", name := "_law_caught", qual := "_law_caught", params := defArgs s__law_caught, body := defBody s__law_caught, scope := defScope s__law_caught, dfl := [], kwd := [] }
abbrev s__law_bad_number : Stmt := top 73
def dd__law_bad_number : He5.DefA := { at_ := fun K => ga K "_law_bad_number", name := "_law_bad_number", qual := "_law_bad_number", params := defArgs s__law_bad_number, body := defBody s__law_bad_number, scope := defScope s__law_bad_number, dfl := [], kwd := [] }
abbrev s_law : Stmt := top 74
def dd_law : He5.DefA := { at_ := fun K => ga K "law", name := "law", qual := "law", params := defArgs s_law, body := defBody s_law, scope := defScope s_law, dfl := [], kwd := [] }
abbrev s_InvalidNumber___init__ : Stmt := inClass (top 3) 0
def ee_InvalidNumber : ErA := { cls := "InvalidNumber", name := "__init__", qual := "InvalidNumber.__init__", params := defArgs s_InvalidNumber___init__, body := defBody s_InvalidNumber___init__, scope := defScope s_InvalidNumber___init__ }
abbrev s_InvalidText___init__ : Stmt := inClass (top 4) 0
def ee_InvalidText : ErA := { cls := "InvalidText", name := "__init__", qual := "InvalidText.__init__", params := defArgs s_InvalidText___init__, body := defBody s_InvalidText___init__, scope := defScope s_InvalidText___init__ }
abbrev s_InvalidLevels___init__ : Stmt := inClass (top 6) 0
def ee_InvalidLevels : ErA := { cls := "InvalidLevels", name := "__init__", qual := "InvalidLevels.__init__", params := defArgs s_InvalidLevels___init__, body := defBody s_InvalidLevels___init__, scope := defScope s_InvalidLevels___init__ }
abbrev s_InvalidSwitch___init__ : Stmt := inClass (top 7) 0
def ee_InvalidSwitch : ErA := { cls := "InvalidSwitch", name := "__init__", qual := "InvalidSwitch.__init__", params := defArgs s_InvalidSwitch___init__, body := defBody s_InvalidSwitch___init__, scope := defScope s_InvalidSwitch___init__ }
abbrev s_TooLong___init__ : Stmt := inClass (top 12) 0
def ee_TooLong : ErA := { cls := "TooLong", name := "__init__", qual := "TooLong.__init__", params := defArgs s_TooLong___init__, body := defBody s_TooLong___init__, scope := defScope s_TooLong___init__ }
abbrev s_Level___init__ : Stmt := inClass (top 48) 0
def dd_Level___init__ : He5.DefA := { at_ := fun K => ma K (ga K "Level") "__init__", name := "__init__", qual := "Level.__init__", params := defArgs s_Level___init__, body := defBody s_Level___init__, scope := defScope s_Level___init__, dfl := [], kwd := [("span", .non)] }
abbrev s_Level_grain : Stmt := inClass (top 48) 1
def dd_Level_grain : He5.DefA := { at_ := fun K => pa K (ga K "Level") "grain", name := "grain", qual := "Level.grain", params := defArgs s_Level_grain, body := defBody s_Level_grain, scope := defScope s_Level_grain, dfl := [], kwd := [] }
abbrev s_Level_slots : Stmt := inClass (top 48) 2
def dd_Level_slots : He5.DefA := { at_ := fun K => pa K (ga K "Level") "slots", name := "slots", qual := "Level.slots", params := defArgs s_Level_slots, body := defBody s_Level_slots, scope := defScope s_Level_slots, dfl := [], kwd := [] }
abbrev s_Level_span : Stmt := inClass (top 48) 3
def dd_Level_span : He5.DefA := { at_ := fun K => pa K (ga K "Level") "span", name := "span", qual := "Level.span", params := defArgs s_Level_span, body := defBody s_Level_span, scope := defScope s_Level_span, dfl := [], kwd := [] }
abbrev s_Level___eq__ : Stmt := inClass (top 48) 4
def dd_Level___eq__ : He5.DefA := { at_ := fun K => ma K (ga K "Level") "__eq__", name := "__eq__", qual := "Level.__eq__", params := defArgs s_Level___eq__, body := defBody s_Level___eq__, scope := defScope s_Level___eq__, dfl := [], kwd := [] }
abbrev s_Wheel___init__ : Stmt := inClass (top 50) 0
def dd_Wheel___init__ : He5.DefA := { at_ := fun K => ma K (ga K "Wheel") "__init__", name := "__init__", qual := "Wheel.__init__", params := defArgs s_Wheel___init__, body := defBody s_Wheel___init__, scope := defScope s_Wheel___init__, dfl := [], kwd := [] }
abbrev s_Wheel_levels : Stmt := inClass (top 50) 1
def dd_Wheel_levels : He5.DefA := { at_ := fun K => pa K (ga K "Wheel") "levels", name := "levels", qual := "Wheel.levels", params := defArgs s_Wheel_levels, body := defBody s_Wheel_levels, scope := defScope s_Wheel_levels, dfl := [], kwd := [] }
abbrev s_Wheel_reach : Stmt := inClass (top 50) 2
def dd_Wheel_reach : He5.DefA := { at_ := fun K => pa K (ga K "Wheel") "reach", name := "reach", qual := "Wheel.reach", params := defArgs s_Wheel_reach, body := defBody s_Wheel_reach, scope := defScope s_Wheel_reach, dfl := [], kwd := [] }
abbrev s_Wheel___len__ : Stmt := inClass (top 50) 3
def dd_Wheel___len__ : He5.DefA := { at_ := fun K => ma K (ga K "Wheel") "__len__", name := "__len__", qual := "Wheel.__len__", params := defArgs s_Wheel___len__, body := defBody s_Wheel___len__, scope := defScope s_Wheel___len__, dfl := [], kwd := [] }
abbrev s_Wheel___getitem__ : Stmt := inClass (top 50) 4
def dd_Wheel___getitem__ : He5.DefA := { at_ := fun K => ma K (ga K "Wheel") "__getitem__", name := "__getitem__", qual := "Wheel.__getitem__", params := defArgs s_Wheel___getitem__, body := defBody s_Wheel___getitem__, scope := defScope s_Wheel___getitem__, dfl := [], kwd := [] }
abbrev s_Wheel___iter__ : Stmt := inClass (top 50) 5
def dd_Wheel___iter__ : He5.DefA := { at_ := fun K => ma K (ga K "Wheel") "__iter__", name := "__iter__", qual := "Wheel.__iter__", params := defArgs s_Wheel___iter__, body := defBody s_Wheel___iter__, scope := defScope s_Wheel___iter__, dfl := [], kwd := [] }
abbrev s_Wheel___contains__ : Stmt := inClass (top 50) 6
def dd_Wheel___contains__ : He5.DefA := { at_ := fun K => ma K (ga K "Wheel") "__contains__", name := "__contains__", qual := "Wheel.__contains__", params := defArgs s_Wheel___contains__, body := defBody s_Wheel___contains__, scope := defScope s_Wheel___contains__, dfl := [], kwd := [] }
abbrev s_Wheel___eq__ : Stmt := inClass (top 50) 7
def dd_Wheel___eq__ : He5.DefA := { at_ := fun K => ma K (ga K "Wheel") "__eq__", name := "__eq__", qual := "Wheel.__eq__", params := defArgs s_Wheel___eq__, body := defBody s_Wheel___eq__, scope := defScope s_Wheel___eq__, dfl := [], kwd := [] }
abbrev s_Wheel_level_of : Stmt := inClass (top 50) 8
def dd_Wheel_level_of : He5.DefA := { at_ := fun K => ma K (ga K "Wheel") "level_of", name := "level_of", qual := "Wheel.level_of", params := defArgs s_Wheel_level_of, body := defBody s_Wheel_level_of, scope := defScope s_Wheel_level_of, dfl := [], kwd := [] }
abbrev s_Book___init__ : Stmt := inClass (top 20) 0
def dd_Book___init__ : He5.DefA := { at_ := fun K => ma K (ga K "Book") "__init__", name := "__init__", qual := "Book.__init__", params := defArgs s_Book___init__, body := defBody s_Book___init__, scope := defScope s_Book___init__, dfl := [], kwd := [("rounding", .str "down"), ("action", .str "move"), ("order", .str "high"), ("due", .str "now"), ("zero", .str "one"), ("beyond", .str "refuse")] }
abbrev s_Book_rounding : Stmt := inClass (top 20) 1
def dd_Book_rounding : He5.DefA := { at_ := fun K => pa K (ga K "Book") "rounding", name := "rounding", qual := "Book.rounding", params := defArgs s_Book_rounding, body := defBody s_Book_rounding, scope := defScope s_Book_rounding, dfl := [], kwd := [] }
abbrev s_Book_action : Stmt := inClass (top 20) 2
def dd_Book_action : He5.DefA := { at_ := fun K => pa K (ga K "Book") "action", name := "action", qual := "Book.action", params := defArgs s_Book_action, body := defBody s_Book_action, scope := defScope s_Book_action, dfl := [], kwd := [] }
abbrev s_Book_order : Stmt := inClass (top 20) 3
def dd_Book_order : He5.DefA := { at_ := fun K => pa K (ga K "Book") "order", name := "order", qual := "Book.order", params := defArgs s_Book_order, body := defBody s_Book_order, scope := defScope s_Book_order, dfl := [], kwd := [] }
abbrev s_Book_due : Stmt := inClass (top 20) 4
def dd_Book_due : He5.DefA := { at_ := fun K => pa K (ga K "Book") "due", name := "due", qual := "Book.due", params := defArgs s_Book_due, body := defBody s_Book_due, scope := defScope s_Book_due, dfl := [], kwd := [] }
abbrev s_Book_zero : Stmt := inClass (top 20) 5
def dd_Book_zero : He5.DefA := { at_ := fun K => pa K (ga K "Book") "zero", name := "zero", qual := "Book.zero", params := defArgs s_Book_zero, body := defBody s_Book_zero, scope := defScope s_Book_zero, dfl := [], kwd := [] }
abbrev s_Book_beyond : Stmt := inClass (top 20) 6
def dd_Book_beyond : He5.DefA := { at_ := fun K => pa K (ga K "Book") "beyond", name := "beyond", qual := "Book.beyond", params := defArgs s_Book_beyond, body := defBody s_Book_beyond, scope := defScope s_Book_beyond, dfl := [], kwd := [] }
abbrev s_Book_text : Stmt := inClass (top 20) 7
def dd_Book_text : He5.DefA := { at_ := fun K => pa K (ga K "Book") "text", name := "text", qual := "Book.text", params := defArgs s_Book_text, body := defBody s_Book_text, scope := defScope s_Book_text, dfl := [], kwd := [] }
abbrev s_Book___eq__ : Stmt := inClass (top 20) 8
def dd_Book___eq__ : He5.DefA := { at_ := fun K => ma K (ga K "Book") "__eq__", name := "__eq__", qual := "Book.__eq__", params := defArgs s_Book___eq__, body := defBody s_Book___eq__, scope := defScope s_Book___eq__, dfl := [], kwd := [] }
abbrev s_Book___getitem__ : Stmt := inClass (top 20) 9
def dd_Book___getitem__ : He5.DefA := { at_ := fun K => ma K (ga K "Book") "__getitem__", name := "__getitem__", qual := "Book.__getitem__", params := defArgs s_Book___getitem__, body := defBody s_Book___getitem__, scope := defScope s_Book___getitem__, dfl := [], kwd := [] }
abbrev s_Book___iter__ : Stmt := inClass (top 20) 10
def dd_Book___iter__ : He5.DefA := { at_ := fun K => ma K (ga K "Book") "__iter__", name := "__iter__", qual := "Book.__iter__", params := defArgs s_Book___iter__, body := defBody s_Book___iter__, scope := defScope s_Book___iter__, dfl := [], kwd := [] }
abbrev s_Book___contains__ : Stmt := inClass (top 20) 11
def dd_Book___contains__ : He5.DefA := { at_ := fun K => ma K (ga K "Book") "__contains__", name := "__contains__", qual := "Book.__contains__", params := defArgs s_Book___contains__, body := defBody s_Book___contains__, scope := defScope s_Book___contains__, dfl := [], kwd := [] }
abbrev s_Book_from_text : Stmt := inClass (top 20) 13
def dd_Book_from_text : He5.DefA := { at_ := fun K => He5.wf K (ga K "Book") "classmethod" "from_text", name := "from_text", qual := "Book.from_text", params := defArgs s_Book_from_text, body := defBody s_Book_from_text, scope := defScope s_Book_from_text, dfl := [], kwd := [] }
def fa_0 : List (He.Fa) := [.free "len",
  .free "isinstance",
  .free "zip",
  .free "range",
  .free "enumerate",
  .free "list",
  .free "tuple",
  .free "int",
  .free "str",
  .free "abs",
  .free "max",
  .free "min",
  .free "all",
  .free "repr",
  .free "sorted",
  .free "bool",
  .free "set",
  .free "sum",
  .free "any",
  .free "type",
  .free "super",
  .glo "SWITCHES",
  .glo "VALUES",
  .int "MOST_GRAIN" 1000,
  .int "MOST_SLOTS" 100,
  .int "MOST_TURNS" 4,
  .int "MOST_LEVELS" 5,
  .glo "is_switch",
  .glo "is_value",
  .glo "book_of"]
def fa_1 : List (He.Fa) := [.glo "is_integer",
  .glo "is_count",
  .glo "rounded",
  .glo "spot_at",
  .glo "place",
  .glo "visit_after",
  .glo "is_visited",
  .glo "taken_out",
  .glo "level_order",
  .glo "visited",
  .glo "skipped",
  .glo "shifted",
  .glo "followed",
  .glo "fire_tick",
  .glo "lateness",
  .glo "is_within",
  .glo "are_levels",
  .glo "_law_begin",
  .glo "_law_mixed",
  .glo "_law_draw",
  .glo "_law_span",
  .glo "_law_draw_rows",
  .glo "_law_draw_values",
  .glo "_law_wheel_of",
  .glo "_law_made_wheel",
  .glo "_law_made_book",
  .glo "_law_turned",
  .glo "_law_belongs",
  .glo "_law_spot_at",
  .glo "_law_put"]
def fa_2 : List (He.Fa) := [.glo "_law_out",
  .glo "_law_sweep",
  .glo "_law_visit",
  .glo "_law_run",
  .glo "_law_fire",
  .glo "_law_lag",
  .glo "_law_kind",
  .glo "_law_caught",
  .glo "_law_bad_number",
  .glo "law",
  .glo "WheelError",
  .glo "InvalidNumber",
  .glo "InvalidText",
  .glo "InvalidName",
  .glo "InvalidLevels",
  .glo "InvalidSwitch",
  .glo "InvalidMode",
  .glo "InvalidMenu",
  .glo "InvalidPlan",
  .glo "InvalidCommand",
  .glo "TooLong",
  .glo "TooMany",
  .glo "NothingToUndo",
  .glo "Level",
  .cls "Level",
  .mkr "Level",
  .noat "Level" "kept_grain",
  .noat "Level" "kept_slots",
  .noat "Level" "kept_span",
  .meth "Level" "__eq__"]
def fa_3 : List (He.Fa) := [.glo "Wheel",
  .cls "Wheel",
  .mkr "Wheel",
  .noat "Wheel" "kept_levels",
  .meth "Wheel" "__len__",
  .meth "Wheel" "__getitem__",
  .meth "Wheel" "__iter__",
  .meth "Wheel" "__contains__",
  .meth "Wheel" "__eq__",
  .meth "Wheel" "level_of",
  .glo "Book",
  .cls "Book",
  .mkr "Book",
  .noat "Book" "kept_values",
  .meth "Book" "__eq__",
  .meth "Book" "__getitem__",
  .meth "Book" "__iter__",
  .meth "Book" "__contains__"]
def fa : List (He.Fa) := fa_0 ++ fa_1 ++ fa_2 ++ fa_3
def fb_0 : List (Frag → Bool) := [bTup (fun K => ga K "SWITCHES") [.str "rounding", .str "action", .str "order", .str "due", .str "zero", .str "beyond"],
  bVal (fun K => ga K "VALUES") ["rounding", "action", "order", "due", "zero", "beyond"],
  bTup (fun K => dva K (ga K "VALUES") "rounding") [.str "down", .str "up"],
  bTup (fun K => dva K (ga K "VALUES") "action") [.str "fire", .str "move"],
  bTup (fun K => dva K (ga K "VALUES") "order") [.str "high", .str "low"],
  bTup (fun K => dva K (ga K "VALUES") "due") [.str "now", .str "put"],
  bTup (fun K => dva K (ga K "VALUES") "zero") [.str "now", .str "one"],
  bTup (fun K => dva K (ga K "VALUES") "beyond") [.str "refuse", .str "last", .str "cut"],
  bErr "InvalidNumber" "value" file "InvalidNumber.__init__",
  bKn "InvalidNumber" 0,
  bErr "InvalidText" "value" file "InvalidText.__init__",
  bKn "InvalidText" 1,
  bErr "InvalidLevels" "value" file "InvalidLevels.__init__",
  bKn "InvalidLevels" 3,
  bErr "InvalidSwitch" "value" file "InvalidSwitch.__init__",
  bKn "InvalidSwitch" 4,
  bErG dOE "TooLong" "delay" file "TooLong.__init__",
  bKnO "TooLong" 9,
  fun K => codeHdIn K (codA K (ga K "law")) (tbA K (ga K "law")),
  bOff 849,
  fun K => decide (tbA K (ga K "law") = 849),
  bIsi "Level",
  bKit (fun K => .ref (ga K "Level")) (fun K => .ref (ga K "Level")) true,
  bFn fun K => ma K (ga K "Level") "__init__",
  bProp "Level" "grain",
  bProp "Level" "slots",
  bProp "Level" "span",
  bFn fun K => ma K (ga K "Level") "__eq__",
  bIsi "Wheel",
  bKit (fun K => .ref (ga K "Wheel")) (fun K => .ref (ga K "Wheel")) true]
def fb_1 : List (Frag → Bool) := [bFn fun K => ma K (ga K "Wheel") "__init__",
  bProp "Wheel" "levels",
  bProp "Wheel" "reach",
  bFn fun K => ma K (ga K "Wheel") "__len__",
  bFn fun K => ma K (ga K "Wheel") "__getitem__",
  bFn fun K => ma K (ga K "Wheel") "__iter__",
  bFn fun K => ma K (ga K "Wheel") "__contains__",
  bFn fun K => ma K (ga K "Wheel") "__eq__",
  bFn fun K => ma K (ga K "Wheel") "level_of",
  bIsi "Book",
  bKit (fun K => .ref (ga K "Book")) (fun K => .ref (ga K "Book")) true,
  bFn fun K => ma K (ga K "Book") "__init__",
  bProp "Book" "rounding",
  bProp "Book" "action",
  bProp "Book" "order",
  bProp "Book" "due",
  bProp "Book" "zero",
  bProp "Book" "beyond",
  bProp "Book" "text",
  bFn fun K => ma K (ga K "Book") "__eq__",
  bFn fun K => ma K (ga K "Book") "__getitem__",
  bFn fun K => ma K (ga K "Book") "__iter__",
  bFn fun K => ma K (ga K "Book") "__contains__",
  bCm "Book" "from_text",
  bCread "Book"]
def fb : List (Frag → Bool) := fb_0 ++ fb_1
def fn_0 : List (He5.DefA) := [dd_is_switch,
  dd_is_value,
  dd_book_of,
  dd_is_integer,
  dd_is_count,
  dd_rounded,
  dd_spot_at,
  dd_place,
  dd_visit_after,
  dd_is_visited,
  dd_taken_out,
  dd_level_order,
  dd_visited,
  dd_skipped,
  dd_shifted,
  dd_followed,
  dd_fire_tick,
  dd_lateness,
  dd_is_within,
  dd_are_levels,
  dd__law_begin,
  dd__law_mixed,
  dd__law_draw,
  dd__law_span,
  dd__law_draw_rows,
  dd__law_draw_values,
  dd__law_wheel_of,
  dd__law_made_wheel,
  dd__law_made_book,
  dd__law_turned]
def fn_1 : List (He5.DefA) := [dd__law_belongs,
  dd__law_spot_at,
  dd__law_put,
  dd__law_out,
  dd__law_sweep,
  dd__law_visit,
  dd__law_run,
  dd__law_fire,
  dd__law_lag,
  dd__law_kind,
  dd__law_caught,
  dd__law_bad_number,
  dd_law,
  dd_Level___init__,
  dd_Level_grain,
  dd_Level_slots,
  dd_Level_span,
  dd_Level___eq__,
  dd_Wheel___init__,
  dd_Wheel_levels,
  dd_Wheel_reach,
  dd_Wheel___len__,
  dd_Wheel___getitem__,
  dd_Wheel___iter__,
  dd_Wheel___contains__,
  dd_Wheel___eq__,
  dd_Wheel_level_of,
  dd_Book___init__,
  dd_Book_rounding,
  dd_Book_action]
def fn_2 : List (He5.DefA) := [dd_Book_order,
  dd_Book_due,
  dd_Book_zero,
  dd_Book_beyond,
  dd_Book_text,
  dd_Book___eq__,
  dd_Book___getitem__,
  dd_Book___iter__,
  dd_Book___contains__,
  dd_Book_from_text]
def fn : List (He5.DefA) := fn_0 ++ fn_1 ++ fn_2
def ts_0 : List (He.Tab) := [((fun K => ga K "VALUES"), ["rounding", "action", "order", "due", "zero", "beyond"])]
def ts : List (He.Tab) := ts_0
def er_0 : List (ErA) := [ee_InvalidNumber,
  ee_InvalidText,
  ee_InvalidLevels,
  ee_InvalidSwitch,
  ee_TooLong]
def er : List (ErA) := er_0
abbrev R : PySem.W.OpenRow := PySem.W.OpenLaw.row PySem.Challenge.rw_timerwheels_k19_lateness
def adr : List Addr := [3, 31, 53, 74, 95, 116, 137, 158, 179, 200, 221, 242, 264, 277, 281, 282, 295, 302, 421, 432, 439, 446, 453, 460, 467, 474, 481, 488, 495, 502, 509, 516, 523, 530, 537, 544, 593, 602, 697, 706, 713, 720, 727, 734, 741, 748, 753, 760, 767, 774, 781, 788, 795, 800, 807, 812, 819, 826, 833, 840, 847, 854, 30, 52, 73, 115, 136, 241, 283, 284, 285, 286, 287, 288, 294, 301, 420, 431, 438, 445, 452, 459, 466, 473, 480, 487, 494, 501, 508, 515, 522, 529, 536, 543, 592, 601, 696, 705, 712, 719, 726, 733, 740, 747, 752, 759, 766, 773, 780, 787, 794, 799, 806, 811, 818, 825, 832, 839, 846, 853, 50, 71, 113, 134, 239, 317, 325, 333, 341, 349, 357, 365, 373, 380, 387, 394, 401, 417, 559, 567, 575, 583, 590, 616, 624, 632, 639, 646, 653, 660, 667, 674, 49, 38, 70, 59, 112, 101, 133, 122, 238, 227, 316, 310, 324, 332, 340, 348, 356, 364, 372, 379, 386, 393, 400, 415, 558, 552, 566, 574, 582, 589, 615, 623, 631, 638, 645, 652, 659, 666, 673, 323, 331, 339, 347, 355, 363, 371, 414, 565, 573, 581, 622, 630, 2]
abbrev hk : PySem.W.Hook := hookE adr fa fb fn er ts [849]
def ob (s : PySem.W.SharedT) : AlE := obsE adr fa fb fn er ts [849] (HandSHeadRun.getT s)
theorem ob_eq (s : PySem.W.SharedT) : ob s = hk.obs s.abs := obsE_eq (HandSHeadRun.getT_eq s)
def loose : List PySem.Str := (["_wall", "__name__", "WheelError", "InvalidNumber", "InvalidText", "InvalidName", "InvalidLevels", "InvalidSwitch", "InvalidMode", "InvalidMenu", "InvalidPlan", "InvalidCommand", "TooLong", "TooMany", "NothingToUndo"] : List PySem.Str) ++ (["SWITCHES", "VALUES", "is_switch", "is_value", "Book", "book_of", "is_integer", "is_count", "rounded", "spot_at", "place", "visit_after", "is_visited", "taken_out", "level_order"] : List PySem.Str) ++ (["visited", "skipped", "shifted", "followed", "fire_tick", "lateness", "MOST_GRAIN", "MOST_SLOTS", "MOST_TURNS", "MOST_LEVELS", "is_within", "Level", "are_levels", "Wheel", "_law_begin"] : List PySem.Str) ++ (["_law_mixed", "_law_draw", "_law_span", "_law_draw_rows", "_law_draw_values", "_law_wheel_of", "_law_made_wheel", "_law_made_book", "_law_turned", "_law_belongs", "_law_spot_at", "_law_put", "_law_out", "_law_sweep", "_law_visit"] : List PySem.Str) ++ (["_law_run", "_law_fire", "_law_lag", "_law_kind", "_law_caught", "_law_bad_number"] : List PySem.Str)
theorem run0 (w : World) : HandSHeadRun.RunEq R (PySem.W.view R.prog [74]) hk ob 8043 loose (w.withFollow "special-get-raises" false) := by
  intro os
  kernel_rfl
theorem run1 (w : World) : HandSHeadRun.RunEq R (PySem.W.view R.prog [74]) hk ob 8043 loose (w.withFollow "special-get-raises" true) := by
  intro os
  kernel_rfl
theorem run (w : World) : HandSHeadRun.RunEq R (PySem.W.view R.prog [74]) hk ob 8043 loose w := byRow2 "special-get-raises" (P := fun w => HandSHeadRun.RunEq R (PySem.W.view R.prog [74]) hk ob 8043 loose w) run0 run1 w
structure Tx (K : Frag) (mg : PySem.Str → Option Value) (w : World) : Prop where
  ex : ∃ h : Heap, K.In h ∧ h.Ns mainGlobals mg
  says : SaysM fa fb fn ts w K
  errs : SaysE fa fb fn er ts w K
section
variable {K : Frag} {mg : PySem.Str → Option Value} {w : World}
theorem free_len (T : Tx K mg w) : mg "len" = none := by
  obtain ⟨h, X, G⟩ := T.ex
  exact He.free_ok X G (T.says.fact 0 rfl)
theorem free_isinstance (T : Tx K mg w) : mg "isinstance" = none := by
  obtain ⟨h, X, G⟩ := T.ex
  exact He.free_ok X G (T.says.fact 1 rfl)
theorem free_zip (T : Tx K mg w) : mg "zip" = none := by
  obtain ⟨h, X, G⟩ := T.ex
  exact He.free_ok X G (T.says.fact 2 rfl)
theorem free_range (T : Tx K mg w) : mg "range" = none := by
  obtain ⟨h, X, G⟩ := T.ex
  exact He.free_ok X G (T.says.fact 3 rfl)
theorem free_enumerate (T : Tx K mg w) : mg "enumerate" = none := by
  obtain ⟨h, X, G⟩ := T.ex
  exact He.free_ok X G (T.says.fact 4 rfl)
theorem free_list (T : Tx K mg w) : mg "list" = none := by
  obtain ⟨h, X, G⟩ := T.ex
  exact He.free_ok X G (T.says.fact 5 rfl)
theorem free_tuple (T : Tx K mg w) : mg "tuple" = none := by
  obtain ⟨h, X, G⟩ := T.ex
  exact He.free_ok X G (T.says.fact 6 rfl)
theorem free_int (T : Tx K mg w) : mg "int" = none := by
  obtain ⟨h, X, G⟩ := T.ex
  exact He.free_ok X G (T.says.fact 7 rfl)
theorem free_str (T : Tx K mg w) : mg "str" = none := by
  obtain ⟨h, X, G⟩ := T.ex
  exact He.free_ok X G (T.says.fact 8 rfl)
theorem free_abs (T : Tx K mg w) : mg "abs" = none := by
  obtain ⟨h, X, G⟩ := T.ex
  exact He.free_ok X G (T.says.fact 9 rfl)
theorem free_max (T : Tx K mg w) : mg "max" = none := by
  obtain ⟨h, X, G⟩ := T.ex
  exact He.free_ok X G (T.says.fact 10 rfl)
theorem free_min (T : Tx K mg w) : mg "min" = none := by
  obtain ⟨h, X, G⟩ := T.ex
  exact He.free_ok X G (T.says.fact 11 rfl)
theorem free_all (T : Tx K mg w) : mg "all" = none := by
  obtain ⟨h, X, G⟩ := T.ex
  exact He.free_ok X G (T.says.fact 12 rfl)
theorem free_repr (T : Tx K mg w) : mg "repr" = none := by
  obtain ⟨h, X, G⟩ := T.ex
  exact He.free_ok X G (T.says.fact 13 rfl)
theorem free_sorted (T : Tx K mg w) : mg "sorted" = none := by
  obtain ⟨h, X, G⟩ := T.ex
  exact He.free_ok X G (T.says.fact 14 rfl)
theorem free_bool (T : Tx K mg w) : mg "bool" = none := by
  obtain ⟨h, X, G⟩ := T.ex
  exact He.free_ok X G (T.says.fact 15 rfl)
theorem free_set (T : Tx K mg w) : mg "set" = none := by
  obtain ⟨h, X, G⟩ := T.ex
  exact He.free_ok X G (T.says.fact 16 rfl)
theorem free_sum (T : Tx K mg w) : mg "sum" = none := by
  obtain ⟨h, X, G⟩ := T.ex
  exact He.free_ok X G (T.says.fact 17 rfl)
theorem free_any (T : Tx K mg w) : mg "any" = none := by
  obtain ⟨h, X, G⟩ := T.ex
  exact He.free_ok X G (T.says.fact 18 rfl)
theorem free_type (T : Tx K mg w) : mg "type" = none := by
  obtain ⟨h, X, G⟩ := T.ex
  exact He.free_ok X G (T.says.fact 19 rfl)
theorem free_super (T : Tx K mg w) : mg "super" = none := by
  obtain ⟨h, X, G⟩ := T.ex
  exact He.free_ok X G (T.says.fact 20 rfl)
theorem glo_SWITCHES (T : Tx K mg w) : mg "SWITCHES" = some (.ref (ga K "SWITCHES")) := by
  obtain ⟨h, X, G⟩ := T.ex
  exact He.glo_ok X G (T.says.fact 21 rfl)
theorem tup_SWITCHES (T : Tx K mg w) : ∀ H, SqT K H (ga K "SWITCHES") [V.str "rounding", V.str "action", V.str "order", V.str "due", V.str "zero", V.str "beyond"] := fun H => tup_ok (p := fun K => ga K "SWITCHES") (vs := [.str "rounding", .str "action", .str "order", .str "due", .str "zero", .str "beyond"]) ((T.says.bool 0 rfl)) H
theorem glo_VALUES (T : Tx K mg w) : mg "VALUES" = some (.ref (ga K "VALUES")) := by
  obtain ⟨h, X, G⟩ := T.ex
  exact He.glo_ok X G (T.says.fact 22 rfl)
theorem val_VALUES (T : Tx K mg w) : ∀ x, x ∈ (["rounding", "action", "order", "due", "zero", "beyond"] : List PySem.Str) → nsIn K (ga K "VALUES") x = some (some (.ref (dva K (ga K "VALUES") x))) := fun x hx => val_ok (p := fun K => ga K "VALUES") (ks := ["rounding", "action", "order", "due", "zero", "beyond"]) ((T.says.bool 1 rfl)) hx
theorem tup_VALUES_rounding (T : Tx K mg w) : ∀ H, SqT K H (dva K (ga K "VALUES") "rounding") [V.str "down", V.str "up"] := fun H => tup_ok (p := fun K => dva K (ga K "VALUES") "rounding") (vs := [.str "down", .str "up"]) ((T.says.bool 2 rfl)) H
theorem tup_VALUES_action (T : Tx K mg w) : ∀ H, SqT K H (dva K (ga K "VALUES") "action") [V.str "fire", V.str "move"] := fun H => tup_ok (p := fun K => dva K (ga K "VALUES") "action") (vs := [.str "fire", .str "move"]) ((T.says.bool 3 rfl)) H
theorem tup_VALUES_order (T : Tx K mg w) : ∀ H, SqT K H (dva K (ga K "VALUES") "order") [V.str "high", V.str "low"] := fun H => tup_ok (p := fun K => dva K (ga K "VALUES") "order") (vs := [.str "high", .str "low"]) ((T.says.bool 4 rfl)) H
theorem tup_VALUES_due (T : Tx K mg w) : ∀ H, SqT K H (dva K (ga K "VALUES") "due") [V.str "now", V.str "put"] := fun H => tup_ok (p := fun K => dva K (ga K "VALUES") "due") (vs := [.str "now", .str "put"]) ((T.says.bool 5 rfl)) H
theorem tup_VALUES_zero (T : Tx K mg w) : ∀ H, SqT K H (dva K (ga K "VALUES") "zero") [V.str "now", V.str "one"] := fun H => tup_ok (p := fun K => dva K (ga K "VALUES") "zero") (vs := [.str "now", .str "one"]) ((T.says.bool 6 rfl)) H
theorem tup_VALUES_beyond (T : Tx K mg w) : ∀ H, SqT K H (dva K (ga K "VALUES") "beyond") [V.str "refuse", V.str "last", V.str "cut"] := fun H => tup_ok (p := fun K => dva K (ga K "VALUES") "beyond") (vs := [.str "refuse", .str "last", .str "cut"]) ((T.says.bool 7 rfl)) H
theorem int_MOST_GRAIN (T : Tx K mg w) : ∃ t, mg "MOST_GRAIN" = some (.int 1000 t) := by
  obtain ⟨h, X, G⟩ := T.ex
  exact He.int_ok X G (T.says.fact 23 rfl)
theorem int_MOST_SLOTS (T : Tx K mg w) : ∃ t, mg "MOST_SLOTS" = some (.int 100 t) := by
  obtain ⟨h, X, G⟩ := T.ex
  exact He.int_ok X G (T.says.fact 24 rfl)
theorem int_MOST_TURNS (T : Tx K mg w) : ∃ t, mg "MOST_TURNS" = some (.int 4 t) := by
  obtain ⟨h, X, G⟩ := T.ex
  exact He.int_ok X G (T.says.fact 25 rfl)
theorem int_MOST_LEVELS (T : Tx K mg w) : ∃ t, mg "MOST_LEVELS" = some (.int 5 t) := by
  obtain ⟨h, X, G⟩ := T.ex
  exact He.int_ok X G (T.says.fact 26 rfl)
theorem glo_is_switch (T : Tx K mg w) : mg "is_switch" = some (.ref (ga K "is_switch")) := by
  obtain ⟨h, X, G⟩ := T.ex
  exact He.glo_ok X G (T.says.fact 27 rfl)
theorem d_is_switch (T : Tx K mg w) : ∃ fd, FunD K "is_switch" "is_switch" (defArgs s_is_switch) (defBody s_is_switch) (defScope s_is_switch) [] [] (ga K "is_switch") fd := T.says.def_ 0 (d := dd_is_switch) rfl
theorem glo_is_value (T : Tx K mg w) : mg "is_value" = some (.ref (ga K "is_value")) := by
  obtain ⟨h, X, G⟩ := T.ex
  exact He.glo_ok X G (T.says.fact 28 rfl)
theorem d_is_value (T : Tx K mg w) : ∃ fd, FunD K "is_value" "is_value" (defArgs s_is_value) (defBody s_is_value) (defScope s_is_value) [] [] (ga K "is_value") fd := T.says.def_ 1 (d := dd_is_value) rfl
theorem glo_book_of (T : Tx K mg w) : mg "book_of" = some (.ref (ga K "book_of")) := by
  obtain ⟨h, X, G⟩ := T.ex
  exact He.glo_ok X G (T.says.fact 29 rfl)
theorem d_book_of (T : Tx K mg w) : ∃ fd, FunD K "book_of" "book_of" (defArgs s_book_of) (defBody s_book_of) (defScope s_book_of) [] [] (ga K "book_of") fd := T.says.def_ 2 (d := dd_book_of) rfl
theorem glo_is_integer (T : Tx K mg w) : mg "is_integer" = some (.ref (ga K "is_integer")) := by
  obtain ⟨h, X, G⟩ := T.ex
  exact He.glo_ok X G (T.says.fact 30 rfl)
theorem d_is_integer (T : Tx K mg w) : ∃ fd, FunD K "is_integer" "is_integer" (defArgs s_is_integer) (defBody s_is_integer) (defScope s_is_integer) [] [] (ga K "is_integer") fd := T.says.def_ 3 (d := dd_is_integer) rfl
theorem glo_is_count (T : Tx K mg w) : mg "is_count" = some (.ref (ga K "is_count")) := by
  obtain ⟨h, X, G⟩ := T.ex
  exact He.glo_ok X G (T.says.fact 31 rfl)
theorem d_is_count (T : Tx K mg w) : ∃ fd, FunD K "is_count" "is_count" (defArgs s_is_count) (defBody s_is_count) (defScope s_is_count) [] [] (ga K "is_count") fd := T.says.def_ 4 (d := dd_is_count) rfl
theorem glo_rounded (T : Tx K mg w) : mg "rounded" = some (.ref (ga K "rounded")) := by
  obtain ⟨h, X, G⟩ := T.ex
  exact He.glo_ok X G (T.says.fact 32 rfl)
theorem d_rounded (T : Tx K mg w) : ∃ fd, FunD K "rounded" "rounded" (defArgs s_rounded) (defBody s_rounded) (defScope s_rounded) [] [] (ga K "rounded") fd := T.says.def_ 5 (d := dd_rounded) rfl
theorem glo_spot_at (T : Tx K mg w) : mg "spot_at" = some (.ref (ga K "spot_at")) := by
  obtain ⟨h, X, G⟩ := T.ex
  exact He.glo_ok X G (T.says.fact 33 rfl)
theorem d_spot_at (T : Tx K mg w) : ∃ fd, FunD K "spot_at" "spot_at" (defArgs s_spot_at) (defBody s_spot_at) (defScope s_spot_at) [] [] (ga K "spot_at") fd := T.says.def_ 6 (d := dd_spot_at) rfl
theorem glo_place (T : Tx K mg w) : mg "place" = some (.ref (ga K "place")) := by
  obtain ⟨h, X, G⟩ := T.ex
  exact He.glo_ok X G (T.says.fact 34 rfl)
theorem d_place (T : Tx K mg w) : ∃ fd, FunD K "place" "place" (defArgs s_place) (defBody s_place) (defScope s_place) [] [] (ga K "place") fd := T.says.def_ 7 (d := dd_place) rfl
theorem glo_visit_after (T : Tx K mg w) : mg "visit_after" = some (.ref (ga K "visit_after")) := by
  obtain ⟨h, X, G⟩ := T.ex
  exact He.glo_ok X G (T.says.fact 35 rfl)
theorem d_visit_after (T : Tx K mg w) : ∃ fd, FunD K "visit_after" "visit_after" (defArgs s_visit_after) (defBody s_visit_after) (defScope s_visit_after) [] [] (ga K "visit_after") fd := T.says.def_ 8 (d := dd_visit_after) rfl
theorem glo_is_visited (T : Tx K mg w) : mg "is_visited" = some (.ref (ga K "is_visited")) := by
  obtain ⟨h, X, G⟩ := T.ex
  exact He.glo_ok X G (T.says.fact 36 rfl)
theorem d_is_visited (T : Tx K mg w) : ∃ fd, FunD K "is_visited" "is_visited" (defArgs s_is_visited) (defBody s_is_visited) (defScope s_is_visited) [] [] (ga K "is_visited") fd := T.says.def_ 9 (d := dd_is_visited) rfl
theorem glo_taken_out (T : Tx K mg w) : mg "taken_out" = some (.ref (ga K "taken_out")) := by
  obtain ⟨h, X, G⟩ := T.ex
  exact He.glo_ok X G (T.says.fact 37 rfl)
theorem d_taken_out (T : Tx K mg w) : ∃ fd, FunD K "taken_out" "taken_out" (defArgs s_taken_out) (defBody s_taken_out) (defScope s_taken_out) [] [] (ga K "taken_out") fd := T.says.def_ 10 (d := dd_taken_out) rfl
theorem glo_level_order (T : Tx K mg w) : mg "level_order" = some (.ref (ga K "level_order")) := by
  obtain ⟨h, X, G⟩ := T.ex
  exact He.glo_ok X G (T.says.fact 38 rfl)
theorem d_level_order (T : Tx K mg w) : ∃ fd, FunD K "level_order" "level_order" (defArgs s_level_order) (defBody s_level_order) (defScope s_level_order) [] [] (ga K "level_order") fd := T.says.def_ 11 (d := dd_level_order) rfl
theorem glo_visited (T : Tx K mg w) : mg "visited" = some (.ref (ga K "visited")) := by
  obtain ⟨h, X, G⟩ := T.ex
  exact He.glo_ok X G (T.says.fact 39 rfl)
theorem d_visited (T : Tx K mg w) : ∃ fd, FunD K "visited" "visited" (defArgs s_visited) (defBody s_visited) (defScope s_visited) [] [] (ga K "visited") fd := T.says.def_ 12 (d := dd_visited) rfl
theorem glo_skipped (T : Tx K mg w) : mg "skipped" = some (.ref (ga K "skipped")) := by
  obtain ⟨h, X, G⟩ := T.ex
  exact He.glo_ok X G (T.says.fact 40 rfl)
theorem d_skipped (T : Tx K mg w) : ∃ fd, FunD K "skipped" "skipped" (defArgs s_skipped) (defBody s_skipped) (defScope s_skipped) [] [] (ga K "skipped") fd := T.says.def_ 13 (d := dd_skipped) rfl
theorem glo_shifted (T : Tx K mg w) : mg "shifted" = some (.ref (ga K "shifted")) := by
  obtain ⟨h, X, G⟩ := T.ex
  exact He.glo_ok X G (T.says.fact 41 rfl)
theorem d_shifted (T : Tx K mg w) : ∃ fd, FunD K "shifted" "shifted" (defArgs s_shifted) (defBody s_shifted) (defScope s_shifted) [] [] (ga K "shifted") fd := T.says.def_ 14 (d := dd_shifted) rfl
theorem glo_followed (T : Tx K mg w) : mg "followed" = some (.ref (ga K "followed")) := by
  obtain ⟨h, X, G⟩ := T.ex
  exact He.glo_ok X G (T.says.fact 42 rfl)
theorem d_followed (T : Tx K mg w) : ∃ fd, FunD K "followed" "followed" (defArgs s_followed) (defBody s_followed) (defScope s_followed) [] [] (ga K "followed") fd := T.says.def_ 15 (d := dd_followed) rfl
theorem glo_fire_tick (T : Tx K mg w) : mg "fire_tick" = some (.ref (ga K "fire_tick")) := by
  obtain ⟨h, X, G⟩ := T.ex
  exact He.glo_ok X G (T.says.fact 43 rfl)
theorem d_fire_tick (T : Tx K mg w) : ∃ fd, FunD K "fire_tick" "fire_tick" (defArgs s_fire_tick) (defBody s_fire_tick) (defScope s_fire_tick) [] [] (ga K "fire_tick") fd := T.says.def_ 16 (d := dd_fire_tick) rfl
theorem glo_lateness (T : Tx K mg w) : mg "lateness" = some (.ref (ga K "lateness")) := by
  obtain ⟨h, X, G⟩ := T.ex
  exact He.glo_ok X G (T.says.fact 44 rfl)
theorem d_lateness (T : Tx K mg w) : ∃ fd, FunD K "lateness" "lateness" (defArgs s_lateness) (defBody s_lateness) (defScope s_lateness) [] [] (ga K "lateness") fd := T.says.def_ 17 (d := dd_lateness) rfl
theorem glo_is_within (T : Tx K mg w) : mg "is_within" = some (.ref (ga K "is_within")) := by
  obtain ⟨h, X, G⟩ := T.ex
  exact He.glo_ok X G (T.says.fact 45 rfl)
theorem d_is_within (T : Tx K mg w) : ∃ fd, FunD K "is_within" "is_within" (defArgs s_is_within) (defBody s_is_within) (defScope s_is_within) [] [] (ga K "is_within") fd := T.says.def_ 18 (d := dd_is_within) rfl
theorem glo_are_levels (T : Tx K mg w) : mg "are_levels" = some (.ref (ga K "are_levels")) := by
  obtain ⟨h, X, G⟩ := T.ex
  exact He.glo_ok X G (T.says.fact 46 rfl)
theorem d_are_levels (T : Tx K mg w) : ∃ fd, FunD K "are_levels" "are_levels" (defArgs s_are_levels) (defBody s_are_levels) (defScope s_are_levels) [] [] (ga K "are_levels") fd := T.says.def_ 19 (d := dd_are_levels) rfl
theorem glo__law_begin (T : Tx K mg w) : mg "_law_begin" = some (.ref (ga K "_law_begin")) := by
  obtain ⟨h, X, G⟩ := T.ex
  exact He.glo_ok X G (T.says.fact 47 rfl)
theorem d__law_begin (T : Tx K mg w) : ∃ fd, FunD K "_law_begin" "_law_begin" (defArgs s__law_begin) (defBody s__law_begin) (defScope s__law_begin) [] [] (ga K "_law_begin") fd := T.says.def_ 20 (d := dd__law_begin) rfl
theorem glo__law_mixed (T : Tx K mg w) : mg "_law_mixed" = some (.ref (ga K "_law_mixed")) := by
  obtain ⟨h, X, G⟩ := T.ex
  exact He.glo_ok X G (T.says.fact 48 rfl)
theorem d__law_mixed (T : Tx K mg w) : ∃ fd, FunD K "_law_mixed" "_law_mixed" (defArgs s__law_mixed) (defBody s__law_mixed) (defScope s__law_mixed) [] [] (ga K "_law_mixed") fd := T.says.def_ 21 (d := dd__law_mixed) rfl
theorem glo__law_draw (T : Tx K mg w) : mg "_law_draw" = some (.ref (ga K "_law_draw")) := by
  obtain ⟨h, X, G⟩ := T.ex
  exact He.glo_ok X G (T.says.fact 49 rfl)
theorem d__law_draw (T : Tx K mg w) : ∃ fd, FunD K "_law_draw" "_law_draw" (defArgs s__law_draw) (defBody s__law_draw) (defScope s__law_draw) [] [] (ga K "_law_draw") fd := T.says.def_ 22 (d := dd__law_draw) rfl
theorem glo__law_span (T : Tx K mg w) : mg "_law_span" = some (.ref (ga K "_law_span")) := by
  obtain ⟨h, X, G⟩ := T.ex
  exact He.glo_ok X G (T.says.fact 50 rfl)
theorem d__law_span (T : Tx K mg w) : ∃ fd, FunD K "_law_span" "_law_span" (defArgs s__law_span) (defBody s__law_span) (defScope s__law_span) [] [] (ga K "_law_span") fd := T.says.def_ 23 (d := dd__law_span) rfl
theorem glo__law_draw_rows (T : Tx K mg w) : mg "_law_draw_rows" = some (.ref (ga K "_law_draw_rows")) := by
  obtain ⟨h, X, G⟩ := T.ex
  exact He.glo_ok X G (T.says.fact 51 rfl)
theorem d__law_draw_rows (T : Tx K mg w) : ∃ fd, FunD K "_law_draw_rows" "_law_draw_rows" (defArgs s__law_draw_rows) (defBody s__law_draw_rows) (defScope s__law_draw_rows) [] [] (ga K "_law_draw_rows") fd := T.says.def_ 24 (d := dd__law_draw_rows) rfl
theorem glo__law_draw_values (T : Tx K mg w) : mg "_law_draw_values" = some (.ref (ga K "_law_draw_values")) := by
  obtain ⟨h, X, G⟩ := T.ex
  exact He.glo_ok X G (T.says.fact 52 rfl)
theorem d__law_draw_values (T : Tx K mg w) : ∃ fd, FunD K "_law_draw_values" "_law_draw_values" (defArgs s__law_draw_values) (defBody s__law_draw_values) (defScope s__law_draw_values) [] [] (ga K "_law_draw_values") fd := T.says.def_ 25 (d := dd__law_draw_values) rfl
theorem glo__law_wheel_of (T : Tx K mg w) : mg "_law_wheel_of" = some (.ref (ga K "_law_wheel_of")) := by
  obtain ⟨h, X, G⟩ := T.ex
  exact He.glo_ok X G (T.says.fact 53 rfl)
theorem d__law_wheel_of (T : Tx K mg w) : ∃ fd, FunD K "_law_wheel_of" "_law_wheel_of" (defArgs s__law_wheel_of) (defBody s__law_wheel_of) (defScope s__law_wheel_of) [] [] (ga K "_law_wheel_of") fd := T.says.def_ 26 (d := dd__law_wheel_of) rfl
theorem glo__law_made_wheel (T : Tx K mg w) : mg "_law_made_wheel" = some (.ref (ga K "_law_made_wheel")) := by
  obtain ⟨h, X, G⟩ := T.ex
  exact He.glo_ok X G (T.says.fact 54 rfl)
theorem d__law_made_wheel (T : Tx K mg w) : ∃ fd, FunD K "_law_made_wheel" "_law_made_wheel" (defArgs s__law_made_wheel) (defBody s__law_made_wheel) (defScope s__law_made_wheel) [] [] (ga K "_law_made_wheel") fd := T.says.def_ 27 (d := dd__law_made_wheel) rfl
theorem glo__law_made_book (T : Tx K mg w) : mg "_law_made_book" = some (.ref (ga K "_law_made_book")) := by
  obtain ⟨h, X, G⟩ := T.ex
  exact He.glo_ok X G (T.says.fact 55 rfl)
theorem d__law_made_book (T : Tx K mg w) : ∃ fd, FunD K "_law_made_book" "_law_made_book" (defArgs s__law_made_book) (defBody s__law_made_book) (defScope s__law_made_book) [] [] (ga K "_law_made_book") fd := T.says.def_ 28 (d := dd__law_made_book) rfl
theorem glo__law_turned (T : Tx K mg w) : mg "_law_turned" = some (.ref (ga K "_law_turned")) := by
  obtain ⟨h, X, G⟩ := T.ex
  exact He.glo_ok X G (T.says.fact 56 rfl)
theorem d__law_turned (T : Tx K mg w) : ∃ fd, FunD K "_law_turned" "_law_turned" (defArgs s__law_turned) (defBody s__law_turned) (defScope s__law_turned) [] [] (ga K "_law_turned") fd := T.says.def_ 29 (d := dd__law_turned) rfl
theorem glo__law_belongs (T : Tx K mg w) : mg "_law_belongs" = some (.ref (ga K "_law_belongs")) := by
  obtain ⟨h, X, G⟩ := T.ex
  exact He.glo_ok X G (T.says.fact 57 rfl)
theorem d__law_belongs (T : Tx K mg w) : ∃ fd, FunD K "_law_belongs" "_law_belongs" (defArgs s__law_belongs) (defBody s__law_belongs) (defScope s__law_belongs) [] [] (ga K "_law_belongs") fd := T.says.def_ 30 (d := dd__law_belongs) rfl
theorem glo__law_spot_at (T : Tx K mg w) : mg "_law_spot_at" = some (.ref (ga K "_law_spot_at")) := by
  obtain ⟨h, X, G⟩ := T.ex
  exact He.glo_ok X G (T.says.fact 58 rfl)
theorem d__law_spot_at (T : Tx K mg w) : ∃ fd, FunD K "_law_spot_at" "_law_spot_at" (defArgs s__law_spot_at) (defBody s__law_spot_at) (defScope s__law_spot_at) [] [] (ga K "_law_spot_at") fd := T.says.def_ 31 (d := dd__law_spot_at) rfl
theorem glo__law_put (T : Tx K mg w) : mg "_law_put" = some (.ref (ga K "_law_put")) := by
  obtain ⟨h, X, G⟩ := T.ex
  exact He.glo_ok X G (T.says.fact 59 rfl)
theorem d__law_put (T : Tx K mg w) : ∃ fd, FunD K "_law_put" "_law_put" (defArgs s__law_put) (defBody s__law_put) (defScope s__law_put) [] [] (ga K "_law_put") fd := T.says.def_ 32 (d := dd__law_put) rfl
theorem glo__law_out (T : Tx K mg w) : mg "_law_out" = some (.ref (ga K "_law_out")) := by
  obtain ⟨h, X, G⟩ := T.ex
  exact He.glo_ok X G (T.says.fact 60 rfl)
theorem d__law_out (T : Tx K mg w) : ∃ fd, FunD K "_law_out" "_law_out" (defArgs s__law_out) (defBody s__law_out) (defScope s__law_out) [] [] (ga K "_law_out") fd := T.says.def_ 33 (d := dd__law_out) rfl
theorem glo__law_sweep (T : Tx K mg w) : mg "_law_sweep" = some (.ref (ga K "_law_sweep")) := by
  obtain ⟨h, X, G⟩ := T.ex
  exact He.glo_ok X G (T.says.fact 61 rfl)
theorem d__law_sweep (T : Tx K mg w) : ∃ fd, FunD K "_law_sweep" "_law_sweep" (defArgs s__law_sweep) (defBody s__law_sweep) (defScope s__law_sweep) [] [] (ga K "_law_sweep") fd := T.says.def_ 34 (d := dd__law_sweep) rfl
theorem glo__law_visit (T : Tx K mg w) : mg "_law_visit" = some (.ref (ga K "_law_visit")) := by
  obtain ⟨h, X, G⟩ := T.ex
  exact He.glo_ok X G (T.says.fact 62 rfl)
theorem d__law_visit (T : Tx K mg w) : ∃ fd, FunD K "_law_visit" "_law_visit" (defArgs s__law_visit) (defBody s__law_visit) (defScope s__law_visit) [] [] (ga K "_law_visit") fd := T.says.def_ 35 (d := dd__law_visit) rfl
theorem glo__law_run (T : Tx K mg w) : mg "_law_run" = some (.ref (ga K "_law_run")) := by
  obtain ⟨h, X, G⟩ := T.ex
  exact He.glo_ok X G (T.says.fact 63 rfl)
theorem d__law_run (T : Tx K mg w) : ∃ fd, FunD K "_law_run" "_law_run" (defArgs s__law_run) (defBody s__law_run) (defScope s__law_run) [] [] (ga K "_law_run") fd := T.says.def_ 36 (d := dd__law_run) rfl
theorem glo__law_fire (T : Tx K mg w) : mg "_law_fire" = some (.ref (ga K "_law_fire")) := by
  obtain ⟨h, X, G⟩ := T.ex
  exact He.glo_ok X G (T.says.fact 64 rfl)
theorem d__law_fire (T : Tx K mg w) : ∃ fd, FunD K "_law_fire" "_law_fire" (defArgs s__law_fire) (defBody s__law_fire) (defScope s__law_fire) [] [] (ga K "_law_fire") fd := T.says.def_ 37 (d := dd__law_fire) rfl
theorem glo__law_lag (T : Tx K mg w) : mg "_law_lag" = some (.ref (ga K "_law_lag")) := by
  obtain ⟨h, X, G⟩ := T.ex
  exact He.glo_ok X G (T.says.fact 65 rfl)
theorem d__law_lag (T : Tx K mg w) : ∃ fd, FunD K "_law_lag" "_law_lag" (defArgs s__law_lag) (defBody s__law_lag) (defScope s__law_lag) [] [] (ga K "_law_lag") fd := T.says.def_ 38 (d := dd__law_lag) rfl
theorem glo__law_kind (T : Tx K mg w) : mg "_law_kind" = some (.ref (ga K "_law_kind")) := by
  obtain ⟨h, X, G⟩ := T.ex
  exact He.glo_ok X G (T.says.fact 66 rfl)
theorem d__law_kind (T : Tx K mg w) : ∃ fd, FunD K "_law_kind" "_law_kind" (defArgs s__law_kind) (defBody s__law_kind) (defScope s__law_kind) [] [] (ga K "_law_kind") fd := T.says.def_ 39 (d := dd__law_kind) rfl
theorem glo__law_caught (T : Tx K mg w) : mg "_law_caught" = some (.ref (ga K "_law_caught")) := by
  obtain ⟨h, X, G⟩ := T.ex
  exact He.glo_ok X G (T.says.fact 67 rfl)
theorem d__law_caught (T : Tx K mg w) : ∃ fd, FunD K "_law_caught" "_law_caught" (defArgs s__law_caught) (defBody s__law_caught) (defScope s__law_caught) [] [] (ga K "_law_caught") fd := T.says.def_ 40 (d := dd__law_caught) rfl
theorem glo__law_bad_number (T : Tx K mg w) : mg "_law_bad_number" = some (.ref (ga K "_law_bad_number")) := by
  obtain ⟨h, X, G⟩ := T.ex
  exact He.glo_ok X G (T.says.fact 68 rfl)
theorem d__law_bad_number (T : Tx K mg w) : ∃ fd, FunD K "_law_bad_number" "_law_bad_number" (defArgs s__law_bad_number) (defBody s__law_bad_number) (defScope s__law_bad_number) [] [] (ga K "_law_bad_number") fd := T.says.def_ 41 (d := dd__law_bad_number) rfl
theorem glo_law (T : Tx K mg w) : mg "law" = some (.ref (ga K "law")) := by
  obtain ⟨h, X, G⟩ := T.ex
  exact He.glo_ok X G (T.says.fact 69 rfl)
theorem d_law (T : Tx K mg w) : ∃ fd, FunD K "law" "law" (defArgs s_law) (defBody s_law) (defScope s_law) [] [] (ga K "law") fd := T.says.def_ 42 (d := dd_law) rfl
theorem glo_WheelError (T : Tx K mg w) : mg "WheelError" = some (.ref (ga K "WheelError")) := by
  obtain ⟨h, X, G⟩ := T.ex
  exact He.glo_ok X G (T.says.fact 70 rfl)
theorem glo_InvalidNumber (T : Tx K mg w) : mg "InvalidNumber" = some (.ref (ga K "InvalidNumber")) := by
  obtain ⟨h, X, G⟩ := T.ex
  exact He.glo_ok X G (T.says.fact 71 rfl)
theorem er_InvalidNumber (T : Tx K mg w) : ErrF K "InvalidNumber" "value" file "InvalidNumber.__init__" := err_ok ((T.says.bool 8 rfl))
theorem kn_InvalidNumber (T : Tx K mg w) : KnF K (ga K "InvalidNumber") 0 ∧ exmOne K (.ref (ga K "InvalidNumber")) (.ref (ga K "WheelError")) = some true := kn_ok ((T.says.bool 9 rfl))
theorem ef_InvalidNumber (T : Tx K mg w) : fnC K (ma K (ga K "InvalidNumber") "__init__") = ee_InvalidNumber.val := T.errs.err 0 (d := ee_InvalidNumber) rfl
theorem glo_InvalidText (T : Tx K mg w) : mg "InvalidText" = some (.ref (ga K "InvalidText")) := by
  obtain ⟨h, X, G⟩ := T.ex
  exact He.glo_ok X G (T.says.fact 72 rfl)
theorem er_InvalidText (T : Tx K mg w) : ErrF K "InvalidText" "value" file "InvalidText.__init__" := err_ok ((T.says.bool 10 rfl))
theorem kn_InvalidText (T : Tx K mg w) : KnF K (ga K "InvalidText") 1 ∧ exmOne K (.ref (ga K "InvalidText")) (.ref (ga K "WheelError")) = some true := kn_ok ((T.says.bool 11 rfl))
theorem ef_InvalidText (T : Tx K mg w) : fnC K (ma K (ga K "InvalidText") "__init__") = ee_InvalidText.val := T.errs.err 1 (d := ee_InvalidText) rfl
theorem glo_InvalidName (T : Tx K mg w) : mg "InvalidName" = some (.ref (ga K "InvalidName")) := by
  obtain ⟨h, X, G⟩ := T.ex
  exact He.glo_ok X G (T.says.fact 73 rfl)
theorem glo_InvalidLevels (T : Tx K mg w) : mg "InvalidLevels" = some (.ref (ga K "InvalidLevels")) := by
  obtain ⟨h, X, G⟩ := T.ex
  exact He.glo_ok X G (T.says.fact 74 rfl)
theorem er_InvalidLevels (T : Tx K mg w) : ErrF K "InvalidLevels" "value" file "InvalidLevels.__init__" := err_ok ((T.says.bool 12 rfl))
theorem kn_InvalidLevels (T : Tx K mg w) : KnF K (ga K "InvalidLevels") 3 ∧ exmOne K (.ref (ga K "InvalidLevels")) (.ref (ga K "WheelError")) = some true := kn_ok ((T.says.bool 13 rfl))
theorem ef_InvalidLevels (T : Tx K mg w) : fnC K (ma K (ga K "InvalidLevels") "__init__") = ee_InvalidLevels.val := T.errs.err 2 (d := ee_InvalidLevels) rfl
theorem glo_InvalidSwitch (T : Tx K mg w) : mg "InvalidSwitch" = some (.ref (ga K "InvalidSwitch")) := by
  obtain ⟨h, X, G⟩ := T.ex
  exact He.glo_ok X G (T.says.fact 75 rfl)
theorem er_InvalidSwitch (T : Tx K mg w) : ErrF K "InvalidSwitch" "value" file "InvalidSwitch.__init__" := err_ok ((T.says.bool 14 rfl))
theorem kn_InvalidSwitch (T : Tx K mg w) : KnF K (ga K "InvalidSwitch") 4 ∧ exmOne K (.ref (ga K "InvalidSwitch")) (.ref (ga K "WheelError")) = some true := kn_ok ((T.says.bool 15 rfl))
theorem ef_InvalidSwitch (T : Tx K mg w) : fnC K (ma K (ga K "InvalidSwitch") "__init__") = ee_InvalidSwitch.val := T.errs.err 3 (d := ee_InvalidSwitch) rfl
theorem glo_InvalidMode (T : Tx K mg w) : mg "InvalidMode" = some (.ref (ga K "InvalidMode")) := by
  obtain ⟨h, X, G⟩ := T.ex
  exact He.glo_ok X G (T.says.fact 76 rfl)
theorem glo_InvalidMenu (T : Tx K mg w) : mg "InvalidMenu" = some (.ref (ga K "InvalidMenu")) := by
  obtain ⟨h, X, G⟩ := T.ex
  exact He.glo_ok X G (T.says.fact 77 rfl)
theorem glo_InvalidPlan (T : Tx K mg w) : mg "InvalidPlan" = some (.ref (ga K "InvalidPlan")) := by
  obtain ⟨h, X, G⟩ := T.ex
  exact He.glo_ok X G (T.says.fact 78 rfl)
theorem glo_InvalidCommand (T : Tx K mg w) : mg "InvalidCommand" = some (.ref (ga K "InvalidCommand")) := by
  obtain ⟨h, X, G⟩ := T.ex
  exact He.glo_ok X G (T.says.fact 79 rfl)
theorem glo_TooLong (T : Tx K mg w) : mg "TooLong" = some (.ref (ga K "TooLong")) := by
  obtain ⟨h, X, G⟩ := T.ex
  exact He.glo_ok X G (T.says.fact 80 rfl)
theorem glo_TooMany (T : Tx K mg w) : mg "TooMany" = some (.ref (ga K "TooMany")) := by
  obtain ⟨h, X, G⟩ := T.ex
  exact He.glo_ok X G (T.says.fact 81 rfl)
theorem glo_NothingToUndo (T : Tx K mg w) : mg "NothingToUndo" = some (.ref (ga K "NothingToUndo")) := by
  obtain ⟨h, X, G⟩ := T.ex
  exact He.glo_ok X G (T.says.fact 82 rfl)
theorem er_TooLong (T : Tx K mg w) : ErrG dOE K "TooLong" "delay" file "TooLong.__init__" := erG_ok bfOE ((T.says.bool 16 rfl))
theorem kn_TooLong (T : Tx K mg w) : KnO K "TooLong" 9 := knO_ok ((T.says.bool 17 rfl))
theorem ef_TooLong (T : Tx K mg w) : fnC K (ma K (ga K "TooLong") "__init__") = ee_TooLong.val := T.errs.err 4 (d := ee_TooLong) rfl
theorem ch_law (T : Tx K mg w) : codeHdIn K (codA K (ga K "law")) (tbA K (ga K "law")) = true := (T.says.bool 18 rfl)
theorem off_law (T : Tx K mg w) : K.lookup 849 = none := off_ok ((T.says.bool 19 rfl))
theorem tb_law (T : Tx K mg w) : tbA K (ga K "law") = 849 := of_decide_eq_true ((T.says.bool 20 rfl))
theorem glo_Level (T : Tx K mg w) : mg "Level" = some (.ref (ga K "Level")) := by
  obtain ⟨h, X, G⟩ := T.ex
  exact He.glo_ok X G (T.says.fact 83 rfl)
theorem cls_Level (T : Tx K mg w) : Cls K (ga K "Level") := by
  obtain ⟨h, X, G⟩ := T.ex
  exact He.cls_ok (T.says.fact 84 rfl)
theorem mk_Level (T : Tx K mg w) : Mk K (ga K "Level") (ma K (ga K "Level") "__init__") := by
  obtain ⟨h, X, G⟩ := T.ex
  exact He.mkr_ok (T.says.fact 85 rfl)
theorem isi_Level (T : Tx K mg w) : IsiC K (ga K "Level") := isi_ok ((T.says.bool 21 rfl))
theorem kit_Level (T : Tx K mg w) : kitOne K (.ref (ga K "Level")) (.ref (ga K "Level")) = some true := kit_ok (t := fun K => .ref (ga K "Level")) (c := fun K => .ref (ga K "Level")) ((T.says.bool 22 rfl))
theorem na_Level_kept_grain (T : Tx K mg w) : NoAttr K (ga K "Level") "kept_grain" := by
  obtain ⟨h, X, G⟩ := T.ex
  exact He.noat_ok (T.says.fact 86 rfl)
theorem na_Level_kept_slots (T : Tx K mg w) : NoAttr K (ga K "Level") "kept_slots" := by
  obtain ⟨h, X, G⟩ := T.ex
  exact He.noat_ok (T.says.fact 87 rfl)
theorem na_Level_kept_span (T : Tx K mg w) : NoAttr K (ga K "Level") "kept_span" := by
  obtain ⟨h, X, G⟩ := T.ex
  exact He.noat_ok (T.says.fact 88 rfl)
theorem fq_Level___init__ (T : Tx K mg w) : isFn K (.ref (ma K (ga K "Level") "__init__")) = true ∧ fnIn K (ma K (ga K "Level") "__init__") = true := He.ba ((T.says.bool 23 rfl))
theorem d_Level___init__ (T : Tx K mg w) : ∃ fd, FunD K "__init__" "Level.__init__" (defArgs s_Level___init__) (defBody s_Level___init__) (defScope s_Level___init__) [] [("span", V.non)] (ma K (ga K "Level") "__init__") fd := T.says.def_ 43 (d := dd_Level___init__) rfl
theorem pr_Level_grain (T : Tx K mg w) : PropOf K (ga K "Level") "grain" (ma K (ga K "Level") "grain") (pa K (ga K "Level") "grain") := prop_ok ((T.says.bool 24 rfl))
theorem d_Level_grain (T : Tx K mg w) : ∃ fd, FunD K "grain" "Level.grain" (defArgs s_Level_grain) (defBody s_Level_grain) (defScope s_Level_grain) [] [] (pa K (ga K "Level") "grain") fd := T.says.def_ 44 (d := dd_Level_grain) rfl
theorem pr_Level_slots (T : Tx K mg w) : PropOf K (ga K "Level") "slots" (ma K (ga K "Level") "slots") (pa K (ga K "Level") "slots") := prop_ok ((T.says.bool 25 rfl))
theorem d_Level_slots (T : Tx K mg w) : ∃ fd, FunD K "slots" "Level.slots" (defArgs s_Level_slots) (defBody s_Level_slots) (defScope s_Level_slots) [] [] (pa K (ga K "Level") "slots") fd := T.says.def_ 45 (d := dd_Level_slots) rfl
theorem pr_Level_span (T : Tx K mg w) : PropOf K (ga K "Level") "span" (ma K (ga K "Level") "span") (pa K (ga K "Level") "span") := prop_ok ((T.says.bool 26 rfl))
theorem d_Level_span (T : Tx K mg w) : ∃ fd, FunD K "span" "Level.span" (defArgs s_Level_span) (defBody s_Level_span) (defScope s_Level_span) [] [] (pa K (ga K "Level") "span") fd := T.says.def_ 46 (d := dd_Level_span) rfl
theorem me_Level___eq__ (T : Tx K mg w) : Meth K (ga K "Level") "__eq__" (ma K (ga K "Level") "__eq__") := by
  obtain ⟨h, X, G⟩ := T.ex
  exact He.meth_ok (T.says.fact 89 rfl)
theorem fq_Level___eq__ (T : Tx K mg w) : isFn K (.ref (ma K (ga K "Level") "__eq__")) = true ∧ fnIn K (ma K (ga K "Level") "__eq__") = true := He.ba ((T.says.bool 27 rfl))
theorem d_Level___eq__ (T : Tx K mg w) : ∃ fd, FunD K "__eq__" "Level.__eq__" (defArgs s_Level___eq__) (defBody s_Level___eq__) (defScope s_Level___eq__) [] [] (ma K (ga K "Level") "__eq__") fd := T.says.def_ 47 (d := dd_Level___eq__) rfl
theorem glo_Wheel (T : Tx K mg w) : mg "Wheel" = some (.ref (ga K "Wheel")) := by
  obtain ⟨h, X, G⟩ := T.ex
  exact He.glo_ok X G (T.says.fact 90 rfl)
theorem cls_Wheel (T : Tx K mg w) : Cls K (ga K "Wheel") := by
  obtain ⟨h, X, G⟩ := T.ex
  exact He.cls_ok (T.says.fact 91 rfl)
theorem mk_Wheel (T : Tx K mg w) : Mk K (ga K "Wheel") (ma K (ga K "Wheel") "__init__") := by
  obtain ⟨h, X, G⟩ := T.ex
  exact He.mkr_ok (T.says.fact 92 rfl)
theorem isi_Wheel (T : Tx K mg w) : IsiC K (ga K "Wheel") := isi_ok ((T.says.bool 28 rfl))
theorem kit_Wheel (T : Tx K mg w) : kitOne K (.ref (ga K "Wheel")) (.ref (ga K "Wheel")) = some true := kit_ok (t := fun K => .ref (ga K "Wheel")) (c := fun K => .ref (ga K "Wheel")) ((T.says.bool 29 rfl))
theorem na_Wheel_kept_levels (T : Tx K mg w) : NoAttr K (ga K "Wheel") "kept_levels" := by
  obtain ⟨h, X, G⟩ := T.ex
  exact He.noat_ok (T.says.fact 93 rfl)
theorem fq_Wheel___init__ (T : Tx K mg w) : isFn K (.ref (ma K (ga K "Wheel") "__init__")) = true ∧ fnIn K (ma K (ga K "Wheel") "__init__") = true := He.ba ((T.says.bool 30 rfl))
theorem d_Wheel___init__ (T : Tx K mg w) : ∃ fd, FunD K "__init__" "Wheel.__init__" (defArgs s_Wheel___init__) (defBody s_Wheel___init__) (defScope s_Wheel___init__) [] [] (ma K (ga K "Wheel") "__init__") fd := T.says.def_ 48 (d := dd_Wheel___init__) rfl
theorem pr_Wheel_levels (T : Tx K mg w) : PropOf K (ga K "Wheel") "levels" (ma K (ga K "Wheel") "levels") (pa K (ga K "Wheel") "levels") := prop_ok ((T.says.bool 31 rfl))
theorem d_Wheel_levels (T : Tx K mg w) : ∃ fd, FunD K "levels" "Wheel.levels" (defArgs s_Wheel_levels) (defBody s_Wheel_levels) (defScope s_Wheel_levels) [] [] (pa K (ga K "Wheel") "levels") fd := T.says.def_ 49 (d := dd_Wheel_levels) rfl
theorem pr_Wheel_reach (T : Tx K mg w) : PropOf K (ga K "Wheel") "reach" (ma K (ga K "Wheel") "reach") (pa K (ga K "Wheel") "reach") := prop_ok ((T.says.bool 32 rfl))
theorem d_Wheel_reach (T : Tx K mg w) : ∃ fd, FunD K "reach" "Wheel.reach" (defArgs s_Wheel_reach) (defBody s_Wheel_reach) (defScope s_Wheel_reach) [] [] (pa K (ga K "Wheel") "reach") fd := T.says.def_ 50 (d := dd_Wheel_reach) rfl
theorem me_Wheel___len__ (T : Tx K mg w) : Meth K (ga K "Wheel") "__len__" (ma K (ga K "Wheel") "__len__") := by
  obtain ⟨h, X, G⟩ := T.ex
  exact He.meth_ok (T.says.fact 94 rfl)
theorem fq_Wheel___len__ (T : Tx K mg w) : isFn K (.ref (ma K (ga K "Wheel") "__len__")) = true ∧ fnIn K (ma K (ga K "Wheel") "__len__") = true := He.ba ((T.says.bool 33 rfl))
theorem d_Wheel___len__ (T : Tx K mg w) : ∃ fd, FunD K "__len__" "Wheel.__len__" (defArgs s_Wheel___len__) (defBody s_Wheel___len__) (defScope s_Wheel___len__) [] [] (ma K (ga K "Wheel") "__len__") fd := T.says.def_ 51 (d := dd_Wheel___len__) rfl
theorem me_Wheel___getitem__ (T : Tx K mg w) : Meth K (ga K "Wheel") "__getitem__" (ma K (ga K "Wheel") "__getitem__") := by
  obtain ⟨h, X, G⟩ := T.ex
  exact He.meth_ok (T.says.fact 95 rfl)
theorem fq_Wheel___getitem__ (T : Tx K mg w) : isFn K (.ref (ma K (ga K "Wheel") "__getitem__")) = true ∧ fnIn K (ma K (ga K "Wheel") "__getitem__") = true := He.ba ((T.says.bool 34 rfl))
theorem d_Wheel___getitem__ (T : Tx K mg w) : ∃ fd, FunD K "__getitem__" "Wheel.__getitem__" (defArgs s_Wheel___getitem__) (defBody s_Wheel___getitem__) (defScope s_Wheel___getitem__) [] [] (ma K (ga K "Wheel") "__getitem__") fd := T.says.def_ 52 (d := dd_Wheel___getitem__) rfl
theorem me_Wheel___iter__ (T : Tx K mg w) : Meth K (ga K "Wheel") "__iter__" (ma K (ga K "Wheel") "__iter__") := by
  obtain ⟨h, X, G⟩ := T.ex
  exact He.meth_ok (T.says.fact 96 rfl)
theorem fq_Wheel___iter__ (T : Tx K mg w) : isFn K (.ref (ma K (ga K "Wheel") "__iter__")) = true ∧ fnIn K (ma K (ga K "Wheel") "__iter__") = true := He.ba ((T.says.bool 35 rfl))
theorem d_Wheel___iter__ (T : Tx K mg w) : ∃ fd, FunD K "__iter__" "Wheel.__iter__" (defArgs s_Wheel___iter__) (defBody s_Wheel___iter__) (defScope s_Wheel___iter__) [] [] (ma K (ga K "Wheel") "__iter__") fd := T.says.def_ 53 (d := dd_Wheel___iter__) rfl
theorem me_Wheel___contains__ (T : Tx K mg w) : Meth K (ga K "Wheel") "__contains__" (ma K (ga K "Wheel") "__contains__") := by
  obtain ⟨h, X, G⟩ := T.ex
  exact He.meth_ok (T.says.fact 97 rfl)
theorem fq_Wheel___contains__ (T : Tx K mg w) : isFn K (.ref (ma K (ga K "Wheel") "__contains__")) = true ∧ fnIn K (ma K (ga K "Wheel") "__contains__") = true := He.ba ((T.says.bool 36 rfl))
theorem d_Wheel___contains__ (T : Tx K mg w) : ∃ fd, FunD K "__contains__" "Wheel.__contains__" (defArgs s_Wheel___contains__) (defBody s_Wheel___contains__) (defScope s_Wheel___contains__) [] [] (ma K (ga K "Wheel") "__contains__") fd := T.says.def_ 54 (d := dd_Wheel___contains__) rfl
theorem me_Wheel___eq__ (T : Tx K mg w) : Meth K (ga K "Wheel") "__eq__" (ma K (ga K "Wheel") "__eq__") := by
  obtain ⟨h, X, G⟩ := T.ex
  exact He.meth_ok (T.says.fact 98 rfl)
theorem fq_Wheel___eq__ (T : Tx K mg w) : isFn K (.ref (ma K (ga K "Wheel") "__eq__")) = true ∧ fnIn K (ma K (ga K "Wheel") "__eq__") = true := He.ba ((T.says.bool 37 rfl))
theorem d_Wheel___eq__ (T : Tx K mg w) : ∃ fd, FunD K "__eq__" "Wheel.__eq__" (defArgs s_Wheel___eq__) (defBody s_Wheel___eq__) (defScope s_Wheel___eq__) [] [] (ma K (ga K "Wheel") "__eq__") fd := T.says.def_ 55 (d := dd_Wheel___eq__) rfl
theorem me_Wheel_level_of (T : Tx K mg w) : Meth K (ga K "Wheel") "level_of" (ma K (ga K "Wheel") "level_of") := by
  obtain ⟨h, X, G⟩ := T.ex
  exact He.meth_ok (T.says.fact 99 rfl)
theorem fq_Wheel_level_of (T : Tx K mg w) : isFn K (.ref (ma K (ga K "Wheel") "level_of")) = true ∧ fnIn K (ma K (ga K "Wheel") "level_of") = true := He.ba ((T.says.bool 38 rfl))
theorem d_Wheel_level_of (T : Tx K mg w) : ∃ fd, FunD K "level_of" "Wheel.level_of" (defArgs s_Wheel_level_of) (defBody s_Wheel_level_of) (defScope s_Wheel_level_of) [] [] (ma K (ga K "Wheel") "level_of") fd := T.says.def_ 56 (d := dd_Wheel_level_of) rfl
theorem glo_Book (T : Tx K mg w) : mg "Book" = some (.ref (ga K "Book")) := by
  obtain ⟨h, X, G⟩ := T.ex
  exact He.glo_ok X G (T.says.fact 100 rfl)
theorem cls_Book (T : Tx K mg w) : Cls K (ga K "Book") := by
  obtain ⟨h, X, G⟩ := T.ex
  exact He.cls_ok (T.says.fact 101 rfl)
theorem mk_Book (T : Tx K mg w) : Mk K (ga K "Book") (ma K (ga K "Book") "__init__") := by
  obtain ⟨h, X, G⟩ := T.ex
  exact He.mkr_ok (T.says.fact 102 rfl)
theorem isi_Book (T : Tx K mg w) : IsiC K (ga K "Book") := isi_ok ((T.says.bool 39 rfl))
theorem kit_Book (T : Tx K mg w) : kitOne K (.ref (ga K "Book")) (.ref (ga K "Book")) = some true := kit_ok (t := fun K => .ref (ga K "Book")) (c := fun K => .ref (ga K "Book")) ((T.says.bool 40 rfl))
theorem na_Book_kept_values (T : Tx K mg w) : NoAttr K (ga K "Book") "kept_values" := by
  obtain ⟨h, X, G⟩ := T.ex
  exact He.noat_ok (T.says.fact 103 rfl)
theorem fq_Book___init__ (T : Tx K mg w) : isFn K (.ref (ma K (ga K "Book") "__init__")) = true ∧ fnIn K (ma K (ga K "Book") "__init__") = true := He.ba ((T.says.bool 41 rfl))
theorem d_Book___init__ (T : Tx K mg w) : ∃ fd, FunD K "__init__" "Book.__init__" (defArgs s_Book___init__) (defBody s_Book___init__) (defScope s_Book___init__) [] [("rounding", V.str "down"), ("action", V.str "move"), ("order", V.str "high"), ("due", V.str "now"), ("zero", V.str "one"), ("beyond", V.str "refuse")] (ma K (ga K "Book") "__init__") fd := T.says.def_ 57 (d := dd_Book___init__) rfl
theorem pr_Book_rounding (T : Tx K mg w) : PropOf K (ga K "Book") "rounding" (ma K (ga K "Book") "rounding") (pa K (ga K "Book") "rounding") := prop_ok ((T.says.bool 42 rfl))
theorem d_Book_rounding (T : Tx K mg w) : ∃ fd, FunD K "rounding" "Book.rounding" (defArgs s_Book_rounding) (defBody s_Book_rounding) (defScope s_Book_rounding) [] [] (pa K (ga K "Book") "rounding") fd := T.says.def_ 58 (d := dd_Book_rounding) rfl
theorem pr_Book_action (T : Tx K mg w) : PropOf K (ga K "Book") "action" (ma K (ga K "Book") "action") (pa K (ga K "Book") "action") := prop_ok ((T.says.bool 43 rfl))
theorem d_Book_action (T : Tx K mg w) : ∃ fd, FunD K "action" "Book.action" (defArgs s_Book_action) (defBody s_Book_action) (defScope s_Book_action) [] [] (pa K (ga K "Book") "action") fd := T.says.def_ 59 (d := dd_Book_action) rfl
theorem pr_Book_order (T : Tx K mg w) : PropOf K (ga K "Book") "order" (ma K (ga K "Book") "order") (pa K (ga K "Book") "order") := prop_ok ((T.says.bool 44 rfl))
theorem d_Book_order (T : Tx K mg w) : ∃ fd, FunD K "order" "Book.order" (defArgs s_Book_order) (defBody s_Book_order) (defScope s_Book_order) [] [] (pa K (ga K "Book") "order") fd := T.says.def_ 60 (d := dd_Book_order) rfl
theorem pr_Book_due (T : Tx K mg w) : PropOf K (ga K "Book") "due" (ma K (ga K "Book") "due") (pa K (ga K "Book") "due") := prop_ok ((T.says.bool 45 rfl))
theorem d_Book_due (T : Tx K mg w) : ∃ fd, FunD K "due" "Book.due" (defArgs s_Book_due) (defBody s_Book_due) (defScope s_Book_due) [] [] (pa K (ga K "Book") "due") fd := T.says.def_ 61 (d := dd_Book_due) rfl
theorem pr_Book_zero (T : Tx K mg w) : PropOf K (ga K "Book") "zero" (ma K (ga K "Book") "zero") (pa K (ga K "Book") "zero") := prop_ok ((T.says.bool 46 rfl))
theorem d_Book_zero (T : Tx K mg w) : ∃ fd, FunD K "zero" "Book.zero" (defArgs s_Book_zero) (defBody s_Book_zero) (defScope s_Book_zero) [] [] (pa K (ga K "Book") "zero") fd := T.says.def_ 62 (d := dd_Book_zero) rfl
theorem pr_Book_beyond (T : Tx K mg w) : PropOf K (ga K "Book") "beyond" (ma K (ga K "Book") "beyond") (pa K (ga K "Book") "beyond") := prop_ok ((T.says.bool 47 rfl))
theorem d_Book_beyond (T : Tx K mg w) : ∃ fd, FunD K "beyond" "Book.beyond" (defArgs s_Book_beyond) (defBody s_Book_beyond) (defScope s_Book_beyond) [] [] (pa K (ga K "Book") "beyond") fd := T.says.def_ 63 (d := dd_Book_beyond) rfl
theorem pr_Book_text (T : Tx K mg w) : PropOf K (ga K "Book") "text" (ma K (ga K "Book") "text") (pa K (ga K "Book") "text") := prop_ok ((T.says.bool 48 rfl))
theorem d_Book_text (T : Tx K mg w) : ∃ fd, FunD K "text" "Book.text" (defArgs s_Book_text) (defBody s_Book_text) (defScope s_Book_text) [] [] (pa K (ga K "Book") "text") fd := T.says.def_ 64 (d := dd_Book_text) rfl
theorem me_Book___eq__ (T : Tx K mg w) : Meth K (ga K "Book") "__eq__" (ma K (ga K "Book") "__eq__") := by
  obtain ⟨h, X, G⟩ := T.ex
  exact He.meth_ok (T.says.fact 104 rfl)
theorem fq_Book___eq__ (T : Tx K mg w) : isFn K (.ref (ma K (ga K "Book") "__eq__")) = true ∧ fnIn K (ma K (ga K "Book") "__eq__") = true := He.ba ((T.says.bool 49 rfl))
theorem d_Book___eq__ (T : Tx K mg w) : ∃ fd, FunD K "__eq__" "Book.__eq__" (defArgs s_Book___eq__) (defBody s_Book___eq__) (defScope s_Book___eq__) [] [] (ma K (ga K "Book") "__eq__") fd := T.says.def_ 65 (d := dd_Book___eq__) rfl
theorem me_Book___getitem__ (T : Tx K mg w) : Meth K (ga K "Book") "__getitem__" (ma K (ga K "Book") "__getitem__") := by
  obtain ⟨h, X, G⟩ := T.ex
  exact He.meth_ok (T.says.fact 105 rfl)
theorem fq_Book___getitem__ (T : Tx K mg w) : isFn K (.ref (ma K (ga K "Book") "__getitem__")) = true ∧ fnIn K (ma K (ga K "Book") "__getitem__") = true := He.ba ((T.says.bool 50 rfl))
theorem d_Book___getitem__ (T : Tx K mg w) : ∃ fd, FunD K "__getitem__" "Book.__getitem__" (defArgs s_Book___getitem__) (defBody s_Book___getitem__) (defScope s_Book___getitem__) [] [] (ma K (ga K "Book") "__getitem__") fd := T.says.def_ 66 (d := dd_Book___getitem__) rfl
theorem me_Book___iter__ (T : Tx K mg w) : Meth K (ga K "Book") "__iter__" (ma K (ga K "Book") "__iter__") := by
  obtain ⟨h, X, G⟩ := T.ex
  exact He.meth_ok (T.says.fact 106 rfl)
theorem fq_Book___iter__ (T : Tx K mg w) : isFn K (.ref (ma K (ga K "Book") "__iter__")) = true ∧ fnIn K (ma K (ga K "Book") "__iter__") = true := He.ba ((T.says.bool 51 rfl))
theorem d_Book___iter__ (T : Tx K mg w) : ∃ fd, FunD K "__iter__" "Book.__iter__" (defArgs s_Book___iter__) (defBody s_Book___iter__) (defScope s_Book___iter__) [] [] (ma K (ga K "Book") "__iter__") fd := T.says.def_ 67 (d := dd_Book___iter__) rfl
theorem me_Book___contains__ (T : Tx K mg w) : Meth K (ga K "Book") "__contains__" (ma K (ga K "Book") "__contains__") := by
  obtain ⟨h, X, G⟩ := T.ex
  exact He.meth_ok (T.says.fact 107 rfl)
theorem fq_Book___contains__ (T : Tx K mg w) : isFn K (.ref (ma K (ga K "Book") "__contains__")) = true ∧ fnIn K (ma K (ga K "Book") "__contains__") = true := He.ba ((T.says.bool 52 rfl))
theorem d_Book___contains__ (T : Tx K mg w) : ∃ fd, FunD K "__contains__" "Book.__contains__" (defArgs s_Book___contains__) (defBody s_Book___contains__) (defScope s_Book___contains__) [] [] (ma K (ga K "Book") "__contains__") fd := T.says.def_ 68 (d := dd_Book___contains__) rfl
theorem cm_Book_from_text (T : Tx K mg w) : ClX.CMet K (ga K "Book") (.type "type") "from_text" (ma K (ga K "Book") "from_text") (He5.wf K (ga K "Book") "classmethod" "from_text") := cm_ok ((T.says.bool 53 rfl))
theorem cr_Book (T : Tx K mg w) : ClX.CRead K (ga K "Book") (.type "type") := cread_ok ((T.says.bool 54 rfl))
theorem d_Book_from_text (T : Tx K mg w) : ∃ fd, FunD K "from_text" "Book.from_text" (defArgs s_Book_from_text) (defBody s_Book_from_text) (defScope s_Book_from_text) [] [] (He5.wf K (ga K "Book") "classmethod" "from_text") fd := T.says.def_ 69 (d := dd_Book_from_text) rfl
end
def spLaw (K : Frag) : Sp := fun vs H Q _ => ∃ (a : Addr) (ns : List Int), vs = [.ref a] ∧ SqL K H a (ns.map V.int) ∧ ns.length ≤ 63 ∧ H (tbA K (ga K "law")) = some (.tbl #[]) ∧ ∀ H', Q (.bl true) H'
end Hd
section
open PySem PySem.W PySem.Calls PyProof.Rows
theorem Hd.holds {k : Nat} {CX : L2.CXT} (hCX : ∀ (H : L2.Hp) (s : Shared) (e : Value) (s' : Shared), CX [] H s (fun _ _ _ => False) e s' → False) (hr : Tw.RmG k callerA)
    (F : ∀ (K : Frag) (mg : PySem.Str → Option Value) (w : World) (base : Heap), Hd.Tx K mg w → LamX.TabB base mg (Tw.codA K (He.ga K "law")) (Tw.tbA K (He.ga K "law")) → Tw.FnG (PySem.Challenge.rw_timerwheels_k19_lateness).prog w K mg base CX k (He.ga K "law") (Hd.spLaw K)) : PySem.Challenge.rw_timerwheels_k19_lateness.Holds := by
  w_on; o_law
  refine HandSHeadRun.head_any (r := OpenLaw.row PySem.Challenge.rw_timerwheels_k19_lateness) (q := view (OpenLaw.row PySem.Challenge.rw_timerwheels_k19_lateness).prog [74]) (H := Hd.hk) (ob := Hd.ob) (M := 8043) (loose := Hd.loose) (d := HandSHeadRun.topDef (OpenLaw.row PySem.Challenge.rw_timerwheels_k19_lateness).prog 74) (kwd := []) Hd.ob_eq
    (by kernel_rfl) (fun s => by kernel_rfl) Hd.run (by kernel_rfl) (by kernel_rfl) (by kernel_rfl) (by rfl) (by first | assumption | decide +kernel) (by decide +kernel) ⟨rfl, rfl, rfl, rfl, rfl, by decide +kernel⟩ ?hw ?hc
  case hw => w_witness2
  case hc =>
    refine Tw.walk_ofGT (l := PySem.Challenge.rw_timerwheels_k19_lateness) (n := 63) (k := k) (CX := CX) rfl (by decide) (by kernel_rfl) hr ?F hCX
    intro w mg fa h Y G hmg0
    obtain ⟨K, KX, c, tb⟩ := Y
    have hmg : mg ("law" : PySem.Str) = some (.ref fa) := by
      have e : (HandSHeadRun.topDef (OpenLaw.row PySem.Challenge.rw_timerwheels_k19_lateness).prog 74).name = ("law" : PySem.Str) := by kernel_rfl
      rw [← e]
      exact hmg0
    have T : Hd.Tx K mg w := ⟨⟨h, KX, G⟩, c.m, c⟩
    have e := hmg.symm.trans (Hd.glo_law T)
    cases e
    refine ⟨K, [(Tw.codA K (He.ga K "law"), Tw.tbA K (He.ga K "law"))], Hd.spLaw K, KX, ?_, ?_, ?_, fun H a ns hl hS hB => ⟨a, ns, rfl, hS, hl, hB (Tw.codA K (He.ga K "law"), Tw.tbA K (He.ga K "law")) (by simp), fun _ => rfl⟩, fun base _ _ hB => F K mg w base T (hB (Tw.codA K (He.ga K "law"), Tw.tbA K (He.ga K "law")) (by simp))⟩
    · intro p hp
      simp only [List.mem_cons, List.not_mem_nil, or_false] at hp
      subst hp
      show h.get? (Tw.tbA K (He.ga K "law")) = _
      rw [Hd.tb_law T]
      exact tb _ (by simp)
    · intro p hp
      simp only [List.mem_cons, List.not_mem_nil, or_false] at hp
      subst hp
      show K.lookup (Tw.tbA K (He.ga K "law")) = none
      rw [Hd.tb_law T]
      exact Hd.off_law T
    · intro p hp
      simp only [List.mem_cons, List.not_mem_nil, or_false] at hp
      subst hp
      exact Hd.ch_law T
end
/-! Tw: numbers within bounds, of any kind; Level made of anything -/
namespace Tw
open PySem PySem.Spec PyProof.Rows L2 He TwM StX
open PySem.W (Frag)
local macro_rules | `(tactic| walk_at "rsl") => `(tactic| simp only [*, at3_0, at3_1, at3_2, at2_0, at2_1, updS, upd_two, gSub, rSetL, updN, tPar, tPar3, gTup, gCons, gNil, and_assoc, not_true_eq_false, not_false_eq_true, tNever, List.length_map, tFld, rIxTH, rIxLH, rLenTH, rLenLH, lk1, lfs_g, lfs_s, lfs_p, HO.ins.injEq, HO.tup.injEq, HO.lst.injEq, sp_Book_rounding, sp_Book_action, sp_Book_order, sp_Book_due, sp_Book_zero, sp_Book_beyond, Int.toNat_natCast, sp_visit_after, sp_is_visited, sp_Level_grain, sp_Level_slots, sp_Level_span, sp_Wheel_reach, sp_Wheel___len__, sp_is_integer, sp_is_count, sp_is_within, sp_rounded, tAsg, gName, tVar, tC, tOp, rI, rI0, rU, tUn, oAdd, oSub, oMul, oDiv, oMod, oNeg, oLt, oLe, oGt, oGe, oIsN, oNotN, tFn, tCons, tNil, tIfS, tIf, tTest, tB, tNot, tAnd, tOr, tAndV, tOrV, tNotV,
    tRet, tRetN, tNext, tCB, tDrop, tChain, rEq, rNe, oMax2, oMin2, oInt1, rLenF, L2.start, List.map_cons, List.map_nil, List.length_cons, List.length_nil, List.replicate_succ, List.replicate_zero, List.cons_append, List.nil_append, Nat.reduceAdd, Nat.reduceSub, Nat.zero_add,
    List.set_cons_zero, List.set_cons_succ, List.getElem?_cons_zero, List.getElem?_cons_succ, Option.some.injEq, V.int.injEq, V.ref.injEq, V.str.injEq, V.bl.injEq, exists_eq_left', exists_eq_left, exists_and_left, List.cons.injEq, and_true, true_and, decide_eq_true_eq, sc_ii, sc_ss, sc_bb, sc_ni, sc_in, sc_nn, sc_is, reduceCtorEq,
    Bool.not_eq_true', decide_eq_false_iff_not, if_true, if_false, Bool.false_eq_true, exists_eq', exists_const, false_and, and_false, or_false, false_or, exists_false, Bool.not_not, Bool.not_true, Bool.not_false, sUp_up, sFire_fire, sHigh_high, sPut_put, sZone_now, sBey_refuse, sBey_cut, tTup, tLst, sz0, sz1, sz2, sz3, sz4, sz5, sz6])
local macro_rules | `(tactic| walk_at "st") => `(tactic| ((try dsimp only); rw [seq1]; walk_at "rsl"))
section
variable {K : Frag} {w : World}
def inB (x : V) (lo hi : Int) : Bool := match x with
  | .int i => decide (lo ≤ i) && decide (i ≤ hi)
  | _ => false
def sp_is_withinA (K : Frag) : Sp := fun vs H Q _ => ∃ (x : V) (b : Bool) (lo hi : Int), vs = [x, .int lo, .int hi] ∧ IsIntV K H x b ∧ (b = true → ∃ i, x = .int i) ∧ Q (.bl (b && inB x lo hi)) H
def t_is_withinA (K : Frag) (w : World) : TS :=
  (tRet (tAndV (tFn (sp_is_integerA K) E0 (tCons (tVar 0) tNil)) (tChain oLe oLe (tVar 1) (tVar 0) (tVar 2))))
def n_is_withinA : List Str := ["value", "low", "high"]
theorem rd_is_withinA (vs : List V) (H : Hp) (Q : VK) (E : XK) (h : sp_is_withinA K vs H Q E) : t_is_withinA K w { nx := fun _ H' => Q .non H', rt := Q } (L2.start n_is_withinA vs) H := by
  obtain ⟨x, b, lo, hi, rfl, h1, h2, q⟩ := h
  unfold t_is_withinA n_is_withinA
  refine ⟨_, rfl, x, b, rfl, h1, b, rfl, ?_⟩
  cases b with
  | false => exact q
  | true =>
    obtain ⟨i, rfl⟩ := h2 rfl
    walk_at "rsl"
    have q : Q (.bl (decide (lo ≤ i) && decide (i ≤ hi))) H := q
    by_cases h1 : lo ≤ i
    · by_cases h2 : i ≤ hi <;> simpa [h1, h2] using q
    · simpa [h1] using q
def intOf (x : V) : Int := match x with
  | .int i => i
  | _ => 0
/-- the wrong value among them, if any -/
def lvOut (g s z : V) (bg bs bz : Bool) : Option V := if (!(bg && inB g 1 1000)) = true then some g else if (!(bs && inB s 2 100)) = true then some s else if z ≠ .non ∧ (!(bz && inB z 2 (4 * intOf s * intOf g))) = true then some z else none
def sp_Level___init__R (K : Frag) : Sp := fun vs H Q E => ∃ (x dx : Addr) (g s z : V) (bg bs bz : Bool), vs = [.ref x, g, s, z] ∧ IsIntV K H g bg ∧ (bg = true → ∃ i, g = .int i) ∧ IsIntV K H s bs ∧ (bs = true → ∃ i, s = .int i) ∧ IsIntV K H z bz ∧ (bz = true → ∃ i, z = .int i) ∧ H x = some (.ins (ga K "Level") dx []) ∧
  (∀ v, lvOut g s z bg bs bz = some v → ∀ d, H d = none → E (.ref (ga K "InvalidNumber")) (some d) (upd H d (.xd [("value", v)]))) ∧
  (lvOut g s z bg bs bz = none → ∀ H', SameX x H H' → LvAt K H' x ⟨intOf g, intOf s, if z = .non then intOf s * intOf g else intOf z⟩ → Q .non H')
def t_Level___init__R (K : Frag) (w : World) (E : XK) : TS :=
  (tSeq (tIfS (tNot (tB (tFn (sp_is_withinA K) E0 (tCons (tVar 1) (tCons (tC (.int 1)) (tCons (tC (.int 1000)) tNil)))))) (tRz E (ga K "InvalidNumber") "value" (tVar 1)) tNext)
  (tSeq (tIfS (tNot (tB (tFn (sp_is_withinA K) E0 (tCons (tVar 2) (tCons (tC (.int 2)) (tCons (tC (.int 100)) tNil)))))) (tRz E (ga K "InvalidNumber") "value" (tVar 2)) tNext)
  (tSeq (tIfS (tAnd (tTest (tOp oNotN (tVar 3) (tC .non))) (tNot (tB (tFn (sp_is_withinA K) E0 (tCons (tVar 3) (tCons (tC (.int 2)) (tCons (tOp oMul (tOp oMul (tC (.int 4)) (tVar 2)) (tVar 1)) tNil))))))) (tRz E (ga K "InvalidNumber") "value" (tVar 3)) tNext)
  (tSeq (sFld K (tVar 0) (tVar 1) "kept_grain")
  (tSeq (sFld K (tVar 0) (tVar 2) "kept_slots")
  (sFld K (tVar 0) (tIf (tTest (tOp oIsN (tVar 3) (tC .non))) (tOp oMul (tVar 2) (tVar 1)) (tVar 3)) "kept_span"))))))
def n_Level___init__R : List Str := ["self", "grain", "slots", "span"]
theorem rd_Level___init__R (T : Klv K w) (vs : List V) (H : Hp) (Q : VK) (E : XK) (h : sp_Level___init__R K vs H Q E) : t_Level___init__R K w E { nx := fun _ H' => Q .non H', rt := Q } (L2.start n_Level___init__R vs) H := by
  obtain ⟨x, dx, g, s, z, bg, bs, bz, rfl, hg, hgi, hs, hsi, hz, hzi, hx, hE, hQ⟩ := h
  unfold lvOut at hE hQ
  unfold t_Level___init__R n_Level___init__R
  refine ⟨_, rfl, g, bg, 1, 1000, rfl, hg, hgi, _, rfl, ?_⟩
  cases h1 : (bg && inB g 1 1000) with
  | false =>
    rw [h1] at hE
    exact ⟨_, rfl, fun d hd => hE g rfl d hd⟩
  | true =>
  rw [h1] at hE hQ
  rw [if_neg (by decide)] at hE hQ
  refine ⟨_, rfl, s, bs, 2, 100, rfl, hs, hsi, _, rfl, ?_⟩
  cases h2 : (bs && inB s 2 100) with
  | false =>
    rw [h2] at hE
    exact ⟨_, rfl, fun d hd => hE s rfl d hd⟩
  | true =>
  rw [h2] at hE hQ
  rw [if_neg (by decide)] at hE hQ
  obtain ⟨e1, e2⟩ := Bool.and_eq_true_iff.mp h1
  obtain ⟨e3, e4⟩ := Bool.and_eq_true_iff.mp h2
  obtain ⟨gi, rfl⟩ := hgi e1
  obtain ⟨si, rfl⟩ := hsi e3
  have e2 : (decide (1 ≤ gi) && decide (gi ≤ 1000)) = true := e2
  have e4 : (decide (2 ≤ si) && decide (si ≤ 100)) = true := e4
  simp only [Bool.and_eq_true, decide_eq_true_eq] at e2 e4
  rw [if_neg (by decide)]
  have c1 := T.cL
  have c2 := T.nLg
  have c3 := T.nLs
  have c4 := T.nLp
  have hfin : ∀ pi : Int, (∀ H', SameX x H H' → LvAt K H' x ⟨gi, si, pi⟩ → Q .non H') → Q .non (upd (upd (upd H x (.ins (ga K "Level") dx (putF "kept_grain" (.int gi) []))) x (.ins (ga K "Level") dx (putF "kept_slots" (.int si) (putF "kept_grain" (.int gi) []))))
      x (.ins (ga K "Level") dx (putF "kept_span" (.int pi) (putF "kept_slots" (.int si) (putF "kept_grain" (.int gi) []))))) := fun pi q =>
    q _ (SameX.upd (SameX.upd (SameX.upd (SameX.refl x H)))) ⟨⟨e2.1, e2.2, e4.1, e4.2⟩, dx, by rw [upd_same]; rfl⟩
  unfold tNext sFld
  try dsimp only
  rw [seq1]
  by_cases hzn : z = .non
  · subst hzn
    rw [if_neg (fun y => y.1 rfl)] at hQ
    walk_at "rsl"
    refine ⟨_, rfl, _, rfl, x, rfl, _, _, _, hx, c1, c2, (show 0 < 1000 by decide), _, rfl, _, rfl, x, rfl, _, _, _, upd_same, c1, c3, (show 1 < 1000 by decide), _, rfl, ?_⟩
    rw [if_pos rfl]
    refine ⟨_, rfl, _, rfl, si, rfl, gi, rfl, .inr ⟨by omega, by omega⟩, _, rfl, x, rfl, _, _, _, upd_same, c1, c4, (show 2 < 1000 by decide), ?_⟩
    exact hfin (si * gi) (hQ rfl)
  · refine ⟨_, rfl, rfl, _, rfl, ?_⟩
    dsimp only
    rw [if_pos (show (!decide (z = V.non)) = true by rw [decide_eq_false hzn]; rfl)]
    refine ⟨_, rfl, _, rfl, 4, si, rfl, rfl, .inr ⟨by omega, by omega⟩, _, rfl, _, gi, rfl, rfl, .inr ⟨by omega, by omega⟩, z, bz, 2, 4 * si * gi, rfl, hz, hzi, _, rfl, ?_⟩
    dsimp only
    have hio : (4 * intOf (.int si) * intOf (.int gi)) = 4 * si * gi := rfl
    rw [hio] at hE hQ
    cases h3 : (bz && inB z 2 (4 * si * gi)) with
    | false =>
      rw [h3, if_pos ⟨hzn, rfl⟩] at hE
      rw [if_pos (by decide)]
      exact ⟨_, rfl, fun d hd => hE z rfl d hd⟩
    | true =>
    rw [h3, if_neg (fun y => by cases y.2)] at hQ
    obtain ⟨e5, e6⟩ := Bool.and_eq_true_iff.mp h3
    obtain ⟨zi, rfl⟩ := hzi e5
    rw [if_neg (by decide)]
    walk_at "rsl"
    refine ⟨_, rfl, _, rfl, x, rfl, _, _, _, hx, c1, c2, (show 0 < 1000 by decide), _, rfl, _, rfl, x, rfl, _, _, _, upd_same, c1, c3, (show 1 < 1000 by decide), _, rfl, ?_⟩
    rw [if_neg hzn]
    refine ⟨_, rfl, _, rfl, x, rfl, _, _, _, upd_same, c1, c4, (show 2 < 1000 by decide), ?_⟩
    have hq := hQ rfl
    rw [if_neg hzn] at hq
    exact hfin zi hq
end
end Tw
/-! Tw: point_of and next_visit of anything -/
namespace Tw
open PySem PySem.Spec PyProof.Rows L2 He TwM StX
open PySem.W (Frag)
local macro_rules | `(tactic| walk_at "rsl") => `(tactic| simp only [*, at3_0, at3_1, at3_2, at2_0, at2_1, updS, upd_two, gSub, rSetL, updN, tPar, tPar3, gTup, gCons, gNil, and_assoc, not_true_eq_false, not_false_eq_true, tNever, List.length_map, tFld, rIxTH, rIxLH, rLenTH, rLenLH, lk1, lfs_g, lfs_s, lfs_p, HO.ins.injEq, HO.tup.injEq, HO.lst.injEq, sp_Book_rounding, sp_Book_action, sp_Book_order, sp_Book_due, sp_Book_zero, sp_Book_beyond, Int.toNat_natCast, sp_visit_after, sp_is_visited, sp_Level_grain, sp_Level_slots, sp_Level_span, sp_Wheel_reach, sp_Wheel___len__, sp_is_integer, sp_is_count, sp_is_within, sp_rounded, tAsg, gName, tVar, tC, tOp, rI, rI0, rU, tUn, oAdd, oSub, oMul, oDiv, oMod, oNeg, oLt, oLe, oGt, oGe, oIsN, oNotN, tFn, tCons, tNil, tIfS, tIf, tTest, tB, tNot, tAnd, tOr, tAndV, tOrV, tNotV,
    tRet, tRetN, tNext, tCB, tDrop, tChain, rEq, rNe, oMax2, oMin2, oInt1, rLenF, L2.start, List.map_cons, List.map_nil, List.length_cons, List.length_nil, List.replicate_succ, List.replicate_zero, List.cons_append, List.nil_append, Nat.reduceAdd, Nat.reduceSub, Nat.zero_add,
    List.set_cons_zero, List.set_cons_succ, List.getElem?_cons_zero, List.getElem?_cons_succ, Option.some.injEq, V.int.injEq, V.ref.injEq, V.str.injEq, V.bl.injEq, exists_eq_left', exists_eq_left, exists_and_left, List.cons.injEq, and_true, true_and, decide_eq_true_eq, sc_ii, sc_ss, sc_bb, sc_ni, sc_in, sc_nn, sc_is, reduceCtorEq,
    Bool.not_eq_true', decide_eq_false_iff_not, if_true, if_false, Bool.false_eq_true, exists_eq', exists_const, false_and, and_false, or_false, false_or, exists_false, Bool.not_not, Bool.not_true, Bool.not_false, sUp_up, sFire_fire, sHigh_high, sPut_put, sZone_now, sBey_refuse, sBey_cut, tTup, tLst, sz0, sz1, sz2, sz3, sz4, sz5, sz6])
local macro_rules | `(tactic| walk_at "st") => `(tactic| ((try dsimp only); rw [seq1]; walk_at "rsl"))
section
variable {K : Frag} {w : World}
/-- the wrong number among the two, if any -/
def nvOut (x y : V) (bx bY : Bool) : Option V := if (!(bx && cntB x)) = true then some x else if (!(bY && cntB y)) = true then some y else none
def sp_next_visit (K : Frag) : Sp := fun vs H Q E => ∃ (a : Addr) (l : Lv) (x y : V) (bx bY : Bool), vs = [.ref a, x, y] ∧ LvAt K H a l ∧ IsIntV K H x bx ∧ (bx = true → ∃ i, x = .int i) ∧ IsIntV K H y bY ∧ (bY = true → ∃ i, y = .int i) ∧
  (∀ v, nvOut x y bx bY = some v → ∀ d, H d = none → E (.ref (ga K "InvalidNumber")) (some d) (upd H d (.xd [("value", v)]))) ∧ (nvOut x y bx bY = none → Q (.int (va l (intOf x) (intOf y))) H)
def t_next_visit (K : Frag) (w : World) (E : XK) : TS :=
  (tSeq (tIfS (tNot (tB (tFn (sp_is_countA K) E0 (tCons (tVar 1) tNil)))) (tRz E (ga K "InvalidNumber") "value" (tVar 1)) tNext)
  (tSeq (tIfS (tNot (tB (tFn (sp_is_countA K) E0 (tCons (tVar 2) tNil)))) (tRz E (ga K "InvalidNumber") "value" (tVar 2)) tNext)
  (tRet (tFn (sp_visit_after K) E0 (tCons (tVar 0) (tCons (tVar 1) (tCons (tVar 2) tNil)))))))
def n_next_visit : List Str := ["level", "point", "now"]
theorem rd_next_visit (vs : List V) (H : Hp) (Q : VK) (E : XK) (h : sp_next_visit K vs H Q E) : t_next_visit K w E { nx := fun _ H' => Q .non H', rt := Q } (L2.start n_next_visit vs) H := by
  obtain ⟨a, l, x, y, bx, bY, rfl, hL, hx, hxi, hy, hyi, hE, hQ⟩ := h
  unfold nvOut at hE hQ
  unfold t_next_visit n_next_visit
  refine ⟨_, rfl, x, bx, rfl, hx, hxi, _, rfl, ?_⟩
  cases h1 : (bx && cntB x) with
  | false =>
    rw [h1] at hE
    exact ⟨_, rfl, fun d hd => hE x rfl d hd⟩
  | true =>
  rw [h1] at hE hQ
  rw [if_neg (by decide)] at hE hQ
  refine ⟨_, rfl, y, bY, rfl, hy, hyi, _, rfl, ?_⟩
  cases h2 : (bY && cntB y) with
  | false =>
    rw [h2] at hE
    exact ⟨_, rfl, fun d hd => hE y rfl d hd⟩
  | true =>
  rw [h2] at hQ
  rw [if_neg (by decide)] at hQ
  obtain ⟨xi, rfl⟩ := hxi (Bool.and_eq_true_iff.mp h1).1
  obtain ⟨yi, rfl⟩ := hyi (Bool.and_eq_true_iff.mp h2).1
  exact ⟨_, rfl, _, rfl, _, rfl, a, xi, yi, rfl, l, hL, hQ rfl⟩
/-- the words of the rounding -/
structure Kvr (K : Frag) (w : World) : Prop where
  vd : KDct K w (ga K "VALUES") "rounding" (.ref (dva K (ga K "VALUES") "rounding"))
  v0 : ∀ H, SqT K H (dva K (ga K "VALUES") "rounding") [.str "down", .str "up"]
/-- a value that is no text -/
def NoStr (K : Frag) (H : Hp) (x : V) : Prop := ∀ (H' : Hp) (Q : VK), Same H H' → Q (.bl false) H' → rIsi K [x, .ty "str"] H' Q
theorem noStr_of {H : Hp} {x : V} {t : String} (h : ∀ H', Same H H' → TyX K H' x (.type t)) (n : kitB t "str" = some false) : NoStr K H x := fun H' _ s q => isi_base (h H' s) n q
theorem Ov.ns {H : Hp} {x : V} {d : PyData} (h : Ov H x d) : (NoStr K H x ∧ ∀ y, x ≠ .str y) ∨ ∃ y, x = .str y := by
  cases h with
  | at_ h =>
    cases x with
    | non => exact .inl ⟨noStr_of (fun H' s => .base .non) (by decide +kernel), fun y z => by cases z⟩
    | bl b => exact .inl ⟨noStr_of (fun H' s => .base (.bl b)) (by decide +kernel), fun y z => by cases z⟩
    | int i => exact .inl ⟨noStr_of (fun H' s => .base (.int i)) (by decide +kernel), fun y z => by cases z⟩
    | str y => exact .inr ⟨y, rfl⟩
    | _ => cases h
  | tup h f => exact .inl ⟨noStr_of (fun H' s => .base (.tup (s _ _ h))) (by decide +kernel), fun y z => by cases z⟩
  | lst h f => exact .inl ⟨noStr_of (fun H' s => .base (.lst (s _ _ h))) (by decide +kernel), fun y z => by cases z⟩
  | dict h => exact .inl ⟨noStr_of (fun H' s => .base (.dK (s _ _ h))) (by decide +kernel), fun y z => by cases z⟩
def sp_is_valueA (K : Frag) : Sp := fun vs H Q _ => ∃ x : V, vs = [.str "rounding", x] ∧ ((NoStr K H x ∧ Q (.bl false) H) ∨ ∃ y : Str, x = .str y ∧ Q (.bl (inV (.str y) [.str "down", .str "up"])) H)
def t_is_valueA (K : Frag) (w : World) : TS :=
  (tRet (tAndV (tCB (rIsi K) (tCons (tVar 1) (tCons (tC (.ty "str")) tNil))) (tOp (rIn K false) (tVar 1) (tOp (rIxD K w) (tC (.ref (ga K "VALUES"))) (tVar 0)))))
def n_is_valueA : List Str := ["switch", "value"]
theorem rd_is_valueA (T : Kvr K w) (vs : List V) (H : Hp) (Q : VK) (E : XK) (h : sp_is_valueA K vs H Q E) : t_is_valueA K w { nx := fun _ H' => Q .non H', rt := Q } (L2.start n_is_valueA vs) H := by
  obtain ⟨x, rfl, h⟩ := h
  unfold t_is_valueA n_is_valueA
  walk_at "rsl"
  rcases h with ⟨hn, q⟩ | ⟨y, rfl, q⟩
  · exact hn H _ (Same.refl _) ⟨false, rfl, by rw [if_neg Bool.noConfusion]; exact q⟩
  · refine isi_base (.base (.str y)) (b := true) (by decide +kernel) ⟨true, rfl, ?_⟩
    rw [if_pos rfl]
    exact ⟨_, _, _, rfl, rfl, T.vd, _, _, rfl, .inr (T.v0 H), rfl, by decide +kernel, q⟩
theorem inV_way (y : Str) : inV (.str y) [.str "down", .str "up"] = decide (y = "down" ∨ y = "up") := by
  by_cases h1 : y = "down"
  · subst h1
    decide +kernel
  · by_cases h2 : y = "up"
    · subst h2
      decide +kernel
    · rw [decide_eq_false (fun z => z.elim h1 h2)]
      have e1 : ((("down" : Str)) == y) = false := beq_eq_false_iff_ne.mpr fun z => h1 z.symm
      have e2 : ((("up" : Str)) == y) = false := beq_eq_false_iff_ne.mpr fun z => h2 z.symm
      show ((("down" : Str) == y) || ((("up" : Str) == y) || false)) = false
      rw [e1, e2]
      rfl
/-- what is refused, and how -/
def poOut (t g r : V) (bt bg : Bool) : Option (Str × V) := if (!(bt && cntB t)) = true then some ("InvalidNumber", t) else if (!(bg && inB g 1 1000)) = true then some ("InvalidNumber", g) else if r = .str "down" ∨ r = .str "up" then none else some ("InvalidSwitch", r)
def sp_point_of (K : Frag) : Sp := fun vs H Q E => ∃ (t g r : V) (bt bg : Bool), vs = [t, g, r] ∧ IsIntV K H t bt ∧ (bt = true → ∃ i, t = .int i) ∧ IsIntV K H g bg ∧ (bg = true → ∃ i, g = .int i) ∧ ((NoStr K H r ∧ ∀ y, r ≠ .str y) ∨ ∃ y, r = .str y) ∧
  (∀ c v, poOut t g r bt bg = some (c, v) → ∀ d, H d = none → E (.ref (ga K c)) (some d) (upd H d (.xd [("value", v)]))) ∧ (poOut t g r bt bg = none → Q (.int (rnd (decide (r = .str "up")) (intOf t) (intOf g))) H)
def t_point_of (K : Frag) (w : World) (E : XK) : TS :=
  (tSeq (tIfS (tNot (tB (tFn (sp_is_countA K) E0 (tCons (tVar 0) tNil)))) (tRz E (ga K "InvalidNumber") "value" (tVar 0)) tNext)
  (tSeq (tIfS (tOr (tNot (tB (tFn (sp_is_integerA K) E0 (tCons (tVar 1) tNil)))) (tNot (tTest (tChain oLe oLe (tC (.int 1)) (tVar 1) (tC (.int 1000)))))) (tRz E (ga K "InvalidNumber") "value" (tVar 1)) tNext)
  (tSeq (tIfS (tNot (tB (tFn (sp_is_valueA K) E0 (tCons (tC (.str "rounding")) (tCons (tVar 2) tNil))))) (tRz E (ga K "InvalidSwitch") "value" (tVar 2)) tNext)
  (tRet (tFn (sp_rounded K) E0 (tCons (tVar 0) (tCons (tVar 1) (tCons (tVar 2) tNil))))))))
def n_point_of : List Str := ["tick", "grain", "rounding"]
theorem rd_point_of (vs : List V) (H : Hp) (Q : VK) (E : XK) (h : sp_point_of K vs H Q E) : t_point_of K w E { nx := fun _ H' => Q .non H', rt := Q } (L2.start n_point_of vs) H := by
  obtain ⟨t, g, r, bt, bg, rfl, ht, hti, hg, hgi, hr, hE, hQ⟩ := h
  unfold poOut at hE hQ
  unfold t_point_of n_point_of
  refine ⟨_, rfl, t, bt, rfl, ht, hti, _, rfl, ?_⟩
  cases h1 : (bt && cntB t) with
  | false =>
    rw [h1] at hE
    exact ⟨_, rfl, fun d hd => hE _ t rfl d hd⟩
  | true =>
  rw [h1] at hE hQ
  rw [if_neg (by decide)] at hE hQ
  obtain ⟨ti, rfl⟩ := hti (Bool.and_eq_true_iff.mp h1).1
  rw [if_neg (by decide)]
  have hno : bg = false → (bg && inB g 1 1000) = false := fun z => by rw [z]; rfl
  refine ⟨_, rfl, g, bg, rfl, hg, bg, rfl, ?_⟩
  cases bg with
  | false =>
    rw [hno rfl] at hE
    exact ⟨_, rfl, fun d hd => hE _ g rfl d hd⟩
  | true =>
  obtain ⟨gi, rfl⟩ := hgi rfl
  walk_at "rsl"
  have hin : (true && inB (.int gi) 1 1000) = (decide (1 ≤ gi) && decide (gi ≤ 1000)) := rfl
  rw [hin] at hE hQ
  by_cases g1 : 1 ≤ gi
  · by_cases g2 : gi ≤ 1000
    · rw [if_pos g1, if_neg (fun z => z g2)]
      rw [decide_eq_true g1, decide_eq_true g2, if_neg (by decide)] at hE hQ
      rw [seq1]
      rcases hr with ⟨hn, hr⟩ | ⟨y, rfl⟩
      · rw [if_neg (fun z => z.elim (hr _) (hr _))] at hE
        exact ⟨_, rfl, r, rfl, .inl ⟨hn, _, rfl, _, rfl, fun d hd => hE _ r rfl d hd⟩⟩
      · refine ⟨_, rfl, .str y, rfl, .inr ⟨y, rfl, _, rfl, ?_⟩⟩
        rw [inV_way]
        by_cases hy : y = "down" ∨ y = "up"
        · rw [decide_eq_true hy]
          dsimp only
          rw [if_neg (show ¬ (!true) = true by decide)]
          have hs : (V.str y = .str "down" ∨ V.str y = .str "up") := hy.imp (congrArg V.str) (congrArg V.str)
          rw [if_pos hs] at hQ
          refine ⟨_, rfl, _, rfl, _, rfl, ti, gi, decide (V.str y = .str "up"), ?_, by omega, by omega, hQ rfl⟩
          rcases hy with rfl | rfl
          · rfl
          · rfl
        · rw [decide_eq_false hy]
          dsimp only
          rw [if_pos (show (!false) = true by decide)]
          have hs : ¬ (V.str y = .str "down" ∨ V.str y = .str "up") := fun z => hy (z.imp (fun q => by injection q) (fun q => by injection q))
          rw [if_neg hs] at hE
          exact ⟨_, rfl, fun d hd => hE _ _ rfl d hd⟩
    · rw [if_pos g1, if_pos g2]
      rw [decide_eq_true g1, decide_eq_false g2, if_pos (by decide)] at hE
      exact ⟨_, rfl, fun d hd => hE _ _ rfl d hd⟩
  · rw [if_neg g1]
    rw [decide_eq_false g1, if_pos (by simp)] at hE
    exact ⟨_, rfl, fun d hd => hE _ _ rfl d hd⟩
end
end Tw
/-! Tw: place, told of anything and refusing; the law's own _law_put that refuses -/
namespace Tw
open PySem PySem.Spec PyProof.Rows L2 He TwM StX
open PySem.W (Frag)
local macro_rules | `(tactic| walk_at "rsz") => `(tactic| simp only [*, and_assoc, not_true_eq_false, not_false_eq_true, tNever, List.length_map, tFld, rIxTH, rIxLH, rLenTH, rLenLH, lk1, lfs_g, lfs_s, lfs_p, HO.ins.injEq, HO.tup.injEq, HO.lst.injEq, sp_Book_rounding, sp_Book_action, sp_Book_order, sp_Book_due, sp_Book_zero, sp_Book_beyond, Int.toNat_natCast, sp_visit_after, sp_is_visited, sp_Level_grain, sp_Level_slots, sp_Level_span, sp_Wheel_reach, sp_Wheel___len__, sp_is_integer, sp_is_count, sp_is_within, sp_rounded, tSeq, tAsg, gName, tVar, tC, tOp, rI, rI0, rU, tUn, oAdd, oSub, oMul, oDiv, oMod, oNeg, oLt, oLe, oGt, oGe, oIsN, oNotN, tFn, tCons, tNil, tIfS, tIf, tTest, tB, tNot, tAnd, tOr, tAndV, tOrV, tNotV,
    tRet, tRetN, tNext, tCB, tDrop, tChain, rEq, rNe, oMax2, oMin2, oInt1, rLenF, L2.start, List.map_cons, List.map_nil, List.length_cons, List.length_nil, List.replicate_succ, List.replicate_zero, List.cons_append, List.nil_append, Nat.reduceAdd, Nat.reduceSub, Nat.zero_add,
    List.set_cons_zero, List.set_cons_succ, List.getElem?_cons_zero, List.getElem?_cons_succ, Option.some.injEq, V.int.injEq, V.ref.injEq, V.str.injEq, V.bl.injEq, exists_eq_left', exists_eq_left, exists_and_left, List.cons.injEq, and_true, true_and, decide_eq_true_eq, sc_ii, sc_ss, sc_bb, sc_ni, sc_in, sc_nn, sc_is, reduceCtorEq,
    Bool.not_eq_true', decide_eq_false_iff_not, if_true, if_false, Bool.false_eq_true, exists_eq', exists_const, false_and, and_false, or_false, false_or, exists_false, Bool.not_not, Bool.not_true, Bool.not_false, sUp_up, sFire_fire, sHigh_high, sPut_put, sZone_now, sBey_refuse, sBey_cut, tTup, tLst, sz0, sz1, sz2, sz3, sz4, sz5, sz6])
local macro_rules | `(tactic| walk_at "rwl") => `(tactic| simp only [*, at3_0, at3_1, at3_2, at2_0, at2_1, updS, upd_two, gSub, rSetL, updN, tPar, at6_0, at6_1, at6_2, at6_3, at6_4, at6_5, and_assoc, not_true_eq_false, not_false_eq_true, tNever, List.length_map, tFld, rIxTH, rIxLH, rLenTH, rLenLH, lk1, lfs_g, lfs_s, lfs_p, HO.ins.injEq, HO.tup.injEq, HO.lst.injEq, sp_Book_rounding, sp_Book_action, sp_Book_order, sp_Book_due, sp_Book_zero, sp_Book_beyond, Int.toNat_natCast, sp_visit_after, sp_is_visited, sp_Level_grain, sp_Level_slots, sp_Level_span, sp_Wheel_reach, sp_Wheel___len__, sp_is_integer, sp_is_count, sp_is_within, sp_rounded, tSeq, tAsg, gName, tVar, tC, tOp, rI, rI0, rU, tUn, oAdd, oSub, oMul, oDiv, oMod, oNeg, oLt, oLe, oGt, oGe, oIsN, oNotN, tFn, tCons, tNil, tIfS, tIf, tTest, tB, tNot, tAnd, tOr, tAndV, tOrV, tNotV,
    tRet, tRetN, tNext, tCB, tDrop, tChain, rEq, rNe, oMax2, oMin2, oInt1, rLenF, L2.start, List.map_cons, List.map_nil, List.length_cons, List.length_nil, List.replicate_succ, List.replicate_zero, List.cons_append, List.nil_append, Nat.reduceAdd, Nat.reduceSub, Nat.zero_add,
    List.set_cons_zero, List.set_cons_succ, List.getElem?_cons_zero, List.getElem?_cons_succ, Option.some.injEq, V.int.injEq, V.ref.injEq, V.str.injEq, V.bl.injEq, exists_eq_left', exists_eq_left, exists_and_left, List.cons.injEq, and_true, true_and, decide_eq_true_eq, sc_ii, sc_ss, sc_bb, sc_ni, sc_in, sc_nn, sc_is, reduceCtorEq,
    Bool.not_eq_true', decide_eq_false_iff_not, if_true, if_false, Bool.false_eq_true, exists_eq', exists_const, false_and, and_false, or_false, false_or, exists_false, Bool.not_not, Bool.not_true, Bool.not_false, sUp_up, sFire_fire, sHigh_high, sPut_put, sZone_now, sBey_refuse, sBey_cut, tTup, tLst, sz0, sz1, sz2, sz3, sz4, sz5, sz6])
section
variable {K : Frag} {w : World}
/-- what is refused, and how -/
def plOut (x y : V) (bx bY : Bool) (W : List Lv) (B : Bk) : Option (Str × Str × V) :=
  if (!(bx && cntB x)) = true then some ("InvalidNumber", "value", x) else if (!(bY && cntB y)) = true then some ("InvalidNumber", "value", y) else if reach W ≤ intOf y ∧ B.bey = 0 then some ("TooLong", "delay", y) else none
def sp_placeR (K : Frag) : Sp := fun vs H Q E => ∃ (a b : Addr) (x y : V) (dx dy : PyData) (W : List Lv) (B : Bk), vs = [.ref a, .ref b, x, y] ∧ WhAt K H a W ∧ BkAt K H b B ∧ Ov H x dx ∧ Ov H y dy ∧
  (∀ c f v, plOut x y (intD dx) (intD dy) W B = some (c, f, v) → ∀ d, H d = none → E (.ref (ga K c)) (some d) (upd H d (.xd [(f, v)]))) ∧
  (plOut x y (intD dx) (intD dy) W B = none → ∀ v H', Same H H' → OSp H' v (placeM W B (intOf x) (intOf y)) → Q v H')
def t_placeR (K : Frag) (w : World) (E : XK) : TS :=
  (tSeq (tIfS (tNot (tB (tFn (sp_is_countA K) E0 (tCons (tVar 2) tNil)))) (tRz E (ga K "InvalidNumber") "value" (tVar 2)) tNext)
  (tSeq (tIfS (tNot (tB (tFn (sp_is_countA K) E0 (tCons (tVar 3) tNil)))) (tRz E (ga K "InvalidNumber") "value" (tVar 3)) tNext)
  (tSeq (tIfS (tAnd (tTest (tOp rEq (tVar 3) (tC (.int 0)))) (tTest (tOp rEq (tFn (sp_Book_zero K) E0 (tCons (tVar 1) tNil)) (tC (.str "now"))))) (tRet (tC .non)) tNext)
  (tSeq (tAsg (tCB oMax2 (tCons (tVar 3) (tCons (tC (.int 1)) tNil))) (gName 4))
  (tSeq (tIfS (tAnd (tTest (tOp oGe (tVar 4) (tFn (sp_Wheel_reach K) E0 (tCons (tVar 0) tNil)))) (tTest (tOp rEq (tFn (sp_Book_beyond K) E0 (tCons (tVar 1) tNil)) (tC (.str "refuse"))))) (tRz E (ga K "TooLong") "delay" (tVar 3)) tNext)
  (tSeq (tIfS (tAnd (tTest (tOp oGe (tVar 4) (tFn (sp_Wheel_reach K) E0 (tCons (tVar 0) tNil)))) (tTest (tOp rEq (tFn (sp_Book_beyond K) E0 (tCons (tVar 1) tNil)) (tC (.str "cut"))))) (tAsg (tOp oSub (tFn (sp_Wheel_reach K) E0 (tCons (tVar 0) tNil)) (tC (.int 1))) (gName 4)) tNext)
  (tRet (tFn (sp_spot_at K) E0 (tCons (tVar 0) (tCons (tVar 1) (tCons (tVar 2) (tCons (tVar 4) (tCons (tOp oAdd (tVar 2) (tVar 4)) tNil)))))))))))))
def n_placeR : List Str := ["wheel", "book", "now", "delay", "rest"]
theorem rd_placeR (vs : List V) (H : Hp) (Q : VK) (E : XK) (h : sp_placeR K vs H Q E) : t_placeR K w E { nx := fun _ H' => Q .non H', rt := Q } (L2.start n_placeR vs) H := by
  obtain ⟨a, b, x, y, dx, dy, W, B, rfl, hW, hB, hx, hy, hE, hQ⟩ := h
  unfold plOut at hE hQ
  unfold t_placeR n_placeR
  refine ⟨_, rfl, x, _, rfl, hx.isI, fun z => (hx.int z).imp fun _ q => q.1, _, rfl, ?_⟩
  cases h1 : (intD dx && cntB x) with
  | false =>
    rw [h1] at hE
    exact ⟨_, rfl, fun d hd => hE _ _ x rfl d hd⟩
  | true =>
  rw [h1] at hE hQ
  rw [if_neg (by decide)] at hE hQ
  obtain ⟨now, rfl, rfl⟩ := hx.int (Bool.and_eq_true_iff.mp h1).1
  rw [if_neg (by decide)]
  refine ⟨_, rfl, y, _, rfl, hy.isI, fun z => (hy.int z).imp fun _ q => q.1, _, rfl, ?_⟩
  cases h2 : (intD dy && cntB y) with
  | false =>
    rw [h2] at hE
    exact ⟨_, rfl, fun d hd => hE _ _ y rfl d hd⟩
  | true =>
  rw [h2] at hE hQ
  rw [if_neg (by decide)] at hE hQ
  obtain ⟨delay, rfl, rfl⟩ := hy.int (Bool.and_eq_true_iff.mp h2).1
  have hn : 0 ≤ now := of_decide_eq_true (Bool.and_eq_true_iff.mp h1).2
  have hd : 0 ≤ delay := of_decide_eq_true (Bool.and_eq_true_iff.mp h2).2
  rw [if_neg (by decide)]
  have hio : intOf (.int delay) = delay := rfl
  have hin : intOf (.int now) = now := rfl
  rw [hio] at hE hQ
  rw [hin] at hQ
  have hre : 2 ≤ reach W := (hW.ok.all (W.length - 1) (by have := hW.ok.pos; omega)).2.2.2.2
  have eW := @wh_ex K H a W hW
  have eB := @bk_ex K H b B hB
  have hb3 := hB.ok
  clear hx hy h1 h2
  walk_at "rsz"
  have key : ∀ r : Int, 0 ≤ r → (∀ v H', Same H H' → OSp H' v (some (spotAt W B now r (now + r))) → Q v H') → sp_spot_at K [.ref a, .ref b, .int now, .int r, .int (now + r)] H Q E0 :=
    fun r hr q => ⟨a, b, now, r, now + r, rfl, W, B, hW, hB, hr, fun p H' s z => q _ _ s ⟨p, rfl, z⟩⟩
  by_cases hrf : reach W ≤ delay ∧ B.bey = 0
  · rw [if_pos hrf] at hE
    have q' := hE _ _ _ rfl
    rw [if_neg (by omega), if_pos (by rw [if_neg (by omega)]; exact hrf.1), if_pos hrf.2]
    exact ⟨_, rfl, q'⟩
  · rw [if_neg hrf] at hQ
    have hr : reach W ≤ delay → B.bey ≠ 0 := fun z e => hrf ⟨z, e⟩
    have q := hQ rfl
    clear hE hQ
    unfold placeM at q
    generalize hg : (if 1 > delay then 1 else delay) = r0 at q ⊢
    have h1 : 1 ≤ r0 := by rw [← hg]; split <;> omega
    have h2 : reach W ≤ r0 → B.bey ≠ 0 := fun h => hr (by rw [← hg] at h; split at h <;> omega)
    by_cases hz : delay = 0 ∧ B.zone = false
    · rw [if_pos hz] at q
      rw [if_pos hz.1, if_pos hz.2]
      exact q _ _ (Same.refl H) rfl
    · rw [if_neg hz] at q
      dsimp only at q
      by_cases hl : reach W ≤ r0
      · have hb := h2 hl
        by_cases hc : 2 ≤ B.bey
        · have q' := key (reach W - 1) (by omega) (by have := q; rw [if_pos ⟨hl, by omega⟩] at this; exact this)
          repeat' (refine ite2 (fun _ => ?_) fun _ => ?_)
          all_goals first | exact q' | (exact absurd ⟨by assumption, by assumption⟩ hz) | (exfalso; omega)
        · have q' := key r0 (by omega) (by have := q; rw [if_neg (fun z : reach W ≤ r0 ∧ B.bey = 2 => hc (by omega))] at this; exact this)
          repeat' (refine ite2 (fun _ => ?_) fun _ => ?_)
          all_goals first | exact q' | (exact absurd ⟨by assumption, by assumption⟩ hz) | (exfalso; omega)
      · have q' := key r0 (by omega) (by have := q; rw [if_neg (fun z : reach W ≤ r0 ∧ B.bey = 2 => hl z.1)] at this; exact this)
        repeat' (refine ite2 (fun _ => ?_) fun _ => ?_)
        all_goals first | exact q' | (exact absurd ⟨by assumption, by assumption⟩ hz) | (exfalso; omega)
/-- what the law's own _law_put answers: a spot, None, or the word refused -/
def PuAt (H : Hp) (v : V) (W : List Lv) (B : Bk) (here delay : Int) : Prop := (reach W ≤ delay ∧ B.bey = 0 ∧ v = .str "refused") ∨ (¬ (reach W ≤ delay ∧ B.bey = 0) ∧ OSp H v (placeM W B here delay))
def sp__law_putF (K : Frag) : Sp := fun vs H Q _ => ∃ (r rv : Addr) (here delay : Int), vs = [.ref r, .ref rv, .int here, .int delay] ∧ ∃ W B, RowsAt H r W ∧ ROk W ∧ VlAt H rv B ∧ 0 ≤ delay ∧
  ∀ v H', Same H H' → PuAt H' v W B here delay → Q v H'
def t__law_putF (K : Frag) (w : World) : TS :=
  (tSeq (tIfS (tAnd (tTest (tOp rEq (tVar 3) (tC (.int 0)))) (tTest (tOp rEq (tOp rIxLH (tVar 1) (tC (.int 4))) (tC (.str "now"))))) (tRet (tC .non)) tNext)
  (tSeq (tPar 4 5 (tCons (tCB oMax2 (tCons (tCB oInt1 (tCons (tVar 3) tNil)) (tCons (tC (.int 1)) tNil))) (tCons (tOp rIxTH (tOp rIxLH (tVar 0) (tUn oNeg (tC (.int 1)))) (tC (.int 2))) tNil)))
  (tSeq (tIfS (tAnd (tTest (tOp oGe (tVar 4) (tVar 5))) (tTest (tOp rEq (tOp rIxLH (tVar 1) (tC (.int 5))) (tC (.str "refuse"))))) (tRet (tC (.str "refused"))) tNext)
  (tSeq (tIfS (tAnd (tTest (tOp oGe (tVar 4) (tVar 5))) (tTest (tOp rEq (tOp rIxLH (tVar 1) (tC (.int 5))) (tC (.str "cut"))))) (tAsg (tOp oSub (tVar 5) (tC (.int 1))) (gName 4)) tNext)
  (tRet (tFn (sp__law_spot_at K) E0 (tCons (tVar 0) (tCons (tVar 1) (tCons (tVar 2) (tCons (tVar 4) (tCons (tOp oAdd (tVar 2) (tVar 4)) tNil)))))))))))
def n__law_putF : List Str := ["_law_rows", "_law_values", "_law_here", "_law_delay", "_law_rest", "_law_reach"]
theorem rd__law_putF (vs : List V) (H : Hp) (Q : VK) (E : XK) (h : sp__law_putF K vs H Q E) : t__law_putF K w { nx := fun _ H' => Q .non H', rt := Q } (L2.start n__law_putF vs) H := by
  obtain ⟨r, rv, here, delay, rfl, W, B, hR, hRk, hV, hd, q0⟩ := h
  have hpos := hRk.ok.pos
  have hV1 := hV.six
  have hb3 := hV.ok
  obtain ⟨xs, t, e1, e2, e3, e4⟩ := hR.last hpos
  have hre : 2 ≤ reach W := (hRk.ok.all (W.length - 1) (by omega)).2.2.2.2
  have key : ∀ x : Int, (∀ v H', Same H H' → OSp H' v (some (spotAt W B here x (here + x))) → Q v H') → sp__law_spot_at K [.ref r, .ref rv, .int here, .int x, .int (here + x)] H Q E0 :=
    fun x q => ⟨r, rv, here, x, here + x, rfl, W, B, hR, hRk, hV, fun p H' s z => q _ _ s ⟨p, rfl, z⟩⟩
  unfold t__law_putF n__law_putF
  have hrd : reach W = (lv W (W.length - 1)).p := rfl
  walk_at "rwl"
  rw [← hrd]
  by_cases hrf : reach W ≤ delay ∧ B.bey = 0
  · have q' := q0 (.str "refused") H (Same.refl H) (.inl ⟨hrf.1, hrf.2, rfl⟩)
    rw [if_neg (by omega), if_pos (by rw [if_neg (by omega)]; exact hrf.1), if_pos hrf.2]
    exact q'
  · have hb : reach W ≤ delay → B.bey ≠ 0 := fun z e => hrf ⟨z, e⟩
    have q : ∀ v H', Same H H' → OSp H' v (placeM W B here delay) → Q v H' := fun v H' s o => q0 v H' s (.inr ⟨hrf, o⟩)
    clear q0
    unfold placeM at q
    generalize hg : (if 1 > delay then 1 else delay) = r0 at q ⊢
    have h1 : 1 ≤ r0 := by rw [← hg]; split <;> omega
    have h2 : reach W ≤ r0 → B.bey ≠ 0 := fun h => hb (by rw [← hg] at h; split at h <;> omega)
    by_cases hz : delay = 0 ∧ B.zone = false
    · rw [if_pos hz] at q
      rw [if_pos hz.1, if_pos hz.2]
      exact q _ _ (Same.refl H) rfl
    · rw [if_neg hz] at q
      dsimp only at q
      by_cases hl : reach W ≤ r0
      · have hb := h2 hl
        by_cases hc : 2 ≤ B.bey
        · have q' := key (reach W - 1) (by have := q; rw [if_pos ⟨hl, by omega⟩] at this; exact this)
          repeat' (refine ite2 (fun _ => ?_) fun _ => ?_)
          all_goals first | exact q' | (exact absurd ⟨by assumption, by assumption⟩ hz) | (exfalso; omega)
        · have q' := key r0 (by have := q; rw [if_neg (fun z : reach W ≤ r0 ∧ B.bey = 2 => hc (by omega))] at this; exact this)
          repeat' (refine ite2 (fun _ => ?_) fun _ => ?_)
          all_goals first | exact q' | (exact absurd ⟨by assumption, by assumption⟩ hz) | (exfalso; omega)
      · have q' := key r0 (by have := q; rw [if_neg (fun z : reach W ≤ r0 ∧ B.bey = 2 => hl z.1)] at this; exact this)
        repeat' (refine ite2 (fun _ => ?_) fun _ => ?_)
        all_goals first | exact q' | (exact absurd ⟨by assumption, by assumption⟩ hz) | (exfalso; omega)
end
end Tw
/-! Tw: fire_tick and lateness, told of anything and refusing -/
namespace Tw
open PySem PySem.Spec PyProof.Rows L2 He TwM StX
open PySem.W (Frag)
local macro_rules | `(tactic| walk_at "rst") => `(tactic| simp only [*, at3_0, at3_1, at3_2, at2_0, at2_1, and_assoc, not_true_eq_false, not_false_eq_true, tNever, List.length_map, tFld, rIxTH, rIxLH, rLenTH, rLenLH, lk1, lfs_g, lfs_s, lfs_p, HO.ins.injEq, HO.tup.injEq, HO.lst.injEq, sp_Book_rounding, sp_Book_action, sp_Book_order, sp_Book_due, sp_Book_zero, sp_Book_beyond, Int.toNat_natCast, sp_visit_after, sp_is_visited, sp_Level_grain, sp_Level_slots, sp_Level_span, sp_Wheel_reach, sp_Wheel___len__, sp_is_integer, sp_is_count, sp_is_within, sp_rounded, tSeq, tAsg, gName, tVar, tC, tOp, rI, rI0, rU, tUn, oAdd, oSub, oMul, oDiv, oMod, oNeg, oLt, oLe, oGt, oGe, oIsN, oNotN, tFn, tCons, tNil, tIfS, tIf, tTest, tB, tNot, tAnd, tOr, tAndV, tOrV, tNotV,
    tRet, tRetN, tNext, tCB, tDrop, tChain, rEq, rNe, oMax2, oMin2, oInt1, rLenF, L2.start, List.map_cons, List.map_nil, List.length_cons, List.length_nil, List.replicate_succ, List.replicate_zero, List.cons_append, List.nil_append, Nat.reduceAdd, Nat.reduceSub, Nat.zero_add,
    List.set_cons_zero, List.set_cons_succ, List.getElem?_cons_zero, List.getElem?_cons_succ, Option.some.injEq, V.int.injEq, V.ref.injEq, V.str.injEq, V.bl.injEq, exists_eq_left', exists_eq_left, exists_and_left, List.cons.injEq, and_true, true_and, decide_eq_true_eq, sc_ii, sc_ss, sc_bb, sc_ni, sc_in, sc_nn, sc_is, reduceCtorEq,
    Bool.not_eq_true', decide_eq_false_iff_not, if_true, if_false, Bool.false_eq_true, exists_eq', exists_const, false_and, and_false, or_false, false_or, exists_false, Bool.not_not, Bool.not_true, Bool.not_false, sUp_up, sFire_fire, sHigh_high, sPut_put, sZone_now, sBey_refuse, sBey_cut, tTup, tLst, sz0, sz1, sz2, sz3, sz4, sz5, sz6])
section
variable {K : Frag} {w : World}
/-- what place, fire_tick and lateness let out -/
def PlE (K : Frag) (x y : V) (bx bY : Bool) (W : List Lv) (B : Bk) (H : Hp) (E : XK) : Prop := ∀ c f v, plOut x y bx bY W B = some (c, f, v) → ∀ d, H d = none → E (.ref (ga K c)) (some d) (upd H d (.xd [(f, v)]))
def sp_fire_tickR (K : Frag) : Sp := fun vs H Q E => ∃ (a b : Addr) (x y : V) (dx dy : PyData) (W : List Lv) (B : Bk), vs = [.ref a, .ref b, x, y] ∧ WhAt K H a W ∧ BkAt K H b B ∧ Ov H x dx ∧ Ov H y dy ∧
  PlE K x y (intD dx) (intD dy) W B H E ∧ (plOut x y (intD dx) (intD dy) W B = none → ∀ H', Same H H' → Q (.int (fin W B (intOf x) (intOf y)).1) H')
theorem pl_ints {H : Hp} {x y : V} {dx dy : PyData} {W : List Lv} {B : Bk} (h : plOut x y (intD dx) (intD dy) W B = none) (hx : Ov H x dx) (hy : Ov H y dy) : ∃ s d : Int, x = .int s ∧ y = .int d ∧ 0 ≤ s ∧ 0 ≤ d ∧ (reach W ≤ d → B.bey ≠ 0) := by
  unfold plOut at h
  split at h
  · cases h
  · rename_i h1
    split at h
    · cases h
    · rename_i h2
      split at h
      · cases h
      · rename_i h3
        simp only [Bool.not_eq_true', Bool.not_eq_false] at h1 h2
        obtain ⟨e1, e2⟩ := Bool.and_eq_true_iff.mp h1
        obtain ⟨e3, e4⟩ := Bool.and_eq_true_iff.mp h2
        obtain ⟨s, rfl, rfl⟩ := hx.int e1
        obtain ⟨d, rfl, rfl⟩ := hy.int e3
        exact ⟨s, d, rfl, rfl, of_decide_eq_true e2, of_decide_eq_true e4, fun z e => h3 ⟨z, e⟩⟩
def t_fire_tickR (K : Frag) (w : World) (E : XK) : TS :=
  (tSeq (tAsg (tFn (sp_placeR K) E (tCons (tVar 0) (tCons (tVar 1) (tCons (tVar 2) (tCons (tVar 3) tNil))))) (gName 4))
  (tSeq (tIfS (tTest (tOp oIsN (tVar 4) (tC .non))) (tRet (tVar 2)) tNext)
  (tRet (tOp rIxTH (tFn (sp_followed K) E0 (tCons (tVar 0) (tCons (tVar 1) (tCons (tVar 4) (tCons (tVar 2) (tCons (tC .non) tNil)))))) (tC (.int 1))))))
def n_fire_tickR : List Str := ["wheel", "book", "start", "delay", "spot"]
theorem rd_fire_tickR (vs : List V) (H : Hp) (Q : VK) (E : XK) (h : sp_fire_tickR K vs H Q E) : t_fire_tickR K w E { nx := fun _ H' => Q .non H', rt := Q } (L2.start n_fire_tickR vs) H := by
  obtain ⟨a, b, x, y, dx, dy, W, B, rfl, hW, hB, hx, hy, hE, hQ⟩ := h
  unfold t_fire_tickR n_fire_tickR
  rw [seq1]
  refine ⟨_, rfl, _, rfl, _, rfl, _, rfl, a, b, x, y, dx, dy, W, B, rfl, hW, hB, hx, hy, hE, fun hno v H1 s1 ho => ?_⟩
  have q := hQ hno
  clear hE hQ
  obtain ⟨now, delay, rfl, rfl, hn, hd, hr⟩ := pl_ints hno hx hy
  have ho : OSp H1 v (placeM W B now delay) := ho
  have q : ∀ H', Same H H' → Q (.int (fin W B now delay).1) H' := q
  clear hno hx hy
  try dsimp only
  try rw [gName1]
  try dsimp only [List.set_cons_succ, List.set_cons_zero]
  cases hp : placeM W B now delay with
  | none =>
    rw [hp] at ho
    have ev : v = .non := ho
    subst ev
    rw [fin_none hp] at q
    walk_at "rst"
    try exact q H1 s1
  | some sp =>
    rw [hp] at ho
    obtain ⟨p, ev, hs⟩ := ho
    subst ev
    walk_at "rst"
    refine ⟨a, b, p, now, none, rfl, W, B, sp, hW.same s1, hB.same s1, hs, placeM_lt hW.ok hp, fun n r hf v f H2 s2 _ h2 => ?_⟩
    rw [fin_some hp hW.ok (placeM_lt hW.ok hp) hf] at q
    walk_at "rst"
    exact q H2 (s1.trans s2)
/-- the lateness -/
def lagM (W : List Lv) (B : Bk) (s d : Int) : Int := (fin W B s d).1 - s - (if d = 0 ∧ B.zone = true then 1 else d)
def sp_lateness (K : Frag) : Sp := fun vs H Q E => ∃ (a b : Addr) (x y : V) (dx dy : PyData) (W : List Lv) (B : Bk), vs = [.ref a, .ref b, x, y] ∧ WhAt K H a W ∧ BkAt K H b B ∧ Ov H x dx ∧ Ov H y dy ∧
  PlE K x y (intD dx) (intD dy) W B H E ∧ (plOut x y (intD dx) (intD dy) W B = none → ∀ H', Same H H' → Q (.int (lagM W B (intOf x) (intOf y))) H')
def t_lateness (K : Frag) (w : World) (E : XK) : TS :=
  (tSeq (tAsg (tFn (sp_fire_tickR K) E (tCons (tVar 0) (tCons (tVar 1) (tCons (tVar 2) (tCons (tVar 3) tNil))))) (gName 4))
  (tSeq (tIfS (tAnd (tTest (tOp rEq (tVar 3) (tC (.int 0)))) (tTest (tOp rEq (tFn (sp_Book_zero K) E0 (tCons (tVar 1) tNil)) (tC (.str "one"))))) (tRet (tOp oSub (tOp oSub (tVar 4) (tVar 2)) (tC (.int 1)))) tNext)
  (tRet (tOp oSub (tOp oSub (tVar 4) (tVar 2)) (tVar 3)))))
def n_lateness : List Str := ["wheel", "book", "start", "delay", "tick"]
theorem rd_lateness (vs : List V) (H : Hp) (Q : VK) (E : XK) (h : sp_lateness K vs H Q E) : t_lateness K w E { nx := fun _ H' => Q .non H', rt := Q } (L2.start n_lateness vs) H := by
  obtain ⟨a, b, x, y, dx, dy, W, B, rfl, hW, hB, hx, hy, hE, hQ⟩ := h
  unfold t_lateness n_lateness
  rw [seq1]
  refine ⟨_, rfl, _, rfl, _, rfl, _, rfl, a, b, x, y, dx, dy, W, B, rfl, hW, hB, hx, hy, hE, fun hno H1 s1 => ?_⟩
  have q := hQ hno
  clear hE hQ
  obtain ⟨now, delay, rfl, rfl, hn, hd, hr⟩ := pl_ints hno hx hy
  have q : Q (.int (lagM W B now delay)) H1 := q H1 s1
  have hin : intOf (.int now) = now := rfl
  have hid : intOf (.int delay) = delay := rfl
  rw [hin, hid]
  have eB := @bk_ex K H1 b B (hB.same s1)
  clear hno hx hy
  unfold lagM at q
  generalize (fin W B now delay).1 = f at *
  walk_at "rst"
  by_cases h0 : delay = 0
  · rw [if_pos h0]
    cases hz : B.zone with
    | false =>
      rw [if_neg (fun z => by rw [hz] at z; cases z.2)] at q
      rw [if_neg (show ¬ sZone false = Str.ofString "one" by decide +kernel)]
      exact q
    | true =>
      rw [if_pos ⟨h0, hz⟩] at q
      rw [if_pos (show sZone true = Str.ofString "one" by decide +kernel)]
      exact q
  · rw [if_neg h0]
    rw [if_neg (fun z => h0 z.1)] at q
    exact q
def sp__law_lag (K : Frag) : Sp := fun vs H Q _ => ∃ (r rv : Addr) (start delay : Int), vs = [.ref r, .ref rv, .int start, .int delay] ∧ ∃ W B, RowsAt H r W ∧ ROk W ∧ VlAt H rv B ∧ 0 ≤ delay ∧ (reach W ≤ delay → B.bey ≠ 0) ∧ ∀ H', Same H H' → Q (.int (lagM W B start delay)) H'
local macro_rules | `(tactic| walk_at "rwl") => `(tactic| simp only [*, at3_0, at3_1, at3_2, at2_0, at2_1, updS, upd_two, gSub, rSetL, updN, tPar, at6_0, at6_1, at6_2, at6_3, at6_4, at6_5, and_assoc, not_true_eq_false, not_false_eq_true, tNever, List.length_map, tFld, rIxTH, rIxLH, rLenTH, rLenLH, lk1, lfs_g, lfs_s, lfs_p, HO.ins.injEq, HO.tup.injEq, HO.lst.injEq, sp_Book_rounding, sp_Book_action, sp_Book_order, sp_Book_due, sp_Book_zero, sp_Book_beyond, Int.toNat_natCast, sp_visit_after, sp_is_visited, sp_Level_grain, sp_Level_slots, sp_Level_span, sp_Wheel_reach, sp_Wheel___len__, sp_is_integer, sp_is_count, sp_is_within, sp_rounded, tSeq, tAsg, gName, tVar, tC, tOp, rI, rI0, rU, tUn, oAdd, oSub, oMul, oDiv, oMod, oNeg, oLt, oLe, oGt, oGe, oIsN, oNotN, tFn, tCons, tNil, tIfS, tIf, tTest, tB, tNot, tAnd, tOr, tAndV, tOrV, tNotV,
    tRet, tRetN, tNext, tCB, tDrop, tChain, rEq, rNe, oMax2, oMin2, oInt1, rLenF, L2.start, List.map_cons, List.map_nil, List.length_cons, List.length_nil, List.replicate_succ, List.replicate_zero, List.cons_append, List.nil_append, Nat.reduceAdd, Nat.reduceSub, Nat.zero_add,
    List.set_cons_zero, List.set_cons_succ, List.getElem?_cons_zero, List.getElem?_cons_succ, Option.some.injEq, V.int.injEq, V.ref.injEq, V.str.injEq, V.bl.injEq, exists_eq_left', exists_eq_left, exists_and_left, List.cons.injEq, and_true, true_and, decide_eq_true_eq, sc_ii, sc_ss, sc_bb, sc_ni, sc_in, sc_nn, sc_is, reduceCtorEq,
    Bool.not_eq_true', decide_eq_false_iff_not, if_true, if_false, Bool.false_eq_true, exists_eq', exists_const, false_and, and_false, or_false, false_or, exists_false, Bool.not_not, Bool.not_true, Bool.not_false, sUp_up, sFire_fire, sHigh_high, sPut_put, sZone_now, sBey_refuse, sBey_cut, tTup, tLst, sz0, sz1, sz2, sz3, sz4, sz5, sz6])
def t__law_lag (K : Frag) (w : World) : TS :=
  (tRet (tOp oSub (tOp oSub (tFn (sp__law_fire K) E0 (tCons (tVar 0) (tCons (tVar 1) (tCons (tVar 2) (tCons (tVar 3) tNil))))) (tVar 2)) (tIf (tAnd (tTest (tOp rEq (tVar 3) (tC (.int 0)))) (tTest (tOp rEq (tOp rIxLH (tVar 1) (tC (.int 4))) (tC (.str "one"))))) (tC (.int 1)) (tVar 3))))
def n__law_lag : List Str := ["_law_rows", "_law_values", "_law_start", "_law_delay"]
theorem rd__law_lag (vs : List V) (H : Hp) (Q : VK) (E : XK) (h : sp__law_lag K vs H Q E) : t__law_lag K w { nx := fun _ H' => Q .non H', rt := Q } (L2.start n__law_lag vs) H := by
  obtain ⟨r, rv, start, delay, rfl, W, B, hR, hRk, hV, hd, hb, q⟩ := h
  unfold t__law_lag n__law_lag
  walk_at "rwl"
  refine ⟨r, rv, start, delay, rfl, W, B, hR, hRk, hV, hd, hb, fun H1 s1 => ?_⟩
  have q := q H1 s1
  have hV1 := (hV.same s1).six
  unfold lagM at q
  generalize (fin W B start delay).1 = f at *
  walk_at "rwl"
  by_cases h0 : delay = 0
  · rw [if_pos h0]
    cases hz : B.zone with
    | false =>
      rw [if_neg (fun z => by rw [hz] at z; cases z.2)] at q
      rw [if_neg (show ¬ sZone false = Str.ofString "one" by decide +kernel)]
      exact q
    | true =>
      rw [if_pos ⟨h0, hz⟩] at q
      rw [if_pos (show sZone true = Str.ofString "one" by decide +kernel)]
      exact q
  · rw [if_neg h0]
    rw [if_neg (fun z => h0 z.1)] at q
    exact q
end
end Tw
/-! Tw: passed, told of anything -/
namespace Tw
open PySem PySem.Spec PyProof.Rows L2 He TwM StX
open PySem.W (Frag)
local macro_rules | `(tactic| walk_at "rsl") => `(tactic| simp only [*, at3_0, at3_1, at3_2, at2_0, at2_1, updS, upd_two, gSub, rSetL, updN, tPar, tPar3, gTup, gCons, gNil, and_assoc, not_true_eq_false, not_false_eq_true, tNever, List.length_map, tFld, rIxTH, rIxLH, rLenTH, rLenLH, lk1, lfs_g, lfs_s, lfs_p, HO.ins.injEq, HO.tup.injEq, HO.lst.injEq, sp_Book_rounding, sp_Book_action, sp_Book_order, sp_Book_due, sp_Book_zero, sp_Book_beyond, Int.toNat_natCast, sp_visit_after, sp_is_visited, sp_Level_grain, sp_Level_slots, sp_Level_span, sp_Wheel_reach, sp_Wheel___len__, sp_is_integer, sp_is_count, sp_is_within, sp_rounded, tAsg, gName, tVar, tC, tOp, rI, rI0, rU, tUn, oAdd, oSub, oMul, oDiv, oMod, oNeg, oLt, oLe, oGt, oGe, oIsN, oNotN, tFn, tCons, tNil, tIfS, tIf, tTest, tB, tNot, tAnd, tOr, tAndV, tOrV, tNotV,
    tRet, tRetN, tNext, tCB, tDrop, tChain, rEq, rNe, oMax2, oMin2, oInt1, rLenF, L2.start, List.map_cons, List.map_nil, List.length_cons, List.length_nil, List.replicate_succ, List.replicate_zero, List.cons_append, List.nil_append, Nat.reduceAdd, Nat.reduceSub, Nat.zero_add,
    List.set_cons_zero, List.set_cons_succ, List.getElem?_cons_zero, List.getElem?_cons_succ, Option.some.injEq, V.int.injEq, V.ref.injEq, V.str.injEq, V.bl.injEq, exists_eq_left', exists_eq_left, exists_and_left, List.cons.injEq, and_true, true_and, decide_eq_true_eq, sc_ii, sc_ss, sc_bb, sc_ni, sc_in, sc_nn, sc_is, reduceCtorEq,
    Bool.not_eq_true', decide_eq_false_iff_not, if_true, if_false, Bool.false_eq_true, exists_eq', exists_const, false_and, and_false, or_false, false_or, exists_false, Bool.not_not, Bool.not_true, Bool.not_false, sUp_up, sFire_fire, sHigh_high, sPut_put, sZone_now, sBey_refuse, sBey_cut, tTup, tLst, sz0, sz1, sz2, sz3, sz4, sz5, sz6])
local macro_rules | `(tactic| walk_at "st") => `(tactic| ((try dsimp only); rw [seq1]; walk_at "rsl"))
section
variable {K : Frag} {w : World}
def isMd (m : V) : Bool := decide (m = .str "each" ∨ m = .str "last" ∨ m = .str "slots")
/-- what is refused, and how -/
def paOut (x y m : V) (bx bY : Bool) : Option (Str × V) :=
  if (!(bx && cntB x)) = true then some ("InvalidNumber", x) else if (!(bY && decide (intOf x < intOf y))) = true then some ("InvalidNumber", y) else if isMd m = true then none else some ("InvalidMode", m)
def sp_passedR (K : Frag) : Sp := fun vs H Q E => ∃ (a b p : Addr) (x y m : V) (dx dy dm : PyData), vs = [.ref a, .ref b, .ref p, x, y, m] ∧ Ov H x dx ∧ Ov H y dy ∧ Ov H m dm ∧
  (∀ c v, paOut x y m (intD dx) (intD dy) = some (c, v) → ∀ d, H d = none → E (.ref (ga K c)) (some d) (upd H d (.xd [("value", v)]))) ∧
  (paOut x y m (intD dx) (intD dy) = none → ∃ W B sp, WhAt K H a W ∧ BkAt K H b B ∧ SpAt H p sp ∧ sp.lv < W.length ∧ ∀ v H' mode, m = .str mode → Same H H' → OSp H' v (passM W B sp (intOf x) (intOf y) mode) → Q v H')
theorem inV_md (y : Str) : inV (.str y) [.str "each", .str "last", .str "slots"] = isMd (.str y) := by
  unfold isMd
  by_cases h1 : y = "each"
  · subst h1
    decide +kernel
  · by_cases h2 : y = "last"
    · subst h2
      decide +kernel
    · by_cases h3 : y = "slots"
      · subst h3
        decide +kernel
      · rw [decide_eq_false (fun z => z.elim (fun z => h1 (by injection z)) (fun z => z.elim (fun z => h2 (by injection z)) (fun z => h3 (by injection z))))]
        have e1 : ((("each" : Str)) == y) = false := beq_eq_false_iff_ne.mpr fun z => h1 z.symm
        have e2 : ((("last" : Str)) == y) = false := beq_eq_false_iff_ne.mpr fun z => h2 z.symm
        have e3 : ((("slots" : Str)) == y) = false := beq_eq_false_iff_ne.mpr fun z => h3 z.symm
        show ((("each" : Str) == y) || ((("last" : Str) == y) || ((("slots" : Str) == y) || false))) = false
        rw [e1, e2, e3]
        rfl
def t_passedR (K : Frag) (w : World) (E : XK) : TS :=
  (tSeq (tIfS (tNot (tB (tFn (sp_is_countA K) E0 (tCons (tVar 3) tNil)))) (tRz E (ga K "InvalidNumber") "value" (tVar 3)) tNext)
  (tSeq (tIfS (tOr (tNot (tB (tFn (sp_is_integerA K) E0 (tCons (tVar 4) tNil)))) (tTest (tOp oLe (tVar 4) (tVar 3)))) (tRz E (ga K "InvalidNumber") "value" (tVar 4)) tNext)
  (tSeq (tIfS (tOr (tNot (tB (tCB (rIsi K) (tCons (tVar 5) (tCons (tC (.ty "str")) tNil))))) (tTest (tOp (rIn K true) (tVar 5) (tC (.ref (ga K "MODES")))))) (tRz E (ga K "InvalidMode") "value" (tVar 5)) tNext)
  (tRet (tFn (sp_passed_lump K) E0 (tCons (tVar 0) (tCons (tVar 1) (tCons (tVar 2) (tCons (tVar 3) (tCons (tVar 4) (tCons (tVar 5) tNil)))))))))))
def n_passedR : List Str := ["wheel", "book", "spot", "before", "now", "mode"]
theorem rd_passedR (T : Kg K) (vs : List V) (H : Hp) (Q : VK) (E : XK) (h : sp_passedR K vs H Q E) : t_passedR K w E { nx := fun _ H' => Q .non H', rt := Q } (L2.start n_passedR vs) H := by
  obtain ⟨a, b, p, x, y, m, dx, dy, dm, rfl, hx, hy, hm, hE, hQ⟩ := h
  unfold paOut at hE hQ
  unfold t_passedR n_passedR
  refine ⟨_, rfl, x, _, rfl, hx.isI, fun z => (hx.int z).imp fun _ q => q.1, _, rfl, ?_⟩
  cases h1 : (intD dx && cntB x) with
  | false =>
    rw [h1] at hE
    exact ⟨_, rfl, fun d hd => hE _ x rfl d hd⟩
  | true =>
  rw [h1] at hE hQ
  rw [if_neg (by decide)] at hE hQ
  obtain ⟨xi, rfl, rfl⟩ := hx.int (Bool.and_eq_true_iff.mp h1).1
  rw [if_neg (by decide)]
  refine ⟨_, rfl, y, _, rfl, hy.isI, _, rfl, ?_⟩
  cases hb : intD dy with
  | false =>
    rw [hb] at hE
    exact ⟨_, rfl, fun d hd => hE _ y rfl d hd⟩
  | true =>
  obtain ⟨yi, rfl, rfl⟩ := hy.int hb
  rw [hb] at hE hQ
  walk_at "rsl"
  have e0 : (true && decide (intOf (.int xi) < intOf (.int yi))) = decide (xi < yi) := rfl
  rw [e0] at hE hQ
  by_cases hlt : xi < yi
  · rw [if_neg (by omega)]
    rw [decide_eq_true hlt, if_neg (by decide)] at hE hQ
    rw [seq1]
    walk_at "rsl"
    rcases hm.ns with ⟨hn, hr⟩ | ⟨ms, rfl⟩
    · have hmd : isMd m = false := decide_eq_false fun z => z.elim (hr _) fun z => z.elim (hr _) (hr _)
      rw [hmd, if_neg (by decide)] at hE
      refine hn H _ (Same.refl _) ⟨false, rfl, ?_⟩
      rw [if_pos (by decide)]
      exact ⟨_, rfl, fun d hd => hE _ m rfl d hd⟩
    · refine isi_base (.base (.str ms)) (b := true) (by decide +kernel) ⟨_, rfl, ?_⟩
      rw [if_neg Bool.noConfusion]
      refine ⟨_, _, rfl, .inr (T.md _), rfl, by decide +kernel, _, rfl, ?_⟩
      rw [inV_md]
      cases hmd : isMd (.str ms) with
      | false =>
        rw [hmd, if_neg (by decide)] at hE
        exact ⟨_, rfl, fun d hd => hE _ _ rfl d hd⟩
      | true =>
        rw [hmd, if_pos rfl] at hQ
        obtain ⟨W, B, sp, hW, hB, hS, hl, q⟩ := hQ rfl
        exact ⟨a, b, p, xi, yi, ms, rfl, W, B, sp, hW, hB, hS, hl, fun v H' s o => q v H' ms rfl s o⟩
  · rw [if_pos (by omega)]
    rw [decide_eq_false hlt, if_pos (by decide)] at hE
    exact ⟨_, rfl, fun d hd => hE _ _ rfl d hd⟩
end
end Tw
/-! Tw: rings, in plain Lean -/
namespace Tw
open TwM
theorem php : ∀ (g : Nat) (l : List Nat), l.Nodup → (∀ x ∈ l, x < g) → l.length ≤ g
  | 0, l, _, h => by
    cases l with
    | nil => exact Nat.le_refl _
    | cons x l => exact absurd (h x List.mem_cons_self) (Nat.not_lt_zero _)
  | g + 1, l, hn, h => by
    have h1 := php g (l.erase g) (hn.erase g) fun x hx => by
      have h2 := (hn.mem_erase_iff).mp hx
      have := h x h2.2
      have : x ≠ g := h2.1
      omega
    rw [List.length_erase] at h1
    split at h1 <;> omega
/-- n values below g, all unlike -/
theorem php_fn {f : Nat → Int} {g : Int} {n : Nat} (hg : 0 ≤ g) (hr : ∀ i, i < n → 0 ≤ f i ∧ f i < g) (hd : ∀ i j, i < j → j < n → f i ≠ f j) : (n : Int) ≤ g := by
  have hn : ((List.range n).map fun i => (f i).toNat).Nodup := by
    rw [List.Nodup, List.pairwise_map]
    refine (List.pairwise_lt_range (n := n)).imp_of_mem fun {a b} ha hb hlt => ?_
    have h1 := hr a (List.mem_range.mp ha)
    have h2 := hr b (List.mem_range.mp hb)
    have := hd a b hlt (List.mem_range.mp hb)
    omega
  have := php g.toNat _ hn fun x hx => by
    obtain ⟨i, hi, rfl⟩ := List.mem_map.mp hx
    have := hr i (List.mem_range.mp hi)
    omega
  rw [List.length_map, List.length_range] at this
  rcases Nat.eq_zero_or_pos n with z | z
  · subst z
    exact hg
  · have := hr 0 z
    omega
section
variable {W : List Lv} {B : Bk}
/-- the firings of a timer that is set anew -/
def tkR (W : List Lv) (B : Bk) (d start : Int) : Nat → Int
  | 0 => start
  | n + 1 => (fin W B (tkR W B d start n) d).1
/-- lead, length and ticks of a ring -/
structure RingIs (W : List Lv) (B : Bk) (d g start : Int) (N lead : Nat) : Prop where
  dif : ∀ i j, i < j → j < N → tkR W B d start i % g ≠ tkR W B d start j % g
  lt : lead < N
  eq : tkR W B d start lead % g = tkR W B d start N % g
theorem RingIs.uniq {d g start : Int} {N N' lead lead' : Nat} (h : RingIs W B d g start N lead) (h' : RingIs W B d g start N' lead') : N = N' ∧ lead = lead' := by
  have hN : N = N' := by
    rcases Nat.lt_trichotomy N N' with z | z | z
    · exact absurd h.eq (h'.dif lead N h.lt z)
    · exact z
    · exact absurd h'.eq (h.dif lead' N' h'.lt z)
  subst hN
  refine ⟨rfl, ?_⟩
  rcases Nat.lt_trichotomy lead lead' with z | z | z
  · exact absurd (h.eq.trans h'.eq.symm) (h.dif lead lead' z h'.lt)
  · exact z
  · exact absurd (h'.eq.trans h.eq.symm) (h.dif lead' lead z h.lt)
/-- a whole number of grains later -/
theorem tkR_later (ok : WOk W) (hb3 : B.bey < 3) {d : Int} (hd : 1 ≤ d) (hb : reach W ≤ d → B.bey ≠ 0) (start m : Int) : ∀ n, tkR W B d (start + (lv W (TwM.levelIx W d)).g * m) n = tkR W B d start n + (lv W (TwM.levelIx W d)).g * m
  | 0 => rfl
  | n + 1 => by
    show (fin W B (tkR W B d (start + (lv W (TwM.levelIx W d)).g * m) n) d).1 = _
    rw [tkR_later ok hb3 hd hb start m n]
    obtain ⟨_, _, _, _, _, _, _, h, _⟩ := later (B := B) ok hb3 hd hb (tkR W B d start n) m
    exact h
theorem RingIs.later (ok : WOk W) (hb3 : B.bey < 3) {d : Int} (hd : 1 ≤ d) (hb : reach W ≤ d → B.bey ≠ 0) {start : Int} (m : Int) {N lead : Nat} (h : RingIs W B d (lv W (TwM.levelIx W d)).g start N lead) : RingIs W B d (lv W (TwM.levelIx W d)).g (start + (lv W (TwM.levelIx W d)).g * m) N lead := by
  have e : ∀ n, tkR W B d (start + (lv W (TwM.levelIx W d)).g * m) n % (lv W (TwM.levelIx W d)).g = tkR W B d start n % (lv W (TwM.levelIx W d)).g := fun n => by
    rw [tkR_later ok hb3 hd hb, Int.add_mul_emod_self_left]
  refine ⟨fun i j a b => ?_, h.lt, ?_⟩
  · rw [e, e]; exact h.dif i j a b
  · rw [e, e]; exact h.eq
end
end Tw
/-! Tw: how late a timer fires at most -/
namespace Tw
open TwM
/-- fired not much later than due -/
theorem wl_late {W : List Lv} {B : Bk} (ok : WOk W) {M : Int} (hM : ∀ i, i < W.length → (lv W i).s * (lv W i).g ≤ M) : ∀ (n : Nat) {sp : Spot} {a mv : Int} {r : Res}, sp.lv < W.length → wl W B none n sp a mv = some r → r.2.1 ≤ (if sp.lv = 0 then a + M else (if a < sp.due then sp.due else a) + 2 * M)
  | 0, _, _, _, _, _, h => by cases h
  | n + 1, sp, a, mv, r, hl, h => by
    have hall := ok.all _ hl
    have hgt := va_step ok hl sp.pt a
    have hmost := va_most (l := lv W sp.lv) (by omega) (by omega) sp.pt a
    have hm := hM _ hl
    unfold wl at h
    dsimp only at h
    rw [show over none (va (lv W sp.lv) sp.pt a) = false from rfl, if_neg Bool.false_ne_true] at h
    split at h
    · cases h
    · cases h
      dsimp only
      split
      · omega
      · split <;> omega
    · rename_i sp' hq
      obtain ⟨c1, c2, c3, c4⟩ := visGo_last ok _ hq
      have h0 : sp.lv ≠ 0 := fun e => by
        have := visGo_zero (W := W) (B := B) (before := va (lv W sp.lv) sp.pt a - 1) (now := va (lv W sp.lv) sp.pt a) (order W B) e (some sp') (List.mem_of_getLast? hq)
        cases this
      have ih := wl_late ok hM n c1 h
      rw [if_neg h0]
      rcases c4 with ⟨d1, d2⟩ | ⟨d1, d2⟩
      · rw [c2, if_pos d1] at ih
        split at ih <;> split <;> omega
      · have hz : sp'.lv = 0 := by rw [d2]
        rw [if_pos hz] at ih
        split <;> omega
theorem g_dvd {W : List Lv} (ok : WOk W) : ∀ (n : Nat) {i : Nat}, i + n < W.length → (lv W i).g ∣ (lv W (i + n)).g
  | 0, i, _ => Int.dvd_refl _
  | n + 1, i, h => Int.dvd_trans (g_dvd ok n (by omega)) (ok.dv (i + n) (by omega))
theorem placeM_bound {W : List Lv} {B : Bk} (ok : WOk W) {start delay N : Int} {sp : Spot} (h0 : 0 ≤ start) (hd : 0 ≤ delay) (hN : start + delay + reach W + 1 ≤ N) (h : placeM W B start delay = some sp) : SpB N sp ∧ sp.due ≤ start + delay + 1 := by
  have hre : 2 ≤ reach W := (ok.all (W.length - 1) (by have := ok.pos; omega)).2.2.2.2
  unfold placeM at h
  split at h
  · cases h
  · obtain rfl := Option.some.inj h
    rw [spotAt_due]
    generalize hr : (if reach W ≤ (if 1 > delay then 1 else delay) ∧ B.bey = 2 then reach W - 1 else if 1 > delay then 1 else delay) = rr
    have h1 : 1 ≤ rr ∧ rr ≤ delay + 1 := by
      rw [← hr]
      repeat' split
      all_goals omega
    have := spotAt_bound (B := B) ok (now := start) (due := start + rr) (N := N) h0 (by omega) (by omega) (by omega)
    rw [show start + rr - start = rr by omega] at this
    exact ⟨this, by omega⟩
theorem fin_ge {W : List Lv} {B : Bk} (ok : WOk W) {d : Int} (hd : 0 ≤ d) (start : Int) : start ≤ (fin W B start d).1 := by
  cases hpl : placeM W B start d with
  | none => rw [fin_none hpl]; exact Int.le_refl _
  | some sp =>
    have hl := placeM_lt ok hpl
    rw [← wfin_fin ok B hd]
    obtain ⟨rr, hrr'⟩ := wl_ends ok B none (mu sp start) sp start 0 hl (Nat.le_refl _)
    have hgt := (aft_fire ok (b := start) hl (Int.le_refl _) hrr').2.2
    have hw : wfin W B start d = rr.2 := by unfold wfin; rw [hpl]; dsimp only; rw [hrr']
    rw [hw]
    omega
theorem fin_late {W : List Lv} {B : Bk} (ok : WOk W) {M : Int} (hM : ∀ i, i < W.length → (lv W i).s * (lv W i).g ≤ M) {d start : Int} (h0 : 0 ≤ start) (hd : 0 ≤ d) (hM0 : 0 ≤ M) : (fin W B start d).1 ≤ start + d + 1 + 2 * M := by
  cases hpl : placeM W B start d with
  | none => rw [fin_none hpl]; show start ≤ _; omega
  | some sp =>
    have hl := placeM_lt ok hpl
    have hdu := (placeM_bound ok h0 hd (Int.le_refl _) hpl).2
    rw [← wfin_fin ok B hd]
    obtain ⟨rr, hrr'⟩ := wl_ends ok B none (mu sp start) sp start 0 hl (Nat.le_refl _)
    have hlate := wl_late ok hM _ hl hrr'
    have hw : wfin W B start d = rr.2 := by unfold wfin; rw [hpl]; dsimp only; rw [hrr']
    rw [hw]
    split at hlate
    · omega
    · split at hlate <;> omega
theorem tkR_ge {W : List Lv} {B : Bk} (ok : WOk W) {d start : Int} (hd : 0 ≤ d) (h0 : 0 ≤ start) : ∀ n, 0 ≤ tkR W B d start n
  | 0 => h0
  | n + 1 => Int.le_trans (tkR_ge ok hd h0 n) (fin_ge ok hd _)
theorem tkR_mono {W : List Lv} {B : Bk} (ok : WOk W) {d start : Int} (hd : 0 ≤ d) (n : Nat) : ∀ k, tkR W B d start n ≤ tkR W B d start (n + k)
  | 0 => Int.le_refl _
  | k + 1 => Int.le_trans (tkR_mono ok hd n k) (fin_ge ok hd _)
theorem tkR_late {W : List Lv} {B : Bk} (ok : WOk W) {M : Int} (hM : ∀ i, i < W.length → (lv W i).s * (lv W i).g ≤ M) {d start : Int} (h0 : 0 ≤ start) (hd : 0 ≤ d) (hM0 : 0 ≤ M) (n : Nat) : ∀ k : Nat, tkR W B d start (n + k) ≤ tkR W B d start n + k * (d + 1 + 2 * M)
  | 0 => by simp
  | k + 1 => by
    have ih := tkR_late (B := B) ok hM h0 hd hM0 n k
    have h1 := fin_late (B := B) ok hM (start := tkR W B d start (n + k)) (tkR_ge ok hd h0 _) hd hM0
    show (fin W B (tkR W B d start (n + k)) d).1 ≤ _
    rw [show ((k + 1 : Nat) : Int) = (k : Int) + 1 by omega, Int.add_mul]
    omega
end Tw
/-! Tw: beats of lumps of one length, all modes -/
namespace Tw
open PySem PySem.Spec PyProof.Rows L2 He TwM StX
open PySem.W (Frag)
local macro_rules | `(tactic| walk_at "rsj") => `(tactic| simp only [*, at3_0, at3_1, at3_2, at2_0, at2_1, updS, upd_two, gSub, rSetL, updN, and_assoc, not_true_eq_false, not_false_eq_true, tNever, List.length_map, tFld, rIxTH, rIxLH, rLenTH, rLenLH, lk1, lfs_g, lfs_s, lfs_p, HO.ins.injEq, HO.tup.injEq, HO.lst.injEq, sp_Book_rounding, sp_Book_action, sp_Book_order, sp_Book_due, sp_Book_zero, sp_Book_beyond, Int.toNat_natCast, sp_visit_after, sp_is_visited, sp_Level_grain, sp_Level_slots, sp_Level_span, sp_Wheel_reach, sp_Wheel___len__, sp_is_integer, sp_is_count, sp_is_within, sp_rounded, tSeq, tAsg, gName, tVar, tC, tOp, rI, rI0, rU, tUn, oAdd, oSub, oMul, oDiv, oMod, oNeg, oLt, oLe, oGt, oGe, oIsN, oNotN, tFn, tCons, tNil, tIfS, tIf, tTest, tB, tNot, tAnd, tOr, tAndV, tOrV, tNotV,
    tRet, tRetN, tNext, tCB, tDrop, tChain, rEq, rNe, oMax2, oMin2, oInt1, rLenF, L2.start, List.map_cons, List.map_nil, List.length_cons, List.length_nil, List.replicate_succ, List.replicate_zero, List.cons_append, List.nil_append, Nat.reduceAdd, Nat.reduceSub, Nat.zero_add,
    List.set_cons_zero, List.set_cons_succ, List.getElem?_cons_zero, List.getElem?_cons_succ, Option.some.injEq, V.int.injEq, V.ref.injEq, V.str.injEq, V.bl.injEq, exists_eq_left', exists_eq_left, exists_and_left, List.cons.injEq, and_true, true_and, decide_eq_true_eq, sc_ii, sc_ss, sc_bb, sc_ni, sc_in, sc_nn, sc_is, reduceCtorEq,
    Bool.not_eq_true', decide_eq_false_iff_not, if_true, if_false, Bool.false_eq_true, exists_eq', exists_const, false_and, and_false, or_false, false_or, exists_false, Bool.not_not, Bool.not_true, Bool.not_false, sUp_up, sFire_fire, sHigh_high, sPut_put, sZone_now, sBey_refuse, sBey_cut, tTup, tLst, sz0, sz1, sz2, sz3, sz4, sz5, sz6])
section
variable {K : Frag} {w : World}
def endOf (start len t : Int) : Int := start - (start - t) / len * len
theorem endOf_is {s len t : Int} (hl : 1 ≤ len) : t ≤ endOf s len t ∧ endOf s len t < t + len ∧ endOf s len t = s + (-((s - t) / len)) * len := by
  unfold endOf
  have h1 := Int.ediv_mul_le (s - t) (b := len) (by omega)
  have h2 := Int.lt_ediv_add_one_mul_self (s - t) (b := len) (by omega)
  rw [Int.add_mul, Int.one_mul] at h2
  rw [Int.neg_mul]
  omega
def nxL (mode : Str) (start len : Int) : Lv → Int → Int → Option Int → Prop := fun l pt tick o =>
  if mode = "last" then ∃ k, FH tick len (pt * l.g) (l.g * l.s) k ∧ o = k.map fun k => tick + k * len else o = some (endOf start len (va l pt tick))
def bfL (mode : Str) (len t : Int) : Int := if mode = "last" then t - 1 else t - len
theorem nx_step {W : List Lv} (ok : WOk W) {i : Nat} (hi : i < W.length) {mode : Str} {now len pt tick j t : Int} (hl : 1 ≤ len) (hj : now + j * len = tick) (h : nxL mode now len (lv W i) pt tick (some t)) :
    ∃ j', t = now + j' * len ∧ j < j' ∧ j' ≤ j + 100001 ∧ isVis (lv W i) pt (bfL mode len t) t = true := by
  have hall := ok.all _ hi
  have hgs : (lv W i).g * (lv W i).s ≤ 1000 * 100 := Int.mul_le_mul (by omega) (by omega) (by omega) (by omega)
  have hgs0 : 1 * 2 ≤ (lv W i).g * (lv W i).s := Int.mul_le_mul (by omega) (by omega) (by omega) (by omega)
  unfold nxL at h
  unfold bfL
  by_cases hm : mode = "last"
  · rw [if_pos hm] at h ⊢
    obtain ⟨k, hk, e⟩ := h
    cases k with
    | none => cases e
    | some k =>
      obtain rfl : t = tick + k * len := Option.some.inj e
      obtain ⟨g, hg, k1, k2, k3⟩ := hk
      have k4 : (lv W i).g * (lv W i).s / g ≤ (lv W i).g * (lv W i).s := Int.ediv_le_self _ (by omega)
      refine ⟨j + k, by rw [← hj, Int.add_mul]; omega, by omega, by omega, ?_⟩
      exact isVis_in (by omega) (by omega) k3 (by omega) (Int.le_refl _)
  · rw [if_neg hm] at h ⊢
    obtain rfl := Option.some.inj h
    have hv := va_step ok hi pt tick
    obtain ⟨e1, e2, e3⟩ := endOf_is (s := now) (t := va (lv W i) pt tick) hl
    refine ⟨_, e3, ?_, ?_, isVis_in (by omega) (by omega) (va_dvd (by omega) pt tick) (by omega) e1⟩
    · generalize -((now - va (lv W i) pt tick) / len) = j' at e3 ⊢
      have : j * len < j' * len := by omega
      exact Int.lt_of_mul_lt_mul_right this (by omega)
    · generalize -((now - va (lv W i) pt tick) / len) = j' at e3 ⊢
      have h1 : 100000 * 1 ≤ 100000 * len := Int.mul_le_mul_of_nonneg_left hl (by omega)
      have h2 : j' * len < (j + 100001) * len := by rw [Int.add_mul]; omega
      have := Int.lt_of_mul_lt_mul_right h2 (by omega)
      omega
theorem beat_vis {W : List Lv} {B : Bk} (ok : WOk W) {sp : Spot} (hl : sp.lv < W.length) {bf t : Int} (hv : isVis (lv W sp.lv) sp.pt bf t = true) : ∃ o, (visited W B sp bf t).getLast? = some o := by
  cases e : (visited W B sp bf t).getLast? with
  | some o => exact ⟨o, rfl⟩
  | none => exact absurd (List.getLast?_eq_none_iff.mp e) (visGo_ne _ (mem_order.mpr hl) hv)
def sp_beat_tick (K : Frag) : Sp := fun vs H Q _ => ∃ (a b : Addr) (now delay len : Int) (mode : Str), vs = [.ref a, .ref b, .int now, .int delay, .int len, .str mode] ∧ ∃ W B, WhAt K H a W ∧ BkAt K H b B ∧ 0 ≤ now ∧ 0 ≤ delay ∧ delay < reach W ∧ reach W ≤ 1073741824 ∧ 1 ≤ len ∧ len < 2 ^ 200 ∧
  (mode = "each" ∨ mode = "last" ∨ mode = "slots") ∧ (placeM W B now delay = none → ∀ H', Same H H' → Q (.int now) H') ∧
  ∀ sp, placeM W B now delay = some sp → (mode = "each" → ∀ H', Same H H' → Q (.int (endOf now len (fin W B now delay).1)) H') ∧ (mode ≠ "each" → ∀ o H', Same H H' → Beats W B (nxL mode now len) (bfL mode len) sp now o → Q (optV o) H')
def btInv (a b : Addr) (now delay len : Int) (mode : Str) (W : List Lv) (B : Bk) (H : Hp) (Q : VK) (m : Nat) (σ : L2.St) (H' : Hp) : Prop :=
  (∃ (p : Addr) (sp : Spot) (tick j : Int) (v8 : Option V), m = mu sp tick + 1 ∧ σ = [some (.ref a), some (.ref b), some (.int now), some (.int delay), some (.int len), some (.str mode), some (.ref p), some (.int tick), v8] ∧ Same H H' ∧ SpAt H' p sp ∧ sp.lv < W.length ∧ now + j * len = tick ∧ 0 ≤ j ∧
    j + 100001 * (mu sp tick : Int) ≤ 1000000000000000 ∧ ∀ o H'', Same H H'' → Beats W B (nxL mode now len) (bfL mode len) sp tick o → Q (optV o) H'') ∨
  (∃ (t : Int) (v8 : Option V), m = 0 ∧ σ = [some (.ref a), some (.ref b), some (.int now), some (.int delay), some (.int len), some (.str mode), some .non, some (.int t), v8] ∧ Same H H' ∧ ∀ H'', Same H H'' → Q (.int t) H'')
theorem bt_tail {a b p : Addr} {now delay len tick j t : Int} {mode : Str} {W : List Lv} {B : Bk} {H H4 : Hp} {Q : VK} {sp : Spot} (hW : WhAt K H a W) (hB : BkAt K H b B) (hl : 1 ≤ len) (hj : now + j * len = tick) (hj0 : 0 ≤ j) (hjm : j + 100001 * (mu sp tick : Int) ≤ 1000000000000000)
    (hx : nxL mode now len (lv W sp.lv) sp.pt tick (some t)) (s4 : Same H H4) (hp : SpAt H4 p sp) (hlv : sp.lv < W.length) (hq : ∀ o H'', Same H H'' → Beats W B (nxL mode now len) (bfL mode len) sp tick o → Q (optV o) H'') :
    sp_visited K [.ref a, .ref b, .ref p, .int (bfL mode len t), .int t] H4 (fun x H5 => ∃ f, x = .ref f ∧ ∃ xs, H5 f = some (.lst xs) ∧ ∃ v, atI xs (-1) = some v ∧
      (∃ m', m' < mu sp tick + 1 ∧ btInv a b now delay len mode W B H Q m' [some (.ref a), some (.ref b), some (.int now), some (.int delay), some (.int len), some (.str mode), some v, some (.int t), some (.int (bfL mode len t))] H5)) E0 := by
  have ok := hW.ok
  obtain ⟨j', e, j1, j2, hv⟩ := nx_step ok hlv hl hj hx
  refine ⟨a, b, p, _, _, rfl, W, B, sp, hW.same s4, hB.same s4, hp, fun f xs H5 s5 hfn hf hos => ⟨f, rfl, xs, hf, ?_⟩⟩
  obtain ⟨o, ho⟩ := beat_vis (B := B) ok hlv hv
  obtain ⟨v, hv1, hov⟩ := hos.last ho
  refine ⟨v, atI_m1 hv1, ?_⟩
  have ht : tick < t := by
    have : j * len < j' * len := Int.mul_lt_mul_of_pos_right j1 (by omega)
    omega
  have hmu : 1 ≤ mu sp tick := by unfold mu; split <;> omega
  cases o with
  | none =>
    obtain rfl : v = .non := hov
    exact ⟨0, by omega, .inr ⟨t, _, rfl, rfl, s4.trans s5, fun H'' s'' => hq (some t) H'' s'' (.fired hx ho)⟩⟩
  | some sp' =>
    obtain ⟨p', rfl, hp'⟩ := hov
    obtain ⟨m1, m2, m3⟩ := mu_step ok ht ho
    refine ⟨mu sp' t + 1, by omega, .inl ⟨p', sp', t, j', _, rfl, rfl, s4.trans s5, hp', m2, e.symm, by omega, by omega, fun o H'' s'' hb => hq o H'' s'' (.on hx ho hb)⟩⟩
theorem fin_bound {W : List Lv} {B : Bk} (ok : WOk W) {now delay : Int} {sp : Spot} (hp : placeM W B now delay = some sp) (hd : 0 ≤ delay) (hr : delay < reach W) : now < (fin W B now delay).1 ∧ (fin W B now delay).1 ≤ now + 100000 * (reach W + 2) ∧ Walks W B sp now (fin W B now delay).1 := by
  have hlt := placeM_lt ok hp
  have hre : 2 ≤ reach W := (ok.all (W.length - 1) (by have := ok.pos; omega)).2.2.2.2
  obtain ⟨r, hr'⟩ := fol_ends ok B none (mu sp now) sp now 0 hlt (Nat.le_refl _)
  have hd' : now + 1 ≤ sp.due ∧ sp.due ≤ now + reach W := by
    unfold placeM at hp
    split at hp
    · cases hp
    · obtain rfl := Option.some.inj hp
      rw [spotAt_due]
      repeat' split
      all_goals omega
  have hw := fol_walks ok _ hr' (by omega) hlt
  rw [fin_some hp ok hlt hr']
  have hb := hw.bound ok hlt
  have hm : mu sp now ≤ 2 + (sp.due - now).toNat := by unfold mu; split <;> omega
  exact ⟨hb.1, by omega, hw⟩
def t_beat_tick (K : Frag) (w : World) : TS :=
  (tSeq (tAsg (tFn (sp_place K) E0 (tCons (tVar 0) (tCons (tVar 1) (tCons (tVar 2) (tCons (tVar 3) tNil))))) (gName 6))
  (tSeq (tIfS (tTest (tOp oIsN (tMethR (ga K "Wheel") "level_of" (sp_Wheel_level_of K) E0 (tVar 0) (tCons (tVar 3) tNil)) (tC .non))) tNever tNext)
  (tSeq (tIfS (tNot (tB (tFn (sp_is_positive K) E0 (tCons (tVar 4) tNil)))) tNever tNext)
  (tSeq (tIfS (tOr (tNot (tB (tCB (rIsi K) (tCons (tVar 5) (tCons (tC (.ty "str")) tNil))))) (tTest (tOp (rIn K true) (tVar 5) (tC (.ref (ga K "MODES")))))) tNever tNext)
  (tSeq (tIfS (tTest (tOp oIsN (tVar 6) (tC .non))) (tRet (tVar 2)) tNext)
  (tSeq (tIfS (tTest (tOp rEq (tVar 5) (tC (.str "each")))) (tRet (tFn (sp_end_of K) E0 (tCons (tVar 2) (tCons (tVar 4) (tCons (tFn (sp_fire_tick K) E0 (tCons (tVar 0) (tCons (tVar 1) (tCons (tVar 2) (tCons (tVar 3) tNil))))) tNil))))) tNext)
  (tSeq (tAsg (tVar 2) (gName 7))
  (tSeq (tWhile (tTest (tOp oNotN (tVar 6) (tC .non)))
    (tSeq (tAsg (tFn (sp_next_end K) E0 (tCons (tFn (sp_Wheel___getitem__ K) E0 (tCons (tVar 0) (tCons (tOp rIxTH (tVar 6) (tC (.int 0))) tNil))) (tCons (tOp rIxTH (tVar 6) (tC (.int 1))) (tCons (tVar 7) (tCons (tVar 2) (tCons (tVar 4) (tCons (tVar 5) tNil))))))) (gName 7))
  (tSeq (tIfS (tTest (tOp oIsN (tVar 7) (tC .non))) (tRet (tC .non)) tNext)
  (tSeq (tAsg (tIf (tTest (tOp rEq (tVar 5) (tC (.str "last")))) (tOp oSub (tVar 7) (tC (.int 1))) (tOp oSub (tVar 7) (tVar 4))) (gName 8))
  (tAsg (tOp rIxLH (tFn (sp_visited K) E0 (tCons (tVar 0) (tCons (tVar 1) (tCons (tVar 6) (tCons (tVar 8) (tCons (tVar 7) tNil)))))) (tUn oNeg (tC (.int 1)))) (gName 6))))))
  (tRet (tVar 7))))))))))
def n_beat_tick : List Str := ["wheel", "book", "start", "delay", "length", "mode", "spot", "tick", "before"]
theorem rd_beat_tick (T : Kg K) (vs : List V) (H : Hp) (Q : VK) (E : XK) (h : sp_beat_tick K vs H Q E) : t_beat_tick K w { nx := fun _ H' => Q .non H', rt := Q } (L2.start n_beat_tick vs) H := by
  obtain ⟨a, b, now, delay, len, mode, rfl, W, B, hW, hB, hn, hd, hr, hr2, hl, hl2, hm, qn, qs⟩ := h
  have hpos := hW.ok.pos
  have hk := levelIx_lt hW.ok delay
  have hlo : ∃ i, levelOf W delay = some i := by
    cases e : levelOf W delay with
    | some i => exact ⟨i, rfl⟩
    | none => have := levelOf_none e (W.length - 1) (by omega); unfold reach at hr; omega
  obtain ⟨i, hi⟩ := hlo
  have hin : (if true = true then !inV (.str mode) [.str "each", .str "last", .str "slots"] else inV (.str mode) [.str "each", .str "last", .str "slots"]) = false := by
    rcases hm with rfl | rfl | rfl <;> decide +kernel
  unfold t_beat_tick n_beat_tick
  walk_at "rsj"
  refine ⟨a, b, now, delay, rfl, W, B, hW, hB, hn, by omega, fun z => by omega, fun v H1 s1 ho => ?_⟩
  have hW1 := hW.same s1
  obtain ⟨ok1, dx, t, as, h1, h2, h3, h4⟩ := id hW1
  refine ⟨_, rfl, a, dx, _, rfl, h1, rfl, _, rfl, a, delay, rfl, W, hW1, by omega, fun H2 s2 => ?_⟩
  rw [hi]
  dsimp only
  rw [if_neg (by unfold optI; intro z; cases z)]
  refine ⟨len, rfl, _, rfl, ?_⟩
  rw [if_neg (by rw [decide_eq_true hl]; exact Bool.noConfusion)]
  refine isi_base (.base (.str mode)) (b := true) (by decide +kernel) ⟨_, rfl, ?_⟩
  rw [if_neg Bool.noConfusion]
  refine ⟨_, _, rfl, .inr (T.md _), rfl, by decide +kernel, _, rfl, ?_⟩
  rw [hin, if_neg Bool.false_ne_true]
  have s12 := s1.trans s2
  cases hp : placeM W B now delay with
  | none =>
    rw [hp] at ho
    obtain rfl : v = .non := ho
    rw [if_pos rfl]
    exact qn hp _ s12
  | some sp =>
    rw [hp] at ho
    obtain ⟨p, rfl, hsp⟩ := ho
    have hlv := placeM_lt hW.ok hp
    obtain ⟨f1, f2, f3⟩ := fin_bound hW.ok hp hd hr
    obtain ⟨q1, q2⟩ := qs sp hp
    rw [if_neg (by intro z; cases z)]
    by_cases he : mode = "each"
    · rw [if_pos he]
      refine ⟨a, b, now, delay, rfl, W, B, hW.same s12, hB.same s12, hn, hd, fun z => by omega, fun H3 s3 => ⟨now, len, _, rfl, ?_, ?_, q1 he H3 (s12.trans s3)⟩⟩
      · exact ⟨by omega, Nat.lt_of_lt_of_le (PySem.Flt.log2_lt_of (k := 200) (by decide) (by omega)) (by decide)⟩
      · have g1 := Int.ediv_le_self (b := len) (a := (fin W B now delay).1 - now) (by omega)
        obtain ⟨e1, e2, e3⟩ := endOf_is (s := now) (t := (fin W B now delay).1) hl
        generalize (fin W B now delay).1 = T at *
        refine .inl ⟨?_, ?_⟩
        · have g2 : (now - T) * len ≤ (now - T) * 1 := Int.mul_le_mul_of_nonpos_left (by omega) hl
          have g3 : now - T ≤ (now - T) / len := Int.le_ediv_of_mul_le (by omega) (by omega)
          omega
        · have : (now - T) / len < 1 := Int.ediv_lt_of_lt_mul (by omega) (by omega)
          omega
    · rw [if_neg he]
      have hq := q2 he
      have hmu : mu sp now ≤ 2 + (reach W).toNat := by
        have hd' : sp.due ≤ now + reach W := by
          unfold placeM at hp
          have hre : 2 ≤ reach W := (hW.ok.all (W.length - 1) (by have := hW.ok.pos; omega)).2.2.2.2
          split at hp
          · cases hp
          · obtain rfl := Option.some.inj hp
            rw [spotAt_due]
            repeat' split
            all_goals omega
        unfold mu; split <;> omega
      refine ⟨btInv a b now delay len mode W B H Q, ⟨_, .inl ⟨p, sp, now, 0, none, rfl, rfl, s12, hsp.same s2, hlv, by omega, Int.le_refl _, by omega, hq⟩⟩, ?_⟩
      rintro m σ H3 (⟨p, sp, tick, j, v8, rfl, rfl, s3, hp3, hlv, hj, hj0, hjm, hq⟩ | ⟨t, v8, rfl, rfl, s3, hq⟩)
      · have hp4 := hp3
        unfold SpAt at hp4
        walk_at "rsj"
        have hW3 := hW.same s3
        refine ⟨fun σ' H' => ∃ m', m' < mu sp tick + 1 ∧ btInv a b now delay len mode W B H Q m' σ' H', fun σ' H' z => z, a, sp.lv, rfl, W, hW3, by omega, by omega, fun c hc => ?_⟩
        have hc' : LvAt K H3 c (lv W sp.lv) := hc
        refine ⟨_, hp4, _, rfl, c, sp.pt, tick, now, len, _, rfl, _, hc', ?_⟩
        by_cases hla : mode = "last"
        · refine .inl ⟨hla, fun o H3' s3' ho => ?_⟩
          have hnx : nxL mode now len (lv W sp.lv) sp.pt tick (o.map fun k => tick + k * len) := by unfold nxL; rw [if_pos hla]; exact ⟨o, ho, rfl⟩
          cases o with
          | none =>
            dsimp only
            rw [if_pos (show optV (Option.map (fun k => tick + k * len) none) = V.non from rfl)]
            exact hq none H3' (s3.trans s3') (.lost hnx)
          | some k =>
            dsimp only
            rw [if_neg (by intro z; cases z)]
            have tl := bt_tail (delay := delay) hW hB hl hj hj0 hjm hnx (s3.trans s3') (hp3.same s3') hlv hq
            unfold bfL at tl
            rw [if_pos hla] at tl ⊢
            exact ⟨_, rfl, tl⟩
        · obtain rfl : mode = "slots" := by
            rcases hm with z | z | z
            · exact absurd z he
            · exact absurd z hla
            · exact z
          have hnx : nxL "slots" now len (lv W sp.lv) sp.pt tick (some (endOf now len (va (lv W sp.lv) sp.pt tick))) := by unfold nxL; rw [if_neg hla]
          have hv := va_step hW.ok hlv sp.pt tick
          refine .inr ⟨hla, ?_, ?_, ?_⟩
          · exact ⟨by omega, Nat.lt_of_lt_of_le (PySem.Flt.log2_lt_of (k := 200) (by decide) (by omega)) (by decide)⟩
          · obtain ⟨j', e, j1, j2, _⟩ := nx_step hW.ok hlv hl hj hnx
            have e3 := (endOf_is (s := now) (t := va (lv W sp.lv) sp.pt tick) hl).2.2
            rw [e3] at e
            have e4 : -((now - va (lv W sp.lv) sp.pt tick) / len) * len = j' * len := by omega
            have e5 := Int.eq_of_mul_eq_mul_right (by omega) e4
            exact .inl ⟨by omega, by omega⟩
          · have tl := bt_tail (delay := delay) hW hB hl hj hj0 hjm hnx s3 hp3 hlv hq
            unfold bfL at tl
            rw [if_neg hla] at tl
            dsimp only
            rw [if_neg (by intro z; cases z), if_neg hla]
            exact ⟨_, rfl, tl⟩
      · walk_at "rsj"
end
end Tw
/-! Tw: draws of starts, delays, lengths -/
namespace Tw
open PySem PySem.Spec PyProof.Rows L2 He TwM StX
open PySem.W (Frag)
local macro_rules | `(tactic| walk_at "rsk") => `(tactic| simp only [*, at3_0, at3_1, at3_2, at2_0, at2_1, updS, upd_two, gSub, rSetL, updN, rCat, tPar, tPar3, and_assoc, not_true_eq_false, not_false_eq_true, tNever, List.length_map, tFld, rIxTH, rIxLH, rLenTH, rLenLH, lk1, lfs_g, lfs_s, lfs_p, HO.ins.injEq, HO.tup.injEq, HO.lst.injEq, sp_Book_rounding, sp_Book_action, sp_Book_order, sp_Book_due, sp_Book_zero, sp_Book_beyond, Int.toNat_natCast, sp_visit_after, sp_is_visited, sp_Level_grain, sp_Level_slots, sp_Level_span, sp_Wheel_reach, sp_Wheel___len__, sp_is_integer, sp_is_count, sp_is_within, sp_rounded, tSeq, tAsg, gName, tVar, tC, tOp, rI, rI0, rU, tUn, oAdd, oSub, oMul, oDiv, oMod, oNeg, oLt, oLe, oGt, oGe, oIsN, oNotN, tFn, tCons, tNil, tIfS, tIf, tTest, tB, tNot, tAnd, tOr, tAndV, tOrV, tNotV,
    tRet, tRetN, tNext, tCB, tDrop, tChain, rEq, rNe, oMax2, oMin2, oInt1, rLenF, L2.start, List.map_cons, List.map_nil, List.length_cons, List.length_nil, List.replicate_succ, List.replicate_zero, List.cons_append, List.nil_append, Nat.reduceAdd, Nat.reduceSub, Nat.zero_add,
    List.set_cons_zero, List.set_cons_succ, List.getElem?_cons_zero, List.getElem?_cons_succ, Option.some.injEq, V.int.injEq, V.ref.injEq, V.str.injEq, V.bl.injEq, exists_eq_left', exists_eq_left, exists_and_left, List.cons.injEq, and_true, true_and, decide_eq_true_eq, sc_ii, sc_ss, sc_bb, sc_ni, sc_in, sc_nn, sc_is, reduceCtorEq,
    Bool.not_eq_true', decide_eq_false_iff_not, if_true, if_false, Bool.false_eq_true, exists_eq', exists_const, false_and, and_false, or_false, false_or, exists_false, Bool.not_not, Bool.not_true, Bool.not_false, sUp_up, sFire_fire, sHigh_high, sPut_put, sZone_now, sBey_refuse, sBey_cut, tTup, tLst, sz0, sz1, sz2, sz3, sz4, sz5, sz6])
local macro_rules | `(tactic| walk_at "rsl") => `(tactic| simp only [*, at3_0, at3_1, at3_2, at2_0, at2_1, updS, upd_two, gSub, rSetL, updN, tPar, tPar3, and_assoc, not_true_eq_false, not_false_eq_true, tNever, List.length_map, tFld, rIxTH, rIxLH, rLenTH, rLenLH, lk1, lfs_g, lfs_s, lfs_p, HO.ins.injEq, HO.tup.injEq, HO.lst.injEq, sp_Book_rounding, sp_Book_action, sp_Book_order, sp_Book_due, sp_Book_zero, sp_Book_beyond, Int.toNat_natCast, sp_visit_after, sp_is_visited, sp_Level_grain, sp_Level_slots, sp_Level_span, sp_Wheel_reach, sp_Wheel___len__, sp_is_integer, sp_is_count, sp_is_within, sp_rounded, tAsg, gName, tVar, tC, tOp, rI, rI0, rU, tUn, oAdd, oSub, oMul, oDiv, oMod, oNeg, oLt, oLe, oGt, oGe, oIsN, oNotN, tFn, tCons, tNil, tIfS, tIf, tTest, tB, tNot, tAnd, tOr, tAndV, tOrV, tNotV,
    tRet, tRetN, tNext, tCB, tDrop, tChain, rEq, rNe, oMax2, oMin2, oInt1, rLenF, L2.start, List.map_cons, List.map_nil, List.length_cons, List.length_nil, List.replicate_succ, List.replicate_zero, List.cons_append, List.nil_append, Nat.reduceAdd, Nat.reduceSub, Nat.zero_add,
    List.set_cons_zero, List.set_cons_succ, List.getElem?_cons_zero, List.getElem?_cons_succ, Option.some.injEq, V.int.injEq, V.ref.injEq, V.str.injEq, V.bl.injEq, exists_eq_left', exists_eq_left, exists_and_left, List.cons.injEq, and_true, true_and, decide_eq_true_eq, sc_ii, sc_ss, sc_bb, sc_ni, sc_in, sc_nn, sc_is, reduceCtorEq,
    Bool.not_eq_true', decide_eq_false_iff_not, if_true, if_false, Bool.false_eq_true, exists_eq', exists_const, false_and, and_false, or_false, false_or, exists_false, Bool.not_not, Bool.not_true, Bool.not_false, sUp_up, sFire_fire, sHigh_high, sPut_put, sZone_now, sBey_refuse, sBey_cut, tTup, tLst, sz0, sz1, sz2, sz3, sz4, sz5, sz6])
local macro_rules | `(tactic| walk_at "st") => `(tactic| ((try dsimp only); rw [seq1]; walk_at "rsl"))
section
variable {K : Frag} {w : World}
theorem RowsAt.ends {H : Hp} {r : Addr} {W : List Lv} (h : RowsAt H r W) (hp : 0 < W.length) : ∃ xs t0 tl, H r = some (.lst xs) ∧ atI xs 0 = some (.ref t0) ∧ atI xs (-1) = some (.ref tl) ∧
    H t0 = some (.tup [.int (lv W 0).g, .int (lv W 0).s, .int (lv W 0).p]) ∧ H tl = some (.tup [.int (lv W (W.length - 1)).g, .int (lv W (W.length - 1)).s, .int (lv W (W.length - 1)).p]) := by
  obtain ⟨ts, ha, hb, hc⟩ := h
  obtain ⟨t0, ht0⟩ : ∃ t, ts[0]? = some t := ⟨ts[0]'(by omega), List.getElem?_eq_getElem (by omega)⟩
  obtain ⟨tl, htl⟩ : ∃ t, ts[W.length - 1]? = some t := ⟨ts[W.length - 1]'(by omega), List.getElem?_eq_getElem (by omega)⟩
  exact ⟨_, t0, tl, ha, atI_nat (j := 0) (by rw [List.getElem?_map, ht0]; rfl), atI_m1 (by rw [List.getLast?_eq_getElem?, List.length_map, hb, List.getElem?_map, htl]; rfl), hc _ _ ht0, hc _ _ htl⟩
theorem drawOf {H : Hp} {p l : Addr} {n : Int} {xs : List Int} {Q : VK} {r : Addr} (hp : PoolAt H p l) (hr : H r = some (.lst (xs.map V.int))) (hn : 0 < n) (hl : n.natAbs.log2 < 1920) (hx : n = xs.length) (h1 : r ≠ p) (h2 : r ≠ l)
    (q : ∀ v H', SameP p l H H' → PoolAt H' p l → v ∈ xs → Q (.int v) H') :
    sp__law_draw K [.ref p, .int n] H (fun y H2 => ∃ x x_3, y = .int x_3 ∧ H2 r = some (.lst x) ∧ ∃ x_4, atI x x_3 = some x_4 ∧ Q x_4 H2) E0 := by
  refine draw hp hn hl fun i H1 s1 hp1 a b => ?_
  obtain ⟨v, hv, e⟩ := atInts (xs := xs) a (by omega)
  exact ⟨_, i, rfl, s1 _ _ h1 h2 hr, _, e, q v H1 s1 hp1 hv⟩
def sp__law_is (K : Frag) : Sp := fun vs H Q _ => ∃ (o o' : Option Int), vs = [optV o, optV o'] ∧ o = o' ∧ Q (.bl true) H
def t__law_is (K : Frag) (w : World) : TS :=
  (tSeq (tIfS (tTest (tOp oIsN (tVar 1) (tC .non))) (tRet (tOp oIsN (tVar 0) (tC .non))) tNext)
  (tRet (tAndV (tFn (sp__law_whole K) E0 (tCons (tVar 0) tNil)) (tOp rEq (tVar 0) (tVar 1)))))
def n__law_is : List Str := ["_law_found", "_law_due"]
theorem rd__law_is (vs : List V) (H : Hp) (Q : VK) (E : XK) (h : sp__law_is K vs H Q E) : t__law_is K w { nx := fun _ H' => Q .non H', rt := Q } (L2.start n__law_is vs) H := by
  obtain ⟨o, o', rfl, rfl, q⟩ := h
  unfold t__law_is n__law_is
  cases o with
  | none =>
    unfold optV
    walk_at "rsk"
    simpa using q
  | some i =>
    unfold optV
    walk_at "rsk"
    exact ⟨i, rfl, true, rfl, q⟩
def sp__law_start (K : Frag) : Sp := fun vs H Q _ => ∃ (p l : Addr), vs = [.ref p] ∧ PoolAt H p l ∧ ∀ (v : Int) (H' : Hp), SameP p l H H' → PoolAt H' p l → 0 ≤ v → v < 2 ^ 200 → Q (.int v) H'
def t__law_start (K : Frag) (w : World) : TS :=
  (tSeq (tAsg (tLst (tCons (tFn (sp__law_draw K) E0 (tCons (tVar 0) (tCons (tC (.int 40)) tNil))) (tCons (tOp oAdd (tOp oPow (tC (.int 10)) (tC (.int 29))) (tFn (sp__law_draw K) E0 (tCons (tVar 0) (tCons (tOp oPow (tC (.int 10)) (tC (.int 30))) tNil)))) tNil))) (gName 1))
  (tRet (tIf (tTest (tOp oGt (tFn (sp__law_draw K) E0 (tCons (tVar 0) (tCons (tC (.int 3)) tNil))) (tC (.int 0)))) (tOp rIxLH (tVar 1) (tC (.int 0))) (tOp rIxLH (tVar 1) (tC (.int 1))))))
def n__law_start : List Str := ["_law_pool", "_law_some"]
theorem rd__law_start (vs : List V) (H : Hp) (Q : VK) (E : XK) (h : sp__law_start K vs H Q E) : t__law_start K w { nx := fun _ H' => Q .non H', rt := Q } (L2.start n__law_start vs) H := by
  obtain ⟨p, l, rfl, hp, q⟩ := h
  have c29 : CPow 10 29 := ⟨by decide, by decide, by decide⟩
  have c30 : CPow 10 30 := ⟨by decide, by decide, by decide⟩
  unfold t__law_start n__law_start
  walk_at "rsk"
  refine draw hp (by decide) (by decide +kernel) fun x H1 s1 hp1 a1 b1 => draw hp1 (by decide) (by decide +kernel) fun y H2 s2 hp2 a2 b2 => ⟨y, rfl, fun r hr => ?_⟩
  have ap := hp2.apart hr
  have s3 := Same.new (o := .lst [.int x, .int (10 ^ Int.toNat 29 + y)]) hr
  refine draw (hp2.same s3) (by decide) (by decide +kernel) fun z H3 s4 hp3 a3 b3 => ⟨z, rfl, ?_⟩
  have h3 := s4 r _ ap.1 ap.2 (updS _ _ _)
  have e29 : (0 : Int) ≤ 10 ^ Int.toNat 29 := by decide
  have e200 : (10 : Int) ^ Int.toNat 29 + 10 ^ Int.toNat 30 < 2 ^ 200 := by decide +kernel
  have e40 : (40 : Int) < 2 ^ 200 := by decide +kernel
  generalize (10 : Int) ^ Int.toNat 29 = t29 at *
  generalize (10 : Int) ^ Int.toNat 30 = t30 at *
  generalize (2 : Int) ^ 200 = u at *
  refine ite2 (fun _ => ⟨_, h3, _, rfl, q x H3 (((s1.trans s2).step s3).trans s4) hp3 a1 (by omega)⟩) fun _ => ⟨_, h3, _, rfl, q _ H3 (((s1.trans s2).step s3).trans s4) hp3 (by omega) (by omega)⟩
def sp__law_length (K : Frag) : Sp := fun vs H Q _ => ∃ (p l : Addr), vs = [.ref p] ∧ PoolAt H p l ∧ ∀ (v : Int) (H' : Hp), SameP p l H H' → PoolAt H' p l → 1 ≤ v → v < 2 ^ 200 → Q (.int v) H'
def t__law_length (K : Frag) (w : World) : TS :=
  (tSeq (tAsg (tLst (tCons (tOp oAdd (tC (.int 1)) (tFn (sp__law_draw K) E0 (tCons (tVar 0) (tCons (tC (.int 12)) tNil)))) (tCons (tOp oAdd (tC (.int 1)) (tFn (sp__law_draw K) E0 (tCons (tVar 0) (tCons (tC (.int 60)) tNil)))) (tCons (tOp oAdd (tC (.int 1)) (tFn (sp__law_draw K) E0 (tCons (tVar 0) (tCons (tOp oPow (tC (.int 10)) (tC (.int 30))) tNil)))) (tCons (tC (.int 1)) tNil))))) (gName 1))
  (tRet (tOp rIxLH (tVar 1) (tFn (sp__law_draw K) E0 (tCons (tVar 0) (tCons (tC (.int 4)) tNil))))))
def n__law_length : List Str := ["_law_pool", "_law_some"]
theorem rd__law_length (vs : List V) (H : Hp) (Q : VK) (E : XK) (h : sp__law_length K vs H Q E) : t__law_length K w { nx := fun _ H' => Q .non H', rt := Q } (L2.start n__law_length vs) H := by
  obtain ⟨p, l, rfl, hp, q⟩ := h
  have c30 : CPow 10 30 := ⟨by decide, by decide, by decide⟩
  unfold t__law_length n__law_length
  walk_at "rsk"
  refine draw hp (by decide) (by decide +kernel) fun x H1 s1 hp1 a1 b1 => ⟨x, rfl, draw hp1 (by decide) (by decide +kernel) fun y H2 s2 hp2 a2 b2 => ⟨y, rfl, draw hp2 (by decide) (by decide +kernel) fun z H3 s3 hp3 a3 b3 => ⟨z, rfl, fun r hr => ?_⟩⟩⟩
  have ap := hp3.apart hr
  have e30 : (10 : Int) ^ Int.toNat 30 < 2 ^ 200 - 1 := by decide +kernel
  have e200 : (1000 : Int) < 2 ^ 200 := by decide +kernel
  refine drawOf (xs := [1 + x, 1 + y, 1 + z, 1]) (hp3.new hr) (updS _ _ _) (by decide) (by decide +kernel) rfl ap.1 ap.2 fun v H4 s4 hp4 hv => ?_
  have sa := (((s1.trans s2).trans s3).step (Same.new hr)).trans s4
  simp only [List.mem_cons, List.not_mem_nil, or_false] at hv
  generalize (10 : Int) ^ Int.toNat 30 = t at *
  generalize (2 : Int) ^ 200 = u at *
  exact q v H4 sa hp4 (by omega) (by omega)
def sp__law_delay (K : Frag) : Sp := fun vs H Q _ => ∃ (p l r : Addr), vs = [.ref p, .ref r] ∧ PoolAt H p l ∧ r ≠ p ∧ r ≠ l ∧ ∃ W, RowsAt H r W ∧ ROk W ∧ ∀ (v : Int) (H' : Hp), SameP p l H H' → PoolAt H' p l → 0 ≤ v → v < reach W → Q (.int v) H'
def t__law_delay (K : Frag) (w : World) : TS :=
  (tSeq (tAsg (tLst (tCons (tC (.int 0)) (tCons (tC (.int 1)) (tCons (tOp rIxTH (tOp rIxLH (tVar 1) (tC (.int 0))) (tC (.int 1))) (tCons (tOp oSub (tOp rIxTH (tOp rIxLH (tVar 1) (tC (.int 0))) (tC (.int 2))) (tC (.int 1))) (tCons (tOp oSub (tOp rIxTH (tOp rIxLH (tVar 1) (tUn oNeg (tC (.int 1)))) (tC (.int 2))) (tC (.int 1))) (tCons (tOp rIxTH (tOp rIxLH (tVar 1) (tUn oNeg (tC (.int 1)))) (tC (.int 0))) (tCons (tFn (sp__law_draw K) E0 (tCons (tVar 0) (tCons (tOp rIxTH (tOp rIxLH (tVar 1) (tUn oNeg (tC (.int 1)))) (tC (.int 2))) tNil))) tNil)))))))) (gName 2))
  (tSeq (tAsg (tOp rCat (tVar 2) (tLst (tCons (tFn (sp__law_draw K) E0 (tCons (tVar 0) (tCons (tOp rIxTH (tOp rIxLH (tVar 1) (tUn oNeg (tC (.int 1)))) (tC (.int 2))) tNil))) tNil))) (gName 2))
  (tRet (tOp oMod (tCB oInt1 (tCons (tOp rIxLH (tVar 2) (tFn (sp__law_draw K) E0 (tCons (tVar 0) (tCons (tC (.int 8)) tNil)))) tNil)) (tOp rIxTH (tOp rIxLH (tVar 1) (tUn oNeg (tC (.int 1)))) (tC (.int 2)))))))
def n__law_delay : List Str := ["_law_pool", "_law_rows", "_law_near"]
theorem rd__law_delay (vs : List V) (H : Hp) (Q : VK) (E : XK) (h : sp__law_delay K vs H Q E) : t__law_delay K w { nx := fun _ H' => Q .non H', rt := Q } (L2.start n__law_delay vs) H := by
  obtain ⟨p, l, r, rfl, hp, r1, r2, W, hR, hRk, q⟩ := h
  have hpos := hRk.ok.pos
  obtain ⟨xs, t0, tl, e1, e2, e3, e4, e5⟩ := hR.ends hpos
  have hall := hRk.ok.all (W.length - 1) (by omega)
  have hsm := hRk.small (i := W.length - 1) (by omega)
  have q : ∀ (v : Int) (H' : Hp), SameP p l H H' → PoolAt H' p l → 0 ≤ v → v < (lv W (W.length - 1)).p → Q (.int v) H' := q
  unfold t__law_delay n__law_delay
  walk_at "rsk"
  refine draw hp (by omega) (log_small (by omega) (by omega)) fun x H1 s1 hp1 a1 b1 => ⟨by decide, fun f hf => ?_⟩
  have hR1 := RowsAt.sameP hp hR s1 r1 r2
  have s2 := Same.new (o := .lst [.int 0, .int 1, .int (lv W 0).s, .int ((lv W 0).p - 1), .int ((lv W (W.length - 1)).p - 1), .int (lv W (W.length - 1)).g, .int x]) hf
  have apf := hp1.apart hf
  have hp2 := hp1.same s2
  have hR2 := hR1.same s2
  have hf2 : upd H1 f (.lst [.int 0, .int 1, .int (lv W 0).s, .int ((lv W 0).p - 1), .int ((lv W (W.length - 1)).p - 1), .int (lv W (W.length - 1)).g, .int x]) f = some (.lst [.int 0, .int 1, .int (lv W 0).s, .int ((lv W 0).p - 1), .int ((lv W (W.length - 1)).p - 1), .int (lv W (W.length - 1)).g, .int x]) := updS _ _ _
  generalize upd H1 f (.lst [.int 0, .int 1, .int (lv W 0).s, .int ((lv W 0).p - 1), .int ((lv W (W.length - 1)).p - 1), .int (lv W (W.length - 1)).g, .int x]) = H2 at *
  obtain ⟨xs1, t01, tl1, e11, e21, e31, e41, e51⟩ := hR2.ends hpos
  refine ⟨_, e11, _, e31, tl1, rfl, _, e51, _, rfl, ?_⟩
  refine draw hp2 (by omega) (log_small (by omega) (by omega)) fun y H3 s3 hp3 a3 b3 f2 hf2' => ?_
  have s4 := Same.new (o := .lst [.int y]) hf2'
  have hf3 := s4 _ _ (s3 f _ apf.1 apf.2 hf2)
  refine ⟨_, hf3, (by show 8 ≤ sizeLine; decide), fun f3 hf3' => ?_⟩
  have hp4 := hp3.same s4
  have ap4 := hp4.apart hf3'
  have hR4 := ((RowsAt.sameP hp2 hR2 s3 r1 r2).same s4).same (Same.new (o := .lst ([.int 0, .int 1, .int (lv W 0).s, .int ((lv W 0).p - 1), .int ((lv W (W.length - 1)).p - 1), .int (lv W (W.length - 1)).g, .int x] ++ [.int y])) hf3')
  refine draw (hp4.new hf3') (by decide) (by decide +kernel) fun i H5 s5 hp5 a5 b5 => ?_
  obtain ⟨v, hv, e⟩ := atInts (xs := [0, 1, (lv W 0).s, (lv W 0).p - 1, (lv W (W.length - 1)).p - 1, (lv W (W.length - 1)).g, x] ++ [y]) a5 b5
  obtain ⟨xs5, t05, tl5, e15, e25, e35, e45, e55⟩ := (RowsAt.sameP (hp4.new hf3') hR4 s5 r1 r2).ends hpos
  have h5 := s5 f3 _ ap4.1 ap4.2 (updS _ _ _)
  refine ⟨_, i, rfl, h5, _, e, .inl ⟨v, rfl, _, e15, _, e35, tl5, rfl, _, e55, _, rfl, _, rfl, by omega, ?_⟩⟩
  exact q _ H5 (((((s1.step s2).trans s3).step s4).step (Same.new hf3')).trans s5) hp5 (Int.emod_nonneg _ (by omega)) (Int.emod_lt_of_pos _ (by omega))
theorem fh_one {tick m goal : Int} {o : Option Int} (h : FH tick 1 goal m o) : ∃ k, o = some k ∧ 1 ≤ k ∧ k ≤ m ∧ m ∣ tick + k - goal := by
  obtain ⟨g, hg, h⟩ := h
  have h1 : g = 1 := by
    have : g ∣ 1 := hg.left
    have := Int.le_of_dvd (by decide) this
    have := hg.1
    omega
  subst h1
  cases o with
  | none => exact absurd (Int.one_dvd _) h
  | some k =>
    obtain ⟨k1, k2, k3⟩ := h
    rw [Int.ediv_one] at k2
    rw [Int.mul_one] at k3
    exact ⟨k, rfl, k1, k2, k3⟩
end
end Tw
/-! Tw: the law of lateness -/
namespace Tw
open PySem PySem.Spec PyProof.Rows L2 He TwM StX LamX
open PySem.W (Frag)
local macro_rules | `(tactic| walk_at "rsl") => `(tactic| simp only [*, at3_0, at3_1, at3_2, at2_0, at2_1, updS, upd_two, gSub, rSetL, updN, tPar, tPar3, gTup, gCons, gNil, and_assoc, not_true_eq_false, not_false_eq_true, tNever, List.length_map, tFld, rIxTH, rIxLH, rLenTH, rLenLH, lk1, lfs_g, lfs_s, lfs_p, HO.ins.injEq, HO.tup.injEq, HO.lst.injEq, sp_Book_rounding, sp_Book_action, sp_Book_order, sp_Book_due, sp_Book_zero, sp_Book_beyond, Int.toNat_natCast, sp_visit_after, sp_is_visited, sp_Level_grain, sp_Level_slots, sp_Level_span, sp_Wheel_reach, sp_Wheel___len__, sp_is_integer, sp_is_count, sp_is_within, sp_rounded, tAsg, gName, tVar, tC, tOp, rI, rI0, rU, tUn, oAdd, oSub, oMul, oDiv, oMod, oNeg, oLt, oLe, oGt, oGe, oIsN, oNotN, tFn, tCons, tNil, tIfS, tIf, tTest, tB, tNot, tAnd, tOr, tAndV, tOrV, tNotV,
    tRet, tRetN, tNext, tCB, tDrop, tChain, rEq, rNe, oMax2, oMin2, oInt1, rLenF, L2.start, List.map_cons, List.map_nil, List.length_cons, List.length_nil, List.replicate_succ, List.replicate_zero, List.cons_append, List.nil_append, Nat.reduceAdd, Nat.reduceSub, Nat.zero_add,
    List.set_cons_zero, List.set_cons_succ, List.getElem?_cons_zero, List.getElem?_cons_succ, Option.some.injEq, V.int.injEq, V.ref.injEq, V.str.injEq, V.bl.injEq, exists_eq_left', exists_eq_left, exists_and_left, List.cons.injEq, and_true, true_and, decide_eq_true_eq, sc_ii, sc_ss, sc_bb, sc_ni, sc_in, sc_nn, sc_is, reduceCtorEq,
    Bool.not_eq_true', decide_eq_false_iff_not, if_true, if_false, Bool.false_eq_true, exists_eq', exists_const, false_and, and_false, or_false, false_or, exists_false, Bool.not_not, Bool.not_true, Bool.not_false, sUp_up, sFire_fire, sHigh_high, sPut_put, sZone_now, sBey_refuse, sBey_cut, tTup, tLst, sz0, sz1, sz2, sz3, sz4, sz5, sz6])
local macro_rules | `(tactic| walk_at "st") => `(tactic| ((try dsimp only); rw [seq1]; walk_at "rsl"))
section
variable {K : Frag} {w : World}
/-- a value that is no count -/
def NoCnt (x : V) (d : PyData) : Prop := OkD d ∧ (intD d = true → ∃ i, x = .int i ∧ i < 0)
def sp__law_bad_number (K : Frag) : Sp := fun vs H Q _ => ∃ (p l : Addr), vs = [.ref p] ∧ PoolAt H p l ∧ ∀ x d H', SameP p l H H' → PoolAt H' p l → OvP p l H' x d → NoCnt x d → Q x H'
def t__law_bad_number (K : Frag) (w : World) : TS :=
  (tRet (tOp rIxLH (tLst (tCons (tUn oNeg (tC (.int 1))) (tCons (tC .non) (tCons (tC (.bl true)) (tCons (tC (.str "1")) (tCons (tTup (tCons (tC (.int 1)) tNil)) (tCons (tLst (tCons (tC (.int 1)) tNil)) (tCons tDNewK (tCons (tC (.bl false)) (tCons (tUn oNeg (tOp oPow (tC (.int 10)) (tC (.int 30)))) tNil)))))))))) (tFn (sp__law_draw K) E0 (tCons (tVar 0) (tCons (tC (.int 9)) tNil)))))
def n__law_bad_number : List Str := ["_law_pool"]
theorem rd__law_bad_number (vs : List V) (H : Hp) (Q : VK) (E : XK) (h : sp__law_bad_number K vs H Q E) : t__law_bad_number K w { nx := fun _ H' => Q .non H', rt := Q } (L2.start n__law_bad_number vs) H := by
  obtain ⟨p, l, rfl, hp, q⟩ := h
  unfold t__law_bad_number n__law_bad_number tDNewK
  walk_at "rsl"
  refine fun T hT B hB D hD => ⟨⟨by decide, by decide, by decide⟩, (show 9 ≤ 16777216 by decide), fun L hL => ?_⟩
  have z1 := Same.new (o := .tup [V.int 1]) hT
  have T1 := updS H T (.tup [V.int 1])
  have a1 := hp.apart hT
  have p1 := hp.same z1
  generalize upd H T (.tup [V.int 1]) = H1 at *
  have z2 := Same.new (o := .lst [V.int 1]) hB
  have B2 := updS H1 B (.lst [V.int 1])
  have a2 := p1.apart hB
  have p2 := p1.same z2
  generalize upd H1 B (.lst [V.int 1]) = H2 at *
  have z3 := Same.new (o := .dK []) hD
  have D3 := updS H2 D (.dK [])
  have a3 := p2.apart hD
  have p3 := p2.same z3
  generalize upd H2 D (.dK []) = H3 at *
  have z4 := Same.new (o := .lst [V.int (-1), .non, .bl true, .str (Str.ofString "1"), .ref T, .ref B, .ref D, .bl false, .int (-10 ^ Int.toNat 30)]) hL
  have L4 := updS H3 L (.lst [V.int (-1), .non, .bl true, .str (Str.ofString "1"), .ref T, .ref B, .ref D, .bl false, .int (-10 ^ Int.toNat 30)])
  have a4 := p3.apart hL
  have p4 := p3.same z4
  generalize upd H3 L (.lst [V.int (-1), .non, .bl true, .str (Str.ofString "1"), .ref T, .ref B, .ref D, .bl false, .int (-10 ^ Int.toNat 30)]) = H4 at *
  refine drawOv (Pr := NoCnt) p4 L4 a4.1 a4.2 (by decide) (by decide) rfl (fun x hx => ?_) fun x d H5 s5 p5 ho hn => q x d H5 ((Same.toP (((z1.trans z2).trans z3).trans z4)).trans s5) p5 ho hn
  have off : ∀ {c : Addr}, c ≠ p ∧ c ≠ l → ∀ a, V.ref c = .ref a → a ≠ p ∧ a ≠ l := fun {c} h a e => by cases e; exact h
  simp only [List.mem_cons, List.not_mem_nil, or_false] at hx
  rcases hx with rfl | rfl | rfl | rfl | rfl | rfl | rfl | rfl | rfl
  · exact ⟨_, .at_ rfl, okD_int (by decide), fun _ => ⟨_, rfl, by decide⟩⟩
  · exact ⟨_, .at_ rfl, okD_of (by decide +kernel), fun z => by cases z⟩
  · exact ⟨_, .at_ rfl, okD_of (by decide +kernel), fun z => by cases z⟩
  · exact ⟨_, .at_ rfl, okD_of (by decide +kernel), fun z => by cases z⟩
  · exact ⟨.tuple [.int 1], ⟨.tup (z4 _ _ (z3 _ _ (z2 _ _ T1))) rfl, off a1⟩, okD_of (by decide +kernel), fun z => by cases z⟩
  · exact ⟨.list [.int 1], ⟨.lst (z4 _ _ (z3 _ _ B2)) rfl, off a2⟩, okD_of (by decide +kernel), fun z => by cases z⟩
  · exact ⟨_, ⟨.dict (z4 _ _ D3), off a3⟩, okD_dict, fun z => by cases z⟩
  · exact ⟨_, .at_ rfl, okD_of (by decide +kernel), fun z => by cases z⟩
  · exact ⟨_, .at_ rfl, okD_int (by decide +kernel), fun _ => ⟨_, rfl, by decide⟩⟩
theorem NoCnt.cnt {x : V} {d : PyData} (h : NoCnt x d) : (intD d && cntB x) = false := by
  cases hi : intD d with
  | false => rfl
  | true =>
    obtain ⟨i, rfl, hl⟩ := h.2 hi
    show decide (0 ≤ i) = false
    exact decide_eq_false (by omega)
abbrev TL (K : Frag) : List (Addr × Str) := [(tbA K (ga K "law"), (("law" : Str) ++ ".<locals>." ++ "<lambda>"))]
theorem okNum : PySem.PyData.strOk "number" = true := by decide +kernel
theorem okLong : PySem.PyData.strOk "long" = true := by decide +kernel
theorem seq_mid {a b : TS} {D : Ends} {σ : L2.St} {H : Hp} (I : L2.St → Hp → Prop) (h1 : ∀ R : L2.St → Hp → Prop, (∀ σ' H', I σ' H' → R σ' H') → a { D with nx := R } σ H) (h2 : ∀ σ' H', I σ' H' → b D σ' H') : tSeq a b D σ H := h1 _ h2
theorem pl_now {x y : V} {bx bY : Bool} {W : List Lv} {B : Bk} (h : (bx && cntB x) = false) : plOut x y bx bY W B = some (("InvalidNumber" : Str), ("value" : Str), x) := by
  unfold plOut
  rw [h]
  rfl
theorem pl_delay {x y : V} {bx bY : Bool} {W : List Lv} {B : Bk} (h : (bx && cntB x) = true) (h2 : (bY && cntB y) = false) : plOut x y bx bY W B = some (("InvalidNumber" : Str), ("value" : Str), y) := by
  unfold plOut
  rw [h, h2]
  rfl
theorem pl_long {x y : V} {bx bY : Bool} {W : List Lv} {B : Bk} (h : (bx && cntB x) = true) (h2 : (bY && cntB y) = true) (h3 : reach W ≤ intOf y ∧ B.bey = 0) : plOut x y bx bY W B = some (("TooLong" : Str), ("delay" : Str), y) := by
  unfold plOut
  rw [h, h2, if_neg (by decide), if_neg (by decide), if_pos h3]
theorem lt_call {a b : Addr} {x y v : V} {dx dy : PyData} {W : List Lv} {B : Bk} {c f : Str} {H : Hp} {Q : VK} {E : XK} (hW : WhAt K H a W) (hB : BkAt K H b B) (hx : Ov H x dx) (hy : Ov H y dy) (h : plOut x y (intD dx) (intD dy) W B = some (c, f, v)) (hE : ∀ d, H d = none → E (.ref (ga K c)) (some d) (upd H d (.xd [(f, v)]))) :
    sp_lateness K [.ref a, .ref b, x, y] H Q E := ⟨a, b, x, y, dx, dy, W, B, rfl, hW, hB, hx, hy, fun c' f' v' z => by rw [h] at z; cases z; exact hE, fun z => by rw [h] at z; cases z⟩
/-- a test of the law: lateness is refused -/
theorem chk_late {a b : Addr} {i1 i2 i3 i4 i7 : Nat} {x y v : V} {dx dy dv : PyData} {W : List Lv} {B : Bk} {H : Hp} {D : Ends} {σ : L2.St} (kc : KeC K "InvalidNumber" "number") (hT : Tabs (TL K) H) (h1 : σ[i1]? = some (some (.ref a))) (h2 : σ[i2]? = some (some (.ref b))) (h3 : σ[i3]? = some (some x)) (h4 : σ[i4]? = some (some y))
    (h7 : σ[i7]? = some (some v)) (hW : WhAt K H a W) (hB : BkAt K H b B) (hx : Ov H x dx) (hy : Ov H y dy) (hv : Ov H v dv) (ok : OkD dv) (h : plOut x y (intD dx) (intD dy) W B = some (("InvalidNumber" : Str), ("value" : Str), v)) (hnx : ∀ H', ExtN H H' → Tabs (TL K) H' → D.nx σ H') :
    tIfS (tTest (tOp (rNeD K) (tLam (TL K) (TCg K) (fun E => tFn (sp_lateness K) E (tCons (tVar i1) (tCons (tVar i2) (tCons (tVar i3) (tCons (tVar i4) tNil)))))) (tLst (tCons (tC (.str "number")) (tCons (tCB (rReprE K) (tCons (tVar i7) tNil)) tNil))))) (tRet (tC (.bl false))) tNext D σ H := by
  refine caught_is (x := v) (d := dv) kc okNum hT ok hv (fun H1 E1 Q1 e1 hE => ?_) (fun H1 Q1 e1 q1 => ?_) hnx
  · exact ⟨.ref a, h1, .ref b, h2, x, h3, y, h4, lt_call (hW.extN e1) (hB.extN e1) (hx.extN e1) (hy.extN e1) h hE⟩
  · exact lit_repr h7 (hv.extN e1) ok q1
/-- [name, repr(i)], i an int -/
theorem lit_int {i : Nat} {σ : L2.St} {H : Hp} {nm : Str} {n : Int} {Q : VK} (h : σ[i]? = some (some (.int n))) (h0 : -(2 ^ 100) < n) (h1 : n < 2 ^ 100) (q : ∀ (R : Addr) (H2 : Hp), Same H H2 → H2 R = none → Q (.ref R) (upd H2 R (.lst [.str nm, .str (PyData.int n).shown]))) :
    tLst (tCons (tC (.str nm)) (tCons (tCB (rReprG K) (tCons (tVar i) tNil)) tNil)) σ H Q := by
  obtain ⟨z1, z2, z3, z4⟩ := (okD_i h0 h1).1.elim (fun e => by cases e) id
  exact ⟨_, h, .int n, .int n, rfl, .int n, z1, z2, z3, z4, (show 2 ≤ 16777216 by decide), fun R hR => q R H (Same.refl _) hR⟩
theorem RowsAt.extP {p l r : Addr} {H H' : Hp} {W : List Lv} (hp : PoolAt H p l) (h : RowsAt H r W) (s : ExtP p l H H') (n1 : r ≠ p) (n2 : r ≠ l) : RowsAt H' r W := by
  obtain ⟨ts, ta, tb, tc⟩ := h
  refine ⟨ts, s _ _ n1 n2 ta fun ps z => (by cases z), tb, fun i t e => ?_⟩
  obtain ⟨o1, o2⟩ := hp.off (tc i t e) (.inl ⟨_, rfl⟩)
  exact s _ _ o1 o2 (tc i t e) fun ps z => by cases z
theorem VlAt.extP {p l r : Addr} {H H' : Hp} {B : Bk} (h : VlAt H r B) (s : ExtP p l H H') (n1 : r ≠ p) (n2 : r ≠ l) : VlAt H' r B := ⟨s _ _ n1 n2 h.at_ fun ps z => (by cases z), h.ok⟩
/-- a walk takes at most so long -/
theorem wl_most {W : List Lv} {B : Bk} (ok : WOk W) : ∀ (n : Nat) {sp : Spot} {tick mv : Int} {r : Res}, sp.lv < W.length → wl W B none n sp tick mv = some r → tick ≤ r.2.1 ∧ r.2.1 ≤ tick + 100000 * n
  | 0, _, _, _, _, _, h => by cases h
  | n + 1, sp, tick, mv, r, hl, h => by
    have hgt := va_step ok hl sp.pt tick
    unfold wl at h
    dsimp only at h
    split at h
    · obtain rfl := Option.some.inj h
      exact ⟨Int.le_refl _, by show tick ≤ _; omega⟩
    · split at h
      · cases h
      · obtain rfl := Option.some.inj h
        exact ⟨by show tick ≤ va (lv W sp.lv) sp.pt tick; omega, by show va (lv W sp.lv) sp.pt tick ≤ _; omega⟩
      · rename_i sp' hq
        obtain ⟨m1, m2, m3⟩ := mu_step ok hgt.1 hq
        have ih := wl_most ok n m2 h
        exact ⟨by omega, by omega⟩
/-- a timer fires, however far its delay reaches -/
theorem fin_within {W : List Lv} {B : Bk} (ok : WOk W) {now delay : Int} (hd : 0 ≤ delay) : now ≤ (fin W B now delay).1 ∧ (fin W B now delay).1 ≤ now + 100000 * (delay + 4) := by
  rw [← wfin_fin ok B hd]
  unfold wfin
  cases hp : placeM W B now delay with
  | none => exact ⟨Int.le_refl _, by show now ≤ now + 100000 * (delay + 4); omega⟩
  | some sp =>
    have hlt := placeM_lt ok hp
    have hre : 2 ≤ reach W := (ok.all (W.length - 1) (by have := ok.pos; omega)).2.2.2.2
    have hd' : now + 1 ≤ sp.due ∧ sp.due ≤ now + delay + 1 := by
      unfold placeM at hp
      split at hp
      · cases hp
      · obtain rfl := Option.some.inj hp
        rw [spotAt_due]
        have h1 : 1 ≤ (if 1 > delay then 1 else delay) ∧ (if 1 > delay then 1 else delay) ≤ delay + 1 := by split <;> omega
        generalize (if 1 > delay then 1 else delay) = r0 at *
        split
        · rename_i h2
          have := h2.1
          omega
        · omega
    obtain ⟨r, hr⟩ := wl_ends ok B none (mu sp now) sp now 0 hlt (Nat.le_refl _)
    dsimp only
    rw [hr]
    have hb := wl_most ok (mu sp now) hlt hr
    have hm : mu sp now ≤ 2 + (sp.due - now).toNat := by unfold mu; split <;> omega
    exact ⟨hb.1, by show r.2.1 ≤ _; omega⟩
theorem pl_none {s d : Int} {W : List Lv} {B : Bk} (h1 : 0 ≤ s) (h2 : 0 ≤ d) (h3 : ¬ (reach W ≤ d ∧ B.bey = 0)) : plOut (.int s) (.int d) true true W B = none := by
  unfold plOut
  have e1 : cntB (.int s) = true := decide_eq_true h1
  have e2 : cntB (.int d) = true := decide_eq_true h2
  rw [e1, e2, if_neg (by decide), if_neg (by decide)]
  exact if_neg h3
theorem repr_i {H : Hp} {n : Int} {Q : VK} (h0 : -(2 ^ 100) < n) (h1 : n < 2 ^ 100) (q : Q (.str (PyData.int n).shown) H) : rReprG K [.int n] H Q := by
  obtain ⟨z1, z2, z3, z4⟩ := (okD_i h0 h1).1.elim (fun e => by cases e) id
  exact ⟨.int n, .int n, rfl, .int n, z1, z2, z3, z4, q⟩
def sp_law (K : Frag) : Sp := fun vs H Q _ => ∃ (a : Addr) (ns : List Int), vs = [.ref a] ∧ SqL K H a (ns.map V.int) ∧ ns.length ≤ 63 ∧ H (tbA K (ga K "law")) = some (.tbl #[]) ∧ ∀ H', Q (.bl true) H'
def lawInv (K : Frag) (a p l : Addr) (i : Nat) (σ : L2.St) (H' : Hp) : Prop :=
  ∃ (v2 v3 v4 v5 v6 v7 v8 v9 v10 v11 : Option V), σ = [some (.ref a), some (.ref p), v2, v3, v4, v5, v6, v7, v8, v9, v10, v11] ∧ PoolAt H' p l ∧ Tabs (TL K) H'
def DlOk (xs : List Int) : Prop := ∀ x ∈ xs, 0 ≤ x ∧ x ≤ 1000000
def smI (a p r rv aw ab : Addr) (start : Int) (v2 v10 v11 : Option V) (H0 : Hp) (j : Nat) (σ : L2.St) (H' : Hp) : Prop :=
  ∃ (F : Addr) (xs : List Int) (v9 : Option V), σ = [some (.ref a), some (.ref p), v2, some (.ref r), some (.ref rv), some (.ref aw), some (.ref ab), some (.int start), some (.ref F), v9, v10, v11] ∧ Same H0 H' ∧ H' F = some (.lst (xs.map V.int)) ∧ DlOk xs ∧ xs.length ≤ 4 + 4 * j
def dlI (K : Frag) (a p r rv aw ab F : Addr) (start : Int) (v2 v9 v11 : Option V) (H0 : Hp) (σ : L2.St) (H' : Hp) : Prop :=
  ∃ (v10 : Option V), σ = [some (.ref a), some (.ref p), v2, some (.ref r), some (.ref rv), some (.ref aw), some (.ref ab), some (.int start), some (.ref F), v9, v10, v11] ∧ ExtN H0 H' ∧ Tabs (TL K) H'
def t_law (K : Frag) (w : World) : TS :=
  (tSeq (tAsg (tFn (sp__law_begin K) E0 (tCons (tVar 0) tNil)) (gName 1))
  (tSeq (tFor (iRng1 (tCons (tC (.int 6)) tNil)) (gName 2)
    (tSeq (tPar 3 4 (tCons (tFn (sp__law_draw_rows K) E0 (tCons (tVar 1) (tCons (tC (.int 24)) (tCons (tC (.int 6)) (tCons (tC (.int 3)) tNil))))) (tCons (tFn (sp__law_draw_values K) E0 (tCons (tVar 1) tNil)) tNil)))
  (tSeq (tAsg (tTup (tCons (tFn (sp__law_made_wheel K) E0 (tCons (tVar 3) tNil)) (tCons (tFn (sp__law_made_book K) E0 (tCons (tVar 4) tNil)) tNil))) (gTup K 2 (gCons (gName 5) (gCons (gName 6) gNil))))
  (tSeq (tAsg (tOp rIxLH (tLst (tCons (tFn (sp__law_draw K) E0 (tCons (tVar 1) (tCons (tC (.int 30)) tNil))) (tCons (tFn (sp__law_draw K) E0 (tCons (tVar 1) (tCons (tC (.int 600)) tNil))) (tCons (tFn (sp__law_draw K) E0 (tCons (tVar 1) (tCons (tOp oPow (tC (.int 10)) (tC (.int 30))) tNil))) tNil)))) (tFn (sp__law_draw K) E0 (tCons (tVar 1) (tCons (tC (.int 3)) tNil)))) (gName 7))
  (tSeq (tAsg (tLst (tCons (tC (.int 0)) (tCons (tC (.int 1)) (tCons (tOp oAdd (tOp rIxTH (tOp rIxLH (tVar 3) (tUn oNeg (tC (.int 1)))) (tC (.int 2))) (tFn (sp__law_draw K) E0 (tCons (tVar 1) (tCons (tOp rIxTH (tOp rIxLH (tVar 3) (tUn oNeg (tC (.int 1)))) (tC (.int 2))) tNil)))) (tCons (tFn (sp__law_draw K) E0 (tCons (tVar 1) (tCons (tOp rIxTH (tOp rIxLH (tVar 3) (tUn oNeg (tC (.int 1)))) (tC (.int 2))) tNil))) tNil))))) (gName 8))
  (tSeq (tFor (iList K (tVar 3)) (gName 9)
    (tAsg (tOp rCat (tVar 8) (tLst (tCons (tOp oSub (tOp rIxTH (tVar 9) (tC (.int 2))) (tC (.int 1))) (tCons (tOp rIxTH (tVar 9) (tC (.int 2))) (tCons (tOp rIxTH (tVar 9) (tC (.int 0))) (tCons (tOp oMul (tOp rIxTH (tVar 9) (tC (.int 0))) (tOp rIxTH (tVar 9) (tC (.int 1)))) tNil)))))) (gName 8)))
  (tSeq (tFor (iList K (tVar 8)) (gName 10)
    (tIfS (tTest (tOp (rEqD K) (tFn (sp__law_putF K) E0 (tCons (tVar 3) (tCons (tVar 4) (tCons (tVar 7) (tCons (tVar 10) tNil))))) (tC (.str "refused")))) (tIfS (tTest (tOp (rNeD K) (LamX.tLam [(tbA K (ga K "law"), (("law" : PySem.Str) ++ ".<locals>." ++ "<lambda>"))] (TCg K) (fun E => (tFn (sp_lateness K) E (tCons (tVar 5) (tCons (tVar 6) (tCons (tVar 7) (tCons (tVar 10) tNil))))))) (tLst (tCons (tC (.str "long")) (tCons (tCB (rReprG K) (tCons (tVar 10) tNil)) tNil))))) (tRet (tC (.bl false))) tNext) (tIfS (tTest (tOp rNe (tCB (rReprG K) (tCons (tFn (sp_lateness K) E0 (tCons (tVar 5) (tCons (tVar 6) (tCons (tVar 7) (tCons (tVar 10) tNil))))) tNil)) (tCB (rReprG K) (tCons (tFn (sp__law_lag K) E0 (tCons (tVar 3) (tCons (tVar 4) (tCons (tVar 7) (tCons (tVar 10) tNil))))) tNil)))) (tRet (tC (.bl false))) tNext)))
  (tSeq (tAsg (tFn (sp__law_bad_number K) E0 (tCons (tVar 1) tNil)) (gName 11))
  (tSeq (tIfS (tTest (tOp (rNeD K) (LamX.tLam [(tbA K (ga K "law"), (("law" : PySem.Str) ++ ".<locals>." ++ "<lambda>"))] (TCg K) (fun E => (tFn (sp_lateness K) E (tCons (tVar 5) (tCons (tVar 6) (tCons (tVar 11) (tCons (tVar 11) tNil))))))) (tLst (tCons (tC (.str "number")) (tCons (tCB (rReprE K) (tCons (tVar 11) tNil)) tNil))))) (tRet (tC (.bl false))) tNext)
  (tIfS (tTest (tOp (rNeD K) (LamX.tLam [(tbA K (ga K "law"), (("law" : PySem.Str) ++ ".<locals>." ++ "<lambda>"))] (TCg K) (fun E => (tFn (sp_lateness K) E (tCons (tVar 5) (tCons (tVar 6) (tCons (tVar 7) (tCons (tVar 11) tNil))))))) (tLst (tCons (tC (.str "number")) (tCons (tCB (rReprE K) (tCons (tVar 11) tNil)) tNil))))) (tRet (tC (.bl false))) tNext))))))))))
  (tRet (tC (.bl true)))))
def n_law : List Str := ["_law_script", "_law_pool", "_law_turn", "_law_rows", "_law_values", "_law_wheel", "_law_book", "_law_start", "_law_some", "_law_row", "_law_delay", "_law_odd"]
theorem rd_law (TO : KeG K "TooLong" "long" "delay") (TE : Ke K [("InvalidNumber", "number")]) (vs : List V) (H : Hp) (Q : VK) (E : XK) (h : sp_law K vs H Q E) : t_law K w { nx := fun _ H' => Q .non H', rt := Q } (L2.start n_law vs) H := by
  have kN : KeC K "InvalidNumber" "number" := TE ("InvalidNumber", "number") (by simp)
  obtain ⟨a, ns, rfl, ha, hl, hB1, q⟩ := h
  unfold t_law n_law tPar
  rw [seq1]
  walk_at "rsl"
  refine ⟨a, ns, rfl, ha, hl, fun p l H0 hp0 s0 => ?_⟩
  have hT0 : Tabs (TL K) H0 := fun q hq => by
    rw [List.mem_singleton.mp hq]
    exact TabS.nil (s0 _ _ hB1)
  try dsimp only
  rw [seq1]
  refine ⟨_, rfl, by decide, by decide, for_range (lawInv K a p l) ⟨_, _, _, _, _, _, _, _, _, _, rfl, hp0, hT0⟩ ?_ (fun σ H' _ => q H')⟩
  rintro i σ H1 hi ⟨v2, v3, v4, v5, v6, v7, v8, v9, v10, v11, rfl, hp1, hT1⟩
  rw [gName1]
  walk_at "st"
  refine ⟨p, l, 24, 6, 3, rfl, hp1, by decide, by decide, by decide, by decide, by decide, by decide, fun r W H2 s2 hp2 hr hR hRk hbd => ?_⟩
  refine ⟨p, l, rfl, hp2, fun rv B H3 s3 hp3 hrv hv hb3 => ?_⟩
  have apr := hp1.apart hr
  have apv := hp2.apart hrv
  have hR3 := RowsAt.sameP hp2 hR s3 apr.1 apr.2
  have hT3 : Tabs (TL K) H3 := Tabs.sameP hp2 s3 (Tabs.sameP hp1 s2 hT1)
  have hpos := hRk.ok.pos
  have hlen := hRk.ok.len
  have hall := hRk.ok.all (W.length - 1) (by omega)
  have hsm := hRk.small (i := W.length - 1) (by omega)
  have hre : reach W = (lv W (W.length - 1)).p := rfl
  have c30 : CPow 10 30 := ⟨by decide, by decide, by decide⟩
  have e30 : (10 : Int) ^ Int.toNat 30 = 1000000000000000000000000000000 := by decide
  walk_at "st"
  refine ⟨r, W, rfl, hR3, hRk, fun aw HA tA hW => ⟨rv, B, rfl, tA _ _ hv, hb3, fun ab HB tB hB => fun tp htp => ⟨_, SqT.of (updS _ _ _), rfl, _, _, rfl, _, _, rfl, rfl, ?_⟩⟩⟩
  have tC := (tA.trans tB).trans (Same.new (o := .tup [V.ref aw, .ref ab]) htp)
  have hWC := (hW.same tB).same (Same.new (o := .tup [V.ref aw, .ref ab]) htp)
  have hBC := hB.same (Same.new (o := .tup [V.ref aw, .ref ab]) htp)
  have hpC := hp3.same tC
  have hTC := Tabs.ext hT3 tC
  have hRC := hR3.same tC
  have hVC : VlAt (upd HB tp (.tup [V.ref aw, .ref ab])) rv B := ⟨tC _ _ hv, hb3⟩
  generalize upd HB tp (.tup [V.ref aw, .ref ab]) = HC at *
  clear hW hB tA tB tC htp hR3 hT3 hp3 hT1 hR s2 s3 hp1 hp2 hr hrv hv s0 hB1
  walk_at "st"
  refine draw (K := K) hpC (by decide) (by decide) fun x1 H4 s4 hp4 a1 b1 => draw (K := K) hp4 (by decide) (by decide) fun x2 H5 s5 hp5 a2 b2 => draw (K := K) hp5 (by decide) (by decide +kernel) fun x3 H6 s6 hp6 a3 b3 => fun L hL => ?_
  have apL := hp6.apart hL
  refine drawOf (xs := [x1, x2, x3]) (hp6.new hL) (updS _ _ _) (by decide) (by decide) rfl apL.1 apL.2 fun start H7 s7 hp7 hst => ?_
  have hst0 : 0 ≤ start ∧ start ≤ 1000000000000000000000000000000 := by
    simp only [List.mem_cons, List.not_mem_nil, or_false] at hst
    rcases hst with rfl | rfl | rfl <;> omega
  have s37 : SameP p l HC H7 := (((s4.trans s5).trans s6).step (Same.new hL)).trans s7
  have hT7 : Tabs (TL K) H7 := Tabs.sameP hpC s37 hTC
  have hR7 := RowsAt.sameP hpC hRC s37 apr.1 apr.2
  have hV7 : VlAt H7 rv B := hVC.extP (ExtP.ofP s37) apv.1 apv.2
  have hW7 := WhAt.sameP hpC s37 hWC
  have hB7 := BkAt.sameP hpC s37 hBC
  clear hst apL hL s4 s5 s6 s7 s37 hp4 hp5 hp6 hpC hTC hRC hVC hWC hBC a1 b1 a2 b2 a3 b3
  obtain ⟨xs, t, e1, e2, e3, e4⟩ := hR7.last hpos
  walk_at "st"
  clear e1 e2 e3 e4
  refine draw (K := K) hp7 (by omega) (log_small (by omega) (by omega)) fun y1 H8 s8 hp8 g1 g2 => ⟨y1, rfl, ?_⟩
  obtain ⟨xs8, t8, f1, f2, f3, f4⟩ := (RowsAt.sameP hp7 hR7 s8 apr.1 apr.2).last hpos
  refine ⟨_, f1, _, f3, _, rfl, _, f4, _, rfl, draw (K := K) hp8 (by omega) (log_small (by omega) (by omega)) fun y2 H9 s9 hp9 g3 g4 => fun F hF => ?_⟩
  have s79 := s8.trans s9
  have sF := Same.new (o := .lst [V.int 0, .int 1, .int ((lv W (W.length - 1)).p + y1), .int y2]) hF
  have F1 := updS H9 F (.lst [V.int 0, .int 1, .int ((lv W (W.length - 1)).p + y1), .int y2])
  have hpF := hp9.same sF
  have hTF := Tabs.ext (Tabs.sameP hp7 s79 hT7) sF
  have hRF := (RowsAt.sameP hp7 hR7 s79 apr.1 apr.2).same sF
  have hVF : VlAt (upd H9 F (.lst [V.int 0, .int 1, .int ((lv W (W.length - 1)).p + y1), .int y2])) rv B := (hV7.extP (ExtP.ofP s79) apv.1 apv.2).same sF
  have hWF := (WhAt.sameP hp7 s79 hW7).same sF
  have hBF := (BkAt.sameP hp7 s79 hB7).same sF
  generalize upd H9 F (.lst [V.int 0, .int 1, .int ((lv W (W.length - 1)).p + y1), .int y2]) = HF at *
  clear f1 f2 f3 f4 s8 s9 s79 sF hp7 hp8 hp9 hT7 hR7 hV7 hW7 hB7 hF
  try dsimp only
  refine seq_mid (smI a p r rv aw ab start (some (.int (0 + ↑i))) v10 v11 HF W.length) (fun R hR' => ?_) ?_
  · rw [forl_eq]
    walk_at "rsl"
    obtain ⟨ts, ta, tb, tc⟩ := hRF
    refine ⟨⟨_, SqL.of ta⟩, forL (xs := ts.map V.ref) (smI a p r rv aw ab start (some (.int (0 + ↑i))) v10 v11 HF) ⟨F, [0, 1, (lv W (W.length - 1)).p + y1, y2], _, rfl, Same.refl _, F1, ?_, show 4 ≤ 4 + 4 * 0 by omega⟩ (fun i σ H' ⟨_, _, _, _, s, _⟩ => SqL.of (s _ _ ta)) ?_ ?_⟩
    · intro x hx
      simp only [List.mem_cons, List.not_mem_nil, or_false] at hx
      rcases hx with rfl | rfl | rfl | rfl <;> omega
    · rintro j x σ H' hx ⟨F', xs', v9', rfl, s, hF', ok, len⟩
      rw [List.getElem?_map] at hx
      cases htj : ts[j]? with
      | none => rw [htj] at hx; cases hx
      | some t =>
        rw [htj] at hx
        obtain rfl := Option.some.inj hx
        have hjW : j < W.length := by
          have := (List.getElem?_eq_some_iff.mp htj).1
          omega
        have hal := hRk.ok.all j hjW
        have hsmj := hRk.small (i := j) hjW
        have ht : H' t = some (.tup [.int (lv W j).g, .int (lv W j).s, .int (lv W j).p]) := s _ _ (tc j t htj)
        have hgs : (lv W j).g * (lv W j).s ≤ 1000 * 100 := Int.mul_le_mul (by omega) (by omega) (by omega) (by omega)
        have hgs0 : 1 * 2 ≤ (lv W j).g * (lv W j).s := Int.mul_le_mul (by omega) (by omega) (by omega) (by omega)
        rw [gName1]
        walk_at "rsl"
        refine ⟨.inr ⟨by omega, by omega⟩, fun D hD => ?_⟩
        have sD := Same.new (o := .lst [V.int ((lv W j).p - 1), .int (lv W j).p, .int (lv W j).g, .int ((lv W j).g * (lv W j).s)]) hD
        have D1 := updS H' D (.lst [V.int ((lv W j).p - 1), .int (lv W j).p, .int (lv W j).g, .int ((lv W j).g * (lv W j).s)])
        generalize upd H' D (.lst [V.int ((lv W j).p - 1), .int (lv W j).p, .int (lv W j).g, .int ((lv W j).g * (lv W j).s)]) = HD at *
        refine ⟨F', D, _, _, rfl, rfl, sD _ _ hF', D1, ?_, fun C hC => ?_⟩
        · have h16 : sizeLine = 16777216 := rfl
          rw [List.length_map]
          show xs'.length + 4 ≤ sizeLine
          omega
        · refine ⟨C, xs' ++ [(lv W j).p - 1, (lv W j).p, (lv W j).g, (lv W j).g * (lv W j).s], _, rfl, s.trans (sD.trans (Same.new hC)), ?_, ?_, ?_⟩
          · rw [updS, List.map_append]
            rfl
          · intro x hx
            rcases List.mem_append.mp hx with hx | hx
            · exact ok x hx
            · simp only [List.mem_cons, List.not_mem_nil, or_false] at hx
              rcases hx with rfl | rfl | rfl | rfl <;> omega
          · rw [List.length_append]
            show xs'.length + 4 ≤ 4 + 4 * (j + 1)
            omega
    · rintro σ H' h
      rw [List.length_map, tb] at h
      exact hR' _ _ h
  rintro σ HG ⟨F', xs', v9', rfl, sG, hF', ok, len⟩
  have hpG := hpF.same sG
  have hTG := Tabs.ext hTF sG
  have hRG := hRF.same sG
  have hVG := hVF.same sG
  have hWG := hWF.same sG
  have hBG := hBF.same sG
  clear hpF hTF hRF hVF hWF hBF sG F1 len
  refine seq_mid (dlI K a p r rv aw ab F' start (some (.int (0 + ↑i))) v9' v11 HG) (fun R hR' => ?_) ?_
  · rw [forl_eq]
    walk_at "rsl"
    refine ⟨⟨_, SqL.of hF'⟩, forL (xs := xs'.map V.int) (fun _ => dlI K a p r rv aw ab F' start (some (.int (0 + ↑i))) v9' v11 HG) ⟨_, rfl, ExtN.refl _, hTG⟩ (fun i σ H' ⟨_, _, e, _⟩ => SqL.of (e _ _ hF' fun ps z => by cases z)) ?_ (fun σ H' h => hR' _ _ h)⟩
    rintro j x σ H' hx ⟨v10', rfl, e', hT'⟩
    rw [List.getElem?_map] at hx
    cases hxj : xs'[j]? with
    | none => rw [hxj] at hx; cases hx
    | some dl =>
      rw [hxj] at hx
      obtain rfl := Option.some.inj hx
      obtain ⟨d0, d1⟩ := ok dl (List.mem_of_getElem? hxj)
      have hR' := RowsAt.extP hpG hRG (ExtP.ofN e') apr.1 apr.2
      have hV' := hVG.extP (ExtP.ofN e') apv.1 apv.2
      have hW' := hWG.extN e'
      have hB' := hBG.extN e'
      rw [gName1]
      try dsimp only [List.set_cons_succ, List.set_cons_zero]
      refine ⟨_, rfl, _, rfl, _, rfl, _, rfl, r, rv, start, dl, rfl, W, B, hR', hRk, hV', d0, fun v H4 t4 hpu => ?_⟩
      have hT4 := Tabs.ext hT' t4
      have hW4 := hW'.same t4
      have hB4 := hB'.same t4
      have hR4 := hR'.same t4
      have hV4 := hV'.same t4
      try dsimp only
      rcases hpu with ⟨hl', hb', rfl⟩ | ⟨hnr, ho⟩
      · refine ⟨.str "refused", .str "refused", .str _, .str _, by decide +kernel, by decide +kernel, true, by decide +kernel, ?_⟩
        try dsimp only
        rw [if_pos rfl]
        refine caught_isG (x := .int dl) (d := .int dl) TO okLong hT4 (okD_i (by omega) (by omega)) (.at_ rfl) (fun H5 E5 Q5 e5 hE => ?_) (fun H5 Q5 e5 q5 => ?_) fun H5 e5 T5 => ?_
        · exact ⟨.ref aw, rfl, .ref ab, rfl, .int start, rfl, .int dl, rfl, lt_call (dx := .int start) (dy := .int dl) (hW4.extN e5) (hB4.extN e5) (.at_ rfl) (.at_ rfl) (pl_long (decide_eq_true hst0.1) (decide_eq_true d0) ⟨hl', hb'⟩) fun d hd => hE H5 d (Same.refl _) hd⟩
        · exact lit_int (i := 10) rfl (by omega) (by omega) q5
        · exact ⟨_, rfl, (e'.trans (Same.toN t4)).trans e5, T5⟩
      · have hne : ∃ d, Dp K H4 v d ∧ SeqAt.shaped d = true ∧ PyData.eqv d (.str "refused") = false := by
          cases hpl : placeM W B start dl with
          | none =>
            rw [hpl] at ho
            obtain rfl : v = .non := ho
            exact ⟨.none, .non, by decide, rfl⟩
          | some sp =>
            rw [hpl] at ho
            obtain ⟨q0, rfl, hq0⟩ := ho
            exact ⟨_, .tup (SqT.of hq0) (.cons (.int _) (.cons (.int _) (.cons (.int _) .nil))), rfl, rfl⟩
        obtain ⟨d, hd, hsh, heq⟩ := hne
        refine ⟨d, .str "refused", hd, .str _, hsh, by decide +kernel, false, by rw [heq], ?_⟩
        try dsimp only
        rw [if_neg Bool.noConfusion]
        have hfw := fin_within hRk.ok (B := B) (now := start) d0
        have hbd : -(2 ^ 100) < lagM W B start dl ∧ lagM W B start dl < 2 ^ 100 := by
          unfold lagM
          split <;> omega
        walk_at "rsl"
        refine ⟨aw, ab, .int start, .int dl, .int start, .int dl, W, B, rfl, hW4, hB4, .at_ rfl, .at_ rfl, fun c f v z => ?_, fun _ H5 t5 => repr_i hbd.1 hbd.2 ?_⟩
        · have z' : plOut (.int start) (.int dl) true true W B = some (c, f, v) := z
          rw [pl_none hst0.1 d0 hnr] at z'
          cases z'
        · refine ⟨r, rv, start, dl, rfl, W, B, hR4.same t5, hRk, hV4.same t5, d0, fun z e => hnr ⟨z, e⟩, fun H6 t6 => repr_i hbd.1 hbd.2 ?_⟩
          refine ⟨rfl, ?_⟩
          rw [if_neg (fun z => z rfl)]
          exact ⟨_, rfl, ((e'.trans (Same.toN t4)).trans (Same.toN t5)).trans (Same.toN t6), Tabs.ext (Tabs.ext hT4 t5) t6⟩
  rintro σ HH ⟨v10', rfl, eH, hTH⟩
  have hpH := hpG.extN eH
  have hWH := hWG.extN eH
  have hBH := hBG.extN eH
  clear hpG hTG hRG hVG hWG hBG eH hF' ok
  walk_at "st"
  refine ⟨p, l, rfl, hpH, fun od dd HI sI hpI ho hod => ?_⟩
  have hWI := WhAt.sameP hpH sI hWH
  have hBI := BkAt.sameP hpH sI hBH
  have hTI := Tabs.sameP hpH sI hTH
  try dsimp only
  rw [seq1]
  refine chk_late (i1 := 5) (i2 := 6) (i3 := 11) (i4 := 11) (i7 := 11) (a := aw) (b := ab) (x := od) (y := od) (v := od) (dx := dd) (dy := dd) (dv := dd) (W := W) (B := B) kN hTI rfl rfl rfl rfl rfl hWI hBI ho.1 ho.1 ho.1 hod.1 (pl_now hod.cnt) fun HJ eJ TJ => ?_
  try dsimp only
  refine chk_late (i1 := 5) (i2 := 6) (i3 := 7) (i4 := 11) (i7 := 11) (a := aw) (b := ab) (x := .int start) (y := od) (v := od) (dx := .int start) (dy := dd) (dv := dd) (W := W) (B := B) kN TJ rfl rfl rfl rfl rfl (hWI.extN eJ) (hBI.extN eJ) (.at_ rfl) (ho.1.extN eJ) (ho.1.extN eJ) hod.1 (pl_delay (decide_eq_true hst0.1) hod.cnt) fun HL eL TL1 => ?_
  exact ⟨_, _, _, _, _, _, _, _, _, _, rfl, (hpI.extN eJ).extN eL, TL1⟩
end
end Tw
/-! the defs as they stand -/
namespace Tw
open PySem PySem.Spec PyProof.Rows L2 He TwM Hd PySem.W LamX
section
variable {K : Frag} {w : World} {mg : PySem.Str → Option Value} {base : Heap}
theorem kf (T : Tx K mg w) : Kf K w where
  cL := cls_Level T
  cW := cls_Wheel T
  cB := cls_Book T
  nLg := na_Level_kept_grain T
  nLs := na_Level_kept_slots T
  nLp := na_Level_kept_span T
  nWl := na_Wheel_kept_levels T
  nBv := na_Book_kept_values T
  iL := isi_Level T
  kL := kit_Level T
  sw := tup_SWITCHES T
  vd := fun x hx => by
    obtain ⟨es, n, D⟩ := T.says.tab 0 rfl
    exact ⟨es, n, _, D.at_, D.lit, val_VALUES T x hx, rfl⟩
  v0 := tup_VALUES_rounding T
  v1 := tup_VALUES_action T
  v2 := tup_VALUES_order T
  v3 := tup_VALUES_due T
  v4 := tup_VALUES_zero T
  v5 := tup_VALUES_beyond T
theorem kvr (T : Tx K mg w) : Kvr K w where
  vd := by
    obtain ⟨es, n, D⟩ := T.says.tab 0 rfl
    exact ⟨es, n, _, D.at_, D.lit, val_VALUES T "rounding" (by decide), rfl⟩
  v0 := tup_VALUES_rounding T
theorem klv (T : Tx K mg w) : Klv K w := ⟨cls_Level T, na_Level_kept_grain T, na_Level_kept_slots T, na_Level_kept_span T, isi_Level T, kit_Level T⟩
theorem kl (T : Tx K mg w) : Kl K w := ⟨klv T, cls_Wheel T, na_Wheel_kept_levels T⟩
theorem okE_InvalidNumber {CX : CXT} (T : Tx K mg w) : ∃ fd, FnOk (PySem.Challenge.rw_timerwheels_k19_lateness).prog w K mg base CX 1 (ma K (ga K "InvalidNumber") "__init__") fd ["self", "value"] (sp_er K (ga K "InvalidNumber") "value") ∧ Binds K fd ["self", "value"] [] :=
  ok_err (er_InvalidNumber T) rfl (by decide +kernel) (ef_InvalidNumber T) (NdefX.nscope_by (by decide +kernel)) rfl rfl (by decide +kernel) (free_super T) (by decide +kernel) (by decide +kernel) (fun _ _ _ _ => rfl) (fun _ _ _ _ => rfl) (fun _ _ _ _ => rfl) (fun _ _ _ _ => ⟨_, rfl⟩)
    (fun _ _ _ _ _ _ _ us hl => match us, hl with | [_, _], _ => rfl)
theorem okE_TooLong {CX : CXT} (T : Tx K mg w) : ∃ fd, FnOk (PySem.Challenge.rw_timerwheels_k19_lateness).prog w K mg base CX 1 (ma K (ga K "TooLong") "__init__") fd ["self", "delay"] (sp_er K (ga K "TooLong") "delay") ∧ Binds K fd ["self", "delay"] [] :=
  ok_erG (er_TooLong T) rfl (by decide +kernel) (ef_TooLong T) (NdefX.nscope_by (by decide +kernel)) rfl rfl (by decide +kernel) (free_super T) (by decide +kernel) (by decide +kernel) (fun _ _ _ _ => rfl) (fun _ _ _ _ => rfl) (fun _ _ _ _ => rfl) (fun _ _ _ _ => ⟨_, rfl⟩)
    (fun _ _ _ _ _ _ _ us hl => match us, hl with | [_, _], _ => rfl)
def n__law_caught : List PySem.Str := ["_law_call", "e"]
theorem sc__law_caught : FnScope n__law_caught ["_law_call"] (defScope s__law_caught) := ⟨rfl, rfl, rfl, by decide +kernel, rfl, by decide +kernel, by decide +kernel⟩
theorem sc__law_kind : FnScope n__law_kind ["_law_error"] (defScope s__law_kind) := ⟨rfl, rfl, rfl, by decide +kernel, rfl, by decide +kernel, by decide +kernel⟩
theorem ln0__law_kind (p : Addr × Obj) (vs : List V) (H : Hp) (Q : VK) (E : XK) (h : sp__law_kind K p vs H Q E) : vs.length = 1 := by
  obtain ⟨_, _, _, _, rfl, _⟩ := h
  rfl
theorem okP__law_kind (T : Tx K mg w) : FnP (PySem.Challenge.rw_timerwheels_k19_lateness).prog w K mg base 3 (ga K "_law_kind") (sp__law_kind K) := by
  obtain ⟨fd, F⟩ := d__law_kind T
  exact fnP_of (k := 2) (N := n__law_kind) F sc__law_kind (F.bindsN fun _ _ _ _ _ _ us hl => match us, hl with | [_], _ => rfl) ln0__law_kind fun cdv A fs t H vs Q p hr _ h => by
    have hp : p ∈ [p] := List.mem_singleton.mpr rfl
    exact ⟨t__law_kind K p, (pss_cons (ps_set (i := 1) sc__law_kind.nd rfl (Or.inl rfl) (pe_lst (pa_cons (pe_callB (call_isP hp) (by rfl) (free_isinstance T) (by decide +kernel) (pa_cons (pv 0) (pa_cons (pe_glob rfl (glo_InvalidNumber T) rfl) pa_nil))) (pa_cons (pe_callB (call_isP hp) (by rfl) (free_isinstance T) (by decide +kernel) (pa_cons (pv 0) (pa_cons (pe_glob rfl (glo_InvalidText T) rfl) pa_nil))) (pa_cons (pe_callB (call_isP hp) (by rfl) (free_isinstance T) (by decide +kernel) (pa_cons (pv 0) (pa_cons (pe_glob rfl (glo_InvalidName T) rfl) pa_nil))) pa_nil)))))
  (pss_cons (ps_set (i := 1) sc__law_kind.nd rfl (Or.inl rfl) (pe_op op_cat (pv 1) (pe_lst (pa_cons (pe_callB (call_isP hp) (by rfl) (free_isinstance T) (by decide +kernel) (pa_cons (pv 0) (pa_cons (pe_glob rfl (glo_InvalidLevels T) rfl) pa_nil))) (pa_cons (pe_callB (call_isP hp) (by rfl) (free_isinstance T) (by decide +kernel) (pa_cons (pv 0) (pa_cons (pe_glob rfl (glo_InvalidSwitch T) rfl) pa_nil))) pa_nil)))))
  (pss_cons (ps_set (i := 1) sc__law_kind.nd rfl (Or.inl rfl) (pe_op op_cat (pv 1) (pe_lst (pa_cons (pe_callB (call_isP hp) (by rfl) (free_isinstance T) (by decide +kernel) (pa_cons (pv 0) (pa_cons (pe_glob rfl (glo_InvalidMode T) rfl) pa_nil))) (pa_cons (pe_callB (call_isP hp) (by rfl) (free_isinstance T) (by decide +kernel) (pa_cons (pv 0) (pa_cons (pe_glob rfl (glo_InvalidMenu T) rfl) pa_nil))) (pa_cons (pe_callB (call_isP hp) (by rfl) (free_isinstance T) (by decide +kernel) (pa_cons (pv 0) (pa_cons (pe_glob rfl (glo_InvalidPlan T) rfl) pa_nil))) pa_nil))))))
  (pss_cons (ps_set (i := 1) sc__law_kind.nd rfl (Or.inl rfl) (pe_op op_cat (pv 1) (pe_lst (pa_cons (pe_callB (call_isP hp) (by rfl) (free_isinstance T) (by decide +kernel) (pa_cons (pv 0) (pa_cons (pe_glob rfl (glo_InvalidCommand T) rfl) pa_nil))) (pa_cons (pe_callB (call_isP hp) (by rfl) (free_isinstance T) (by decide +kernel) (pa_cons (pv 0) (pa_cons (pe_glob rfl (glo_TooLong T) rfl) pa_nil))) (pa_cons (pe_callB (call_isP hp) (by rfl) (free_isinstance T) (by decide +kernel) (pa_cons (pv 0) (pa_cons (pe_glob rfl (glo_TooMany T) rfl) pa_nil))) pa_nil))))))
  (pss_cons (ps_set (i := 1) sc__law_kind.nd rfl (Or.inl rfl) (pe_op op_cat (pv 1) (pe_lst (pa_cons (pe_callB (call_isP hp) (by rfl) (free_isinstance T) (by decide +kernel) (pa_cons (pv 0) (pa_cons (pe_glob rfl (glo_NothingToUndo T) rfl) pa_nil))) pa_nil))))
  (pss_cons (ps_if (PW.pt (pw_or (pt_cmpR op_ne (pe_bm PySem.F.plainAttrs_list PySem.F.slot_list_count PySem.F.type_list_count mt_countF (pv 1) (pa_cons pe_bl pa_nil)) pe_int (nomark _)) (pw_or1 (pt_cmpR op_ne (pe_callB (call_isP hp) (by rfl) (free_isinstance T) (by decide +kernel) (pa_cons (pv 0) (pa_cons (pe_glob rfl (glo_WheelError T) rfl) pa_nil))) (pe_cmpR op_lt (pe_bm PySem.F.plainAttrs_list PySem.F.slot_list_index PySem.F.type_list_index mt_index (pv 1) (pa_cons pe_bl pa_nil)) pe_int (nomark _)) (nomark _))))) (pss_one (ps_ret pe_str)) pss_nil)
  (pss_cons (ps_set (i := 2) sc__law_kind.nd rfl (Or.inl rfl) (pe_lst (pa_cons pe_str (pa_cons pe_str (pa_cons pe_str (pa_cons pe_str (pa_cons pe_str (pa_cons pe_str (pa_cons pe_str (pa_cons pe_str (pa_cons pe_str (pa_cons pe_str (pa_cons pe_str (pa_cons pe_str pa_nil))))))))))))))
  (pss_one (ps_ret (pe_ix ix_lstH (pv 2) (pe_bm PySem.F.plainAttrs_list PySem.F.slot_list_index PySem.F.type_list_index mt_index (pv 1) (pa_cons pe_bl pa_nil)) (fun _ _ => rfl))))))))))), rd__law_kind vs H Q C8.E0 h⟩
theorem cg (T : Tx K mg w) {N : List PySem.Str} {qual : PySem.Str} {sc : Scope} {f : Addr} {cdv : Value} {A : Around} {fs : List Env} {t : Shared} {H : Hp} {E : XK}
    (hr : RmG 8 (cxOf C8.CX0 (PySem.Challenge.rw_timerwheels_k19_lateness).prog w K mg base N qual sc f cdv A fs t H E).nox.A) (q : PySem.Str) (cdg : Value) :
    GivesTo (cxOf C8.CX0 (PySem.Challenge.rw_timerwheels_k19_lateness).prog w K mg base N qual sc f cdv A fs t H E).nox n__law_caught "_law_caught" (defScope s__law_caught) (ga K "_law_caught") cdg (defBody s__law_caught) "_law_call" q (TCg K) :=
  caught_gives sc__law_caught.nd rfl (fun s H => .cons rfl rfl ⟨rfl, rfl, .inl (glo_WheelError T)⟩ (fun a oe cls d pn hz hf => pss_one (ps_ret (pe_lst (pa_cons (pe_kind (okP__law_kind T) ⟨by have := hr.rm.dp; show _ + 1 + 3 * 3 + 5 < _; omega, by have := hr.rm.un; show _ + 3 + 16 * 3 + 200 < _; omega⟩ hz hf rfl (glo__law_kind T) (d__law_kind T).choose_spec.kp (pa_cons (pe_var (i := 1) rfl (Or.inl rfl)) pa_nil))
      (pa_cons (pe_callB (call_reprE hr.gd (by have := hr.rm.un; show _ + 3 + 40 < _; omega)) (by rfl) (free_repr T) (by decide +kernel) (pa_cons (pe_xfA hz hf (pe_var (i := 1) rfl (Or.inl rfl))) pa_nil)) pa_nil)))))
    (.cons rfl rfl ⟨rfl, rfl, .inl (glo_TooLong T)⟩ (fun a oe cls d pn hz hf => pss_one (ps_ret (pe_lst (pa_cons (pe_kind (okP__law_kind T) ⟨by have := hr.rm.dp; show _ + 1 + 3 * 3 + 5 < _; omega, by have := hr.rm.un; show _ + 3 + 16 * 3 + 200 < _; omega⟩ hz hf rfl (glo__law_kind T) (d__law_kind T).choose_spec.kp (pa_cons (pe_var (i := 1) rfl (Or.inl rfl)) pa_nil))
      (pa_cons (pe_callB (call_reprE hr.gd (by have := hr.rm.un; show _ + 3 + 40 < _; omega)) (by rfl) (free_repr T) (by decide +kernel) (pa_cons (pe_xfA hz hf (pe_var (i := 1) rfl (Or.inl rfl))) pa_nil)) pa_nil))))) (.cons rfl rfl ⟨rfl, rfl, .inl (glo_TooMany T)⟩ (fun a oe cls d pn hz hf => pss_one (ps_ret (pe_lst (pa_cons (pe_kind (okP__law_kind T) ⟨by have := hr.rm.dp; show _ + 1 + 3 * 3 + 5 < _; omega, by have := hr.rm.un; show _ + 3 + 16 * 3 + 200 < _; omega⟩ hz hf rfl (glo__law_kind T) (d__law_kind T).choose_spec.kp (pa_cons (pe_var (i := 1) rfl (Or.inl rfl)) pa_nil))
      (pa_cons (pe_callB (call_reprE hr.gd (by have := hr.rm.un; show _ + 3 + 40 < _; omega)) (by rfl) (free_repr T) (by decide +kernel) (pa_cons (pe_xfA hz hf (pe_var (i := 1) rfl (Or.inl rfl))) pa_nil)) pa_nil))))) (.cons rfl rfl ⟨rfl, rfl, .inl (glo_NothingToUndo T)⟩ (fun _ _ _ _ _ _ _ => pss_off) .nil))))
    (fun s H => pss_one (ps_ret pe_non)) (fun f => rfl)
theorem kec_InvalidNumber (T : Tx K mg w) : KeC K "InvalidNumber" "number" := kec_of (er_InvalidNumber T) (kn_InvalidNumber T) (by decide +kernel)
theorem keg_TooLong (T : Tx K mg w) : KeG K "TooLong" "long" "delay" := Tw.keg_long (er_TooLong T) (kn_TooLong T)
structure TBs (K : Frag) (mg : PySem.Str → Option Value) (base : Heap) : Prop where
  law : TabB base mg (codA K (ga K "law")) (tbA K (ga K "law"))
theorem sc__law_begin : FnScope n__law_begin ["_law_script"] (defScope s__law_begin) := ⟨rfl, rfl, rfl, by decide +kernel, rfl, by decide +kernel, by decide +kernel⟩
theorem ln0__law_begin (vs : List V) (H : Hp) (Q : VK) (E : XK) (h : sp__law_begin K vs H Q E) : vs.length = 1 := by
  unfold sp__law_begin at h
  repeat (first | (exact (congrArg List.length h.1).trans rfl) | (obtain ⟨_, h⟩ := h))
theorem okk__law_begin (T : Tx K mg w) : FnOk (PySem.Challenge.rw_timerwheels_k19_lateness).prog w K mg base CX0 2 (ga K "_law_begin") (d__law_begin T).choose ["_law_script"] (sp__law_begin K) :=
  FunD.ok (k := 1) (N := n__law_begin) (d__law_begin T).choose_spec sc__law_begin ln0__law_begin fun cdv A outer s H vs Q E hr h => ⟨t__law_begin K w, PSs.nox (pss_cons (ps_set (i := 1) sc__law_begin.nd rfl (Or.inl rfl) pe_int)
  (pss_cons (ps_for PassesOwn.never rfl (pi_list (pe_slice sl_list (pv 0) po_none (po_some pe_int))) (pg_name (i := 2) sc__law_begin.nd rfl (Or.inl rfl))
    (pss_one (ps_set (i := 1) sc__law_begin.nd rfl (Or.inl rfl) (pe_op op_mod (pe_op op_add (pe_op op_add (pe_op op_mul (pv 1) pe_int) (pe_op op_mod (pe_callTy call_int1 (by rfl) (free_int T) (by decide +kernel) (pa_cons (pv 2) pa_nil)) pe_int)) pe_int) pe_int))))
  (pss_one (ps_ret (pe_lst (pa_cons (pe_lc (own := [("_law_cell", 2)]) (g := (gName 2)) (tt := tYes) rfl sc__law_begin.nd (pi_list (pv 0)) (blkOk_by (own := [("_law_cell", 2)]) (N := ["_law_script", "_law_seed", "_law_cell"]) (sc := defScope s__law_begin) (by decide +kernel)) (fun _ _ _ _ _ => (pg_name (i := 2) sc__law_begin.nd rfl (Or.inl rfl))) (fun _ _ _ _ _ => pts_nil) (fun _ _ _ _ _ => (pe_callB call_abs (by rfl) (free_abs T) (by decide +kernel) (pa_cons (pe_callTy call_int1 (by rfl) (free_int T) (by decide +kernel) (pa_cons (pv 2) pa_nil)) pa_nil)))) (pa_cons pe_int (pa_cons pe_int (pa_cons (pv 1) (pa_cons pe_int pa_nil)))))))))), rd__law_begin vs H Q E h⟩
theorem ok__law_begin (T : Tx K mg w) : FnR (PySem.Challenge.rw_timerwheels_k19_lateness).prog w K mg base CX0 2 (ga K "_law_begin") (sp__law_begin K) :=
  fnR_of (okk__law_begin T) ((d__law_begin T).choose_spec.bindsN fun _ _ _ _ _ _ us hl => match us, hl with | [_], _ => rfl)
theorem kp__law_begin (T : Tx K mg w) : keepIn K (.ref (ga K "_law_begin")) = true := (d__law_begin T).choose_spec.kp
theorem sc__law_mixed : FnScope n__law_mixed ["_law_pool", "_law_many"] (defScope s__law_mixed) := ⟨rfl, rfl, rfl, by decide +kernel, rfl, by decide +kernel, by decide +kernel⟩
theorem ln0__law_mixed (vs : List V) (H : Hp) (Q : VK) (E : XK) (h : sp__law_mixed K vs H Q E) : vs.length = 2 := by
  unfold sp__law_mixed at h
  repeat (first | (exact (congrArg List.length h.1).trans rfl) | (obtain ⟨_, h⟩ := h))
theorem okk__law_mixed (T : Tx K mg w) : FnOk (PySem.Challenge.rw_timerwheels_k19_lateness).prog w K mg base CX0 2 (ga K "_law_mixed") (d__law_mixed T).choose ["_law_pool", "_law_many"] (sp__law_mixed K) :=
  FunD.ok (k := 1) (N := n__law_mixed) (d__law_mixed T).choose_spec sc__law_mixed ln0__law_mixed fun cdv A outer s H vs Q E hr h => ⟨t__law_mixed K w, PSs.nox (pss_cons (ps_asg (pe_op op_add (pe_ix ix_lstH (pv 0) pe_int (fun _ _ => rfl)) pe_int) (pg_sub (pv 0) pe_int set_list))
  (pss_cons (ps_set (i := 2) sc__law_mixed.nd rfl (Or.inl rfl) (pe_ix ix_lstH (pv 0) pe_int (fun _ _ => rfl)))
  (pss_cons (ps_for PassesOwn.never rfl (pi_range1 rfl (free_range T) (pa_cons (pe_op op_add pe_int (pe_op op_fdiv (pe_callB call_len_str (by rfl) (free_len T) (by decide +kernel) (pa_cons (pe_callTy call_str_int (by rfl) (free_str T) (by decide +kernel) (pa_cons (pv 1) pa_nil)) pa_nil)) pe_int)) pa_nil)) (pg_name (i := 3) sc__law_mixed.nd rfl (Or.inl rfl))
    (pss_cons (ps_asg (pe_op op_mod (pe_op op_add (pe_op op_add (pe_op op_mul (pe_ix ix_lstH (pv 0) pe_int (fun _ _ => rfl)) pe_int) (pe_op op_mul (pe_ix ix_lstH (pv 0) pe_int (fun _ _ => rfl)) pe_int)) pe_int) pe_int) (pg_sub (pv 0) pe_int set_list))
  (pss_one (ps_set (i := 2) sc__law_mixed.nd rfl (Or.inl rfl) (pe_op op_add (pe_op op_mul (pv 2) pe_int) (pe_op op_fdiv (pe_ix ix_lstH (pv 0) pe_int (fun _ _ => rfl)) pe_int))))))
  (pss_one (ps_ret (pe_op op_mod (pv 2) (pv 1))))))), rd__law_mixed vs H Q E h⟩
theorem ok__law_mixed (T : Tx K mg w) : FnR (PySem.Challenge.rw_timerwheels_k19_lateness).prog w K mg base CX0 2 (ga K "_law_mixed") (sp__law_mixed K) :=
  fnR_of (okk__law_mixed T) ((d__law_mixed T).choose_spec.bindsN fun _ _ _ _ _ _ us hl => match us, hl with | [_, _], _ => rfl)
theorem kp__law_mixed (T : Tx K mg w) : keepIn K (.ref (ga K "_law_mixed")) = true := (d__law_mixed T).choose_spec.kp
theorem sc__law_draw : FnScope n__law_draw ["_law_pool", "_law_many"] (defScope s__law_draw) := ⟨rfl, rfl, rfl, by decide +kernel, rfl, by decide +kernel, by decide +kernel⟩
theorem ln0__law_draw (vs : List V) (H : Hp) (Q : VK) (E : XK) (h : sp__law_draw K vs H Q E) : vs.length = 2 := by
  unfold sp__law_draw at h
  repeat (first | (exact (congrArg List.length h.1).trans rfl) | (obtain ⟨_, h⟩ := h))
theorem okk__law_draw (T : Tx K mg w) : FnOk (PySem.Challenge.rw_timerwheels_k19_lateness).prog w K mg base CX0 4 (ga K "_law_draw") (d__law_draw T).choose ["_law_pool", "_law_many"] (sp__law_draw K) :=
  FunD.ok (k := 3) (N := n__law_draw) (d__law_draw T).choose_spec sc__law_draw ln0__law_draw fun cdv A outer s H vs Q E hr h => ⟨t__law_draw K w, PSs.nox (pss_cons (ps_if (PW.pt (pw_or (pt_cmpR op_ge (pe_ix ix_lstH (pv 0) pe_int (fun _ _ => rfl)) (pe_callB call_lenL (by rfl) (free_len T) (by decide +kernel) (pa_cons (pe_ix ix_lstH (pv 0) pe_int (fun _ _ => rfl)) pa_nil)) (nomark _)) (pw_or1 (pt_cmpR op_eq (pv 1) pe_int (nomark _))))) (pss_one (ps_ret (pe_ifExp (pt_cmpR op_gt (pv 1) pe_int (nomark _)) (pe_fn (ok__law_mixed T) (hr.mono (by decide)) rfl (glo__law_mixed T) (kp__law_mixed T) pass0 (pa_cons (pv 0) (pa_cons (pv 1) pa_nil))) pe_int))) pss_nil)
  (pss_cons (ps_if (pt_cmpR op_lt (pe_ix ix_lstH (pe_ix ix_lstH (pv 0) pe_int (fun _ _ => rfl)) (pe_ix ix_lstH (pv 0) pe_int (fun _ _ => rfl)) (fun _ _ => rfl)) (pe_op op_pow pe_int pe_int) (nomark _)) (pss_cons (ps_asg (pe_op op_mod (pe_op op_add (pe_op op_add (pe_op op_add (pe_op op_mul (pe_ix ix_lstH (pv 0) pe_int (fun _ _ => rfl)) pe_int) (pe_ix ix_lstH (pe_ix ix_lstH (pv 0) pe_int (fun _ _ => rfl)) (pe_ix ix_lstH (pv 0) pe_int (fun _ _ => rfl)) (fun _ _ => rfl))) (pe_ix ix_lstH (pv 0) pe_int (fun _ _ => rfl))) pe_int) pe_int) (pg_sub (pv 0) pe_int set_list))
  (pss_cons (ps_asg (pe_op op_add (pe_ix ix_lstH (pv 0) pe_int (fun _ _ => rfl)) pe_int) (pg_sub (pv 0) pe_int set_list))
  (pss_cons (ps_if (pt_cmpR op_eq (pe_op op_mod (pe_ix ix_lstH (pv 0) pe_int (fun _ _ => rfl)) pe_int) pe_int (nomark _)) (pss_one (ps_asg (pe_op op_add (pe_ix ix_lstH (pv 0) pe_int (fun _ _ => rfl)) pe_int) (pg_sub (pv 0) pe_int set_list))) pss_nil)
  (pss_one (ps_ret (pe_fn (ok__law_mixed T) (hr.mono (by decide)) rfl (glo__law_mixed T) (kp__law_mixed T) pass0 (pa_cons (pv 0) (pa_cons (pv 1) pa_nil)))))))) pss_nil)
  (pss_cons (ps_set (i := 2) sc__law_draw.nd rfl (Or.inl rfl) (pe_op op_mod (pe_ix ix_lstH (pe_ix ix_lstH (pv 0) pe_int (fun _ _ => rfl)) (pe_ix ix_lstH (pv 0) pe_int (fun _ _ => rfl)) (fun _ _ => rfl)) (pv 1)))
  (pss_cons (ps_asg (pe_op op_fdivW (pe_ix ix_lstH (pe_ix ix_lstH (pv 0) pe_int (fun _ _ => rfl)) (pe_ix ix_lstH (pv 0) pe_int (fun _ _ => rfl)) (fun _ _ => rfl)) (pv 1)) (pg_sub (pe_ix ix_lstH (pv 0) pe_int (fun _ _ => rfl)) (pe_ix ix_lstH (pv 0) pe_int (fun _ _ => rfl)) set_list))
  (pss_cons (ps_if (pt_cmpR op_eq (pe_ix ix_lstH (pe_ix ix_lstH (pv 0) pe_int (fun _ _ => rfl)) (pe_ix ix_lstH (pv 0) pe_int (fun _ _ => rfl)) (fun _ _ => rfl)) pe_int (nomark _)) (pss_one (ps_asg (pe_op op_add (pe_ix ix_lstH (pv 0) pe_int (fun _ _ => rfl)) pe_int) (pg_sub (pv 0) pe_int set_list))) pss_nil)
  (pss_one (ps_ret (pv 2)))))))), rd__law_draw vs H Q E h⟩
theorem ok__law_draw (T : Tx K mg w) : FnR (PySem.Challenge.rw_timerwheels_k19_lateness).prog w K mg base CX0 4 (ga K "_law_draw") (sp__law_draw K) :=
  fnR_of (okk__law_draw T) ((d__law_draw T).choose_spec.bindsN fun _ _ _ _ _ _ us hl => match us, hl with | [_, _], _ => rfl)
theorem kp__law_draw (T : Tx K mg w) : keepIn K (.ref (ga K "_law_draw")) = true := (d__law_draw T).choose_spec.kp
theorem sc__law_span : FnScope n__law_span ["_law_pool", "_law_grain", "_law_slots", "_law_low"] (defScope s__law_span) := ⟨rfl, rfl, rfl, by decide +kernel, rfl, by decide +kernel, by decide +kernel⟩
theorem ln0__law_span (vs : List V) (H : Hp) (Q : VK) (E : XK) (h : sp__law_span K vs H Q E) : vs.length = 4 := by
  unfold sp__law_span at h
  repeat (first | (exact (congrArg List.length h.1).trans rfl) | (obtain ⟨_, h⟩ := h))
theorem okk__law_span (T : Tx K mg w) : FnOk (PySem.Challenge.rw_timerwheels_k19_lateness).prog w K mg base CX0 6 (ga K "_law_span") (d__law_span T).choose ["_law_pool", "_law_grain", "_law_slots", "_law_low"] (sp__law_span K) :=
  FunD.ok (k := 5) (N := n__law_span) (d__law_span T).choose_spec sc__law_span ln0__law_span fun cdv A outer s H vs Q E hr h => ⟨t__law_span K w, PSs.nox (pss_cons (ps_set (i := 4) sc__law_span.nd rfl (Or.inl rfl) (pe_op op_mul (pv 2) (pv 1)))
  (pss_cons (ps_set (i := 5) sc__law_span.nd rfl (Or.inl rfl) (pe_lst (pa_cons (pv 4) (pa_cons (pv 4) (pa_cons (pe_op op_add (pv 4) pe_int) (pa_cons (pe_op op_sub (pv 4) pe_int) (pa_cons (pe_op op_add (pe_op op_sub (pv 4) (pv 1)) pe_int) (pa_cons (pe_op op_add (pe_op op_sub (pv 4) (pv 1)) pe_int) (pa_cons (pe_op op_add (pe_op op_sub (pv 4) (pv 1)) pe_int) (pa_cons (pe_op op_mul pe_int (pv 4)) (pa_cons (pe_op op_add (pv 3) pe_int) pa_nil)))))))))))
  (pss_cons (ps_set (i := 5) sc__law_span.nd rfl (Or.inl rfl) (pe_op op_cat (pv 5) (pe_lst (pa_cons (pe_op op_add (pv 3) (pv 1)) (pa_cons (pe_op op_add (pe_op op_add (pv 3) pe_int) (pe_fn (ok__law_draw T) (hr.mono (by decide)) rfl (glo__law_draw T) (kp__law_draw T) pass0 (pa_cons (pv 0) (pa_cons (pe_op op_mul pe_int (pv 4)) pa_nil)))) pa_nil)))))
  (pss_cons (ps_set (i := 6) sc__law_span.nd rfl (Or.inl rfl) (pe_ix ix_lstH (pv 5) (pe_fn (ok__law_draw T) (hr.mono (by decide)) rfl (glo__law_draw T) (kp__law_draw T) pass0 (pa_cons (pv 0) (pa_cons pe_int pa_nil))) (fun _ _ => rfl)))
  (pss_one (ps_ret (pe_callB (call_max3Nu rfl) (by rfl) (free_max T) (by decide +kernel) (pa_cons (pe_callTy call_int1 (by rfl) (free_int T) (by decide +kernel) (pa_cons (pe_op op_add (pv 3) pe_int) pa_nil)) (pa_cons (pe_callTy call_int1 (by rfl) (free_int T) (by decide +kernel) (pa_cons (pe_callB (call_min2 rfl) (by rfl) (free_min T) (by decide +kernel) (pa_cons (pe_callTy call_int1 (by rfl) (free_int T) (by decide +kernel) (pa_cons (pe_op op_mul pe_int (pv 4)) pa_nil)) (pa_cons (pe_callTy call_int1 (by rfl) (free_int T) (by decide +kernel) (pa_cons (pv 6) pa_nil)) pa_nil))) pa_nil)) (pa_cons pe_int pa_nil)))))))))), rd__law_span vs H Q E h⟩
theorem ok__law_span (T : Tx K mg w) : FnR (PySem.Challenge.rw_timerwheels_k19_lateness).prog w K mg base CX0 6 (ga K "_law_span") (sp__law_span K) :=
  fnR_of (okk__law_span T) ((d__law_span T).choose_spec.bindsN fun _ _ _ _ _ _ us hl => match us, hl with | [_, _, _, _], _ => rfl)
theorem kp__law_span (T : Tx K mg w) : keepIn K (.ref (ga K "_law_span")) = true := (d__law_span T).choose_spec.kp
theorem sc__law_draw_rows : FnScope n__law_draw_rows ["_law_pool", "_law_most_grain", "_law_most_slots", "_law_most_levels"] (defScope s__law_draw_rows) := ⟨rfl, rfl, rfl, by decide +kernel, rfl, by decide +kernel, by decide +kernel⟩
theorem ln0__law_draw_rows (vs : List V) (H : Hp) (Q : VK) (E : XK) (h : sp__law_draw_rows K vs H Q E) : vs.length = 4 := by
  unfold sp__law_draw_rows at h
  repeat (first | (exact (congrArg List.length h.1).trans rfl) | (obtain ⟨_, h⟩ := h))
theorem okk__law_draw_rows (T : Tx K mg w) : FnOk (PySem.Challenge.rw_timerwheels_k19_lateness).prog w K mg base CX0 8 (ga K "_law_draw_rows") (d__law_draw_rows T).choose ["_law_pool", "_law_most_grain", "_law_most_slots", "_law_most_levels"] (sp__law_draw_rows K) :=
  FunD.ok (k := 7) (N := n__law_draw_rows) (d__law_draw_rows T).choose_spec sc__law_draw_rows ln0__law_draw_rows fun cdv A outer s H vs Q E hr h => ⟨t__law_draw_rows K w, PSs.nox (pss_cons (ps_par3 (i := 4) (j := 5) (l := 6) rfl sc__law_draw_rows.nd rfl rfl rfl (by decide) (by decide) (by decide) rfl rfl rfl (pa_cons (pe_lst pa_nil) (pa_cons pe_int (pa_cons pe_int pa_nil))) (by rfl))
  (pss_cons (ps_for PassesOwn.never rfl (pi_range1 rfl (free_range T) (pa_cons (pe_op op_add pe_int (pe_fn (ok__law_draw T) (hr.mono (by decide)) rfl (glo__law_draw T) (kp__law_draw T) pass0 (pa_cons (pv 0) (pa_cons (pv 3) pa_nil)))) pa_nil)) (pg_name (i := 7) sc__law_draw_rows.nd rfl (Or.inl rfl))
    (pss_cons (ps_if (pt_cmpR op_gt (pv 7) pe_int (nomark _)) (pss_one (ps_set (i := 5) sc__law_draw_rows.nd rfl (Or.inl rfl) (pe_op op_mul (pv 5) (pe_ix ix_lstH (pe_lst (pa_cons pe_int (pa_cons pe_int (pa_cons pe_int (pa_cons pe_int (pa_cons pe_int (pa_cons pe_int (pa_cons pe_int (pa_cons pe_int pa_nil))))))))) (pe_fn (ok__law_draw T) (hr.mono (by decide)) rfl (glo__law_draw T) (kp__law_draw T) pass0 (pa_cons (pv 0) (pa_cons pe_int pa_nil))) (fun _ _ => rfl))))) pss_nil)
  (pss_cons (ps_set (i := 8) sc__law_draw_rows.nd rfl (Or.inl rfl) (pe_op op_add pe_int (pe_fn (ok__law_draw T) (hr.mono (by decide)) rfl (glo__law_draw T) (kp__law_draw T) pass0 (pa_cons (pv 0) (pa_cons (pe_op op_sub (pv 2) pe_int) pa_nil)))))
  (pss_cons (ps_if (PW.pt (pw_or (pt_cmpR op_gt (pv 5) (pv 1) (nomark _)) (pw_or1 (pt_cmpR op_gt (pe_op op_add (pv 6) pe_int) (pe_op op_mul (pe_op op_mul pe_int (pv 8)) (pv 5)) (nomark _))))) (pss_one (ps_ret (pv 4))) pss_nil)
  (pss_cons (ps_set (i := 6) sc__law_draw_rows.nd rfl (Or.inl rfl) (pe_fn (ok__law_span T) (hr.mono (by decide)) rfl (glo__law_span T) (kp__law_span T) pass0 (pa_cons (pv 0) (pa_cons (pv 5) (pa_cons (pv 8) (pa_cons (pv 6) pa_nil))))))
  (pss_one (ps_expr (pe_bm PySem.F.plainAttrs_list PySem.F.slot_list_append PySem.F.type_list_append mt_append (pv 4) (pa_cons (pe_tup (pa_cons (pv 5) (pa_cons (pv 8) (pa_cons (pv 6) pa_nil)))) pa_nil)))))))))
  (pss_one (ps_ret (pv 4))))), rd__law_draw_rows vs H Q E h⟩
theorem ok__law_draw_rows (T : Tx K mg w) : FnR (PySem.Challenge.rw_timerwheels_k19_lateness).prog w K mg base CX0 8 (ga K "_law_draw_rows") (sp__law_draw_rows K) :=
  fnR_of (okk__law_draw_rows T) ((d__law_draw_rows T).choose_spec.bindsN fun _ _ _ _ _ _ us hl => match us, hl with | [_, _, _, _], _ => rfl)
theorem kp__law_draw_rows (T : Tx K mg w) : keepIn K (.ref (ga K "_law_draw_rows")) = true := (d__law_draw_rows T).choose_spec.kp
theorem sc__law_draw_values : FnScope n__law_draw_values ["_law_pool"] (defScope s__law_draw_values) := ⟨rfl, rfl, rfl, by decide +kernel, rfl, by decide +kernel, by decide +kernel⟩
theorem ln0__law_draw_values (vs : List V) (H : Hp) (Q : VK) (E : XK) (h : sp__law_draw_values K vs H Q E) : vs.length = 1 := by
  unfold sp__law_draw_values at h
  repeat (first | (exact (congrArg List.length h.1).trans rfl) | (obtain ⟨_, h⟩ := h))
theorem okk__law_draw_values (T : Tx K mg w) : FnOk (PySem.Challenge.rw_timerwheels_k19_lateness).prog w K mg base CX0 6 (ga K "_law_draw_values") (d__law_draw_values T).choose ["_law_pool"] (sp__law_draw_values K) :=
  FunD.ok (k := 5) (N := n__law_draw_values) (d__law_draw_values T).choose_spec sc__law_draw_values ln0__law_draw_values fun cdv A outer s H vs Q E hr h => ⟨t__law_draw_values K w, PSs.nox (pss_cons (ps_set (i := 1) sc__law_draw_values.nd rfl (Or.inl rfl) (pe_lst (pa_cons (pe_ix ix_lstH (pe_lst (pa_cons pe_str (pa_cons pe_str pa_nil))) (pe_fn (ok__law_draw T) (hr.mono (by decide)) rfl (glo__law_draw T) (kp__law_draw T) pass0 (pa_cons (pv 0) (pa_cons pe_int pa_nil))) (fun _ _ => rfl)) (pa_cons (pe_ix ix_lstH (pe_lst (pa_cons pe_str (pa_cons pe_str (pa_cons pe_str pa_nil)))) (pe_fn (ok__law_draw T) (hr.mono (by decide)) rfl (glo__law_draw T) (kp__law_draw T) pass0 (pa_cons (pv 0) (pa_cons pe_int pa_nil))) (fun _ _ => rfl)) pa_nil))))
  (pss_cons (ps_set (i := 1) sc__law_draw_values.nd rfl (Or.inl rfl) (pe_op op_cat (pv 1) (pe_lst (pa_cons (pe_ix ix_lstH (pe_lst (pa_cons pe_str (pa_cons pe_str pa_nil))) (pe_fn (ok__law_draw T) (hr.mono (by decide)) rfl (glo__law_draw T) (kp__law_draw T) pass0 (pa_cons (pv 0) (pa_cons pe_int pa_nil))) (fun _ _ => rfl)) (pa_cons (pe_ix ix_lstH (pe_lst (pa_cons pe_str (pa_cons pe_str pa_nil))) (pe_fn (ok__law_draw T) (hr.mono (by decide)) rfl (glo__law_draw T) (kp__law_draw T) pass0 (pa_cons (pv 0) (pa_cons pe_int pa_nil))) (fun _ _ => rfl)) pa_nil)))))
  (pss_one (ps_ret (pe_op op_cat (pv 1) (pe_lst (pa_cons (pe_ix ix_lstH (pe_lst (pa_cons pe_str (pa_cons pe_str pa_nil))) (pe_fn (ok__law_draw T) (hr.mono (by decide)) rfl (glo__law_draw T) (kp__law_draw T) pass0 (pa_cons (pv 0) (pa_cons pe_int pa_nil))) (fun _ _ => rfl)) (pa_cons (pe_ix ix_lstH (pe_lst (pa_cons pe_str (pa_cons pe_str (pa_cons pe_str pa_nil)))) (pe_fn (ok__law_draw T) (hr.mono (by decide)) rfl (glo__law_draw T) (kp__law_draw T) pass0 (pa_cons (pv 0) (pa_cons pe_int pa_nil))) (fun _ _ => rfl)) pa_nil)))))))), rd__law_draw_values vs H Q E h⟩
theorem ok__law_draw_values (T : Tx K mg w) : FnR (PySem.Challenge.rw_timerwheels_k19_lateness).prog w K mg base CX0 6 (ga K "_law_draw_values") (sp__law_draw_values K) :=
  fnR_of (okk__law_draw_values T) ((d__law_draw_values T).choose_spec.bindsN fun _ _ _ _ _ _ us hl => match us, hl with | [_], _ => rfl)
theorem kp__law_draw_values (T : Tx K mg w) : keepIn K (.ref (ga K "_law_draw_values")) = true := (d__law_draw_values T).choose_spec.kp
theorem sc_Level_grain : FnScope n_Level_grain ["self"] (defScope s_Level_grain) := ⟨rfl, rfl, rfl, by decide +kernel, rfl, by decide +kernel, by decide +kernel⟩
theorem ln0_Level_grain (vs : List V) (H : Hp) (Q : VK) (E : XK) (h : sp_Level_grain K vs H Q E) : vs.length = 1 := by
  unfold sp_Level_grain at h
  repeat (first | (exact (congrArg List.length h.1).trans rfl) | (obtain ⟨_, h⟩ := h))
theorem okk_Level_grain (T : Tx K mg w) : FnOk (PySem.Challenge.rw_timerwheels_k19_lateness).prog w K mg base CX0 2 (pa K (ga K "Level") "grain") (d_Level_grain T).choose ["self"] (sp_Level_grain K) :=
  FunD.ok (k := 1) (N := n_Level_grain) (d_Level_grain T).choose_spec sc_Level_grain ln0_Level_grain fun cdv A outer s H vs Q E hr h => ⟨t_Level_grain K w, PSs.nox (pss_one (ps_ret (pe_fld (pv 0) rfl))), rd_Level_grain (klv T) vs H Q E h⟩
theorem ok_Level_grain (T : Tx K mg w) : FnR (PySem.Challenge.rw_timerwheels_k19_lateness).prog w K mg base CX0 2 (pa K (ga K "Level") "grain") (sp_Level_grain K) :=
  fnR_of (okk_Level_grain T) ((d_Level_grain T).choose_spec.bindsN fun _ _ _ _ _ _ us hl => match us, hl with | [_], _ => rfl)
theorem sc_Level_span : FnScope n_Level_span ["self"] (defScope s_Level_span) := ⟨rfl, rfl, rfl, by decide +kernel, rfl, by decide +kernel, by decide +kernel⟩
theorem ln0_Level_span (vs : List V) (H : Hp) (Q : VK) (E : XK) (h : sp_Level_span K vs H Q E) : vs.length = 1 := by
  unfold sp_Level_span at h
  repeat (first | (exact (congrArg List.length h.1).trans rfl) | (obtain ⟨_, h⟩ := h))
theorem okk_Level_span (T : Tx K mg w) : FnOk (PySem.Challenge.rw_timerwheels_k19_lateness).prog w K mg base CX0 2 (pa K (ga K "Level") "span") (d_Level_span T).choose ["self"] (sp_Level_span K) :=
  FunD.ok (k := 1) (N := n_Level_span) (d_Level_span T).choose_spec sc_Level_span ln0_Level_span fun cdv A outer s H vs Q E hr h => ⟨t_Level_span K w, PSs.nox (pss_one (ps_ret (pe_fld (pv 0) rfl))), rd_Level_span (klv T) vs H Q E h⟩
theorem ok_Level_span (T : Tx K mg w) : FnR (PySem.Challenge.rw_timerwheels_k19_lateness).prog w K mg base CX0 2 (pa K (ga K "Level") "span") (sp_Level_span K) :=
  fnR_of (okk_Level_span T) ((d_Level_span T).choose_spec.bindsN fun _ _ _ _ _ _ us hl => match us, hl with | [_], _ => rfl)
theorem sc_are_levels : FnScope n_are_levels ["levels"] (defScope s_are_levels) := ⟨rfl, rfl, rfl, by decide +kernel, rfl, by decide +kernel, by decide +kernel⟩
theorem ln0_are_levels (vs : List V) (H : Hp) (Q : VK) (E : XK) (h : sp_are_levels K vs H Q E) : vs.length = 1 := by
  unfold sp_are_levels at h
  repeat (first | (exact (congrArg List.length h.1).trans rfl) | (obtain ⟨_, h⟩ := h))
theorem okk_are_levels (T : Tx K mg w) : FnOk (PySem.Challenge.rw_timerwheels_k19_lateness).prog w K mg base CX0 4 (ga K "are_levels") (d_are_levels T).choose ["levels"] (sp_are_levels K) :=
  FunD.ok (k := 3) (N := n_are_levels) (d_are_levels T).choose_spec sc_are_levels ln0_are_levels fun cdv A outer s H vs Q E hr h => ⟨t_are_levels K w, PSs.nox (pss_cons (ps_if (PW.pt (pw_or (pt_not (pt_chain op_le op_le pe_int (pe_callB call_lenT (by rfl) (free_len T) (by decide +kernel) (pa_cons (pv 0) pa_nil)) (pe_glob rfl (int_MOST_LEVELS T).choose_spec ⟨_, rfl⟩))) (pw_or1 (pt_not (pt_val (pe_callB (cr_all rfl) (by rfl) (free_all T) (by decide +kernel) (pa_cons (pe_lc (own := [("level", 1)]) (g := (gName 1)) (tt := tYes) rfl sc_are_levels.nd (pi_tup (pv 0)) (blkOk_by (own := [("level", 1)]) (N := ["levels", "level", "one", "other"]) (sc := defScope s_are_levels) (by decide +kernel)) (fun _ _ _ _ _ => (pg_name (i := 1) sc_are_levels.nd rfl (Or.inl rfl))) (fun _ _ _ _ _ => pts_nil) (fun _ _ _ _ _ => (pe_callB call_isi (by rfl) (free_isinstance T) (by decide +kernel) (pa_cons (pv 1) (pa_cons (pe_glob rfl (glo_Level T) rfl) pa_nil))))) pa_nil))))))) (pss_one (ps_ret pe_bl)) pss_nil)
  (pss_cons (ps_if (pt_cmpR op_ne (pe_propF (pe_ix ix_tupH (pv 0) pe_int (fun _ _ => rfl)) (cls_Level T) (pr_Level_grain T) (ok_Level_grain T) (hr.mono (by decide)) pass0 (in_Level_grain K)) pe_int (nomark _)) (pss_one (ps_ret pe_bl)) pss_nil)
  (pss_cons (ps_for PassesOwn.never rfl (RZ.pi_zipA rfl (free_zip T) (pa_cons (pv 0) (pa_cons (pe_slice sl_tup (pv 0) (po_some pe_int) po_none) pa_nil))) (pg_tup rfl (pgs_cons (pg_name (i := 2) sc_are_levels.nd rfl (Or.inl rfl)) (pgs_cons (pg_name (i := 3) sc_are_levels.nd rfl (Or.inl rfl)) pgs_nil)))
    (pss_one (ps_if (PW.pt (pw_or (pt_cmpR op_ne (pe_op op_mod (pe_propF (pv 3) (cls_Level T) (pr_Level_grain T) (ok_Level_grain T) (hr.mono (by decide)) pass0 (in_Level_grain K)) (pe_propF (pv 2) (cls_Level T) (pr_Level_grain T) (ok_Level_grain T) (hr.mono (by decide)) pass0 (in_Level_grain K))) pe_int (nomark _)) (pw_or1 (pt_cmpR op_le (pe_propF (pv 3) (cls_Level T) (pr_Level_span T) (ok_Level_span T) (hr.mono (by decide)) pass0 (in_Level_span K)) (pe_propF (pv 2) (cls_Level T) (pr_Level_span T) (ok_Level_span T) (hr.mono (by decide)) pass0 (in_Level_span K)) (nomark _))))) (pss_one (ps_ret pe_bl)) pss_nil)))
  (pss_one (ps_ret pe_bl))))), rd_are_levels (kl T) vs H Q E h⟩
theorem ok_are_levels (T : Tx K mg w) : FnR (PySem.Challenge.rw_timerwheels_k19_lateness).prog w K mg base CX0 4 (ga K "are_levels") (sp_are_levels K) :=
  fnR_of (okk_are_levels T) ((d_are_levels T).choose_spec.bindsN fun _ _ _ _ _ _ us hl => match us, hl with | [_], _ => rfl)
theorem kp_are_levels (T : Tx K mg w) : keepIn K (.ref (ga K "are_levels")) = true := (d_are_levels T).choose_spec.kp
theorem sc_Wheel___init__ : FnScope n_Wheel___init__ ((["self"] : List PySem.Str) ++ (["levels"] : List PySem.Str)) (defScope s_Wheel___init__) := ⟨rfl, rfl, rfl, by decide +kernel, rfl, by decide +kernel, by decide +kernel⟩
theorem ok_Wheel___init__ (T : Tx K mg w) : FnR (PySem.Challenge.rw_timerwheels_k19_lateness).prog w K mg base CX0 6 (ma K (ga K "Wheel") "__init__") (sp_Wheel___init__ K) := by
  obtain ⟨fd, F⟩ := d_Wheel___init__ T
  obtain ⟨oc, od, dV, kV, doc, pm, an, cdv, ct, osl, rfl, lk, hcd, hD, _⟩ := F.ex
  rcases hD with ⟨_, rfl⟩ | ⟨e, _⟩
  · exact StX.fn_star (k := 5) (N := n_Wheel___init__) (ps := ["self"]) (pv := "levels") (sp := sq_Wheel___init__ K) lk hcd sc_Wheel___init__ StX.cxUp_none (fun us rest hl => match us, hl, rest with | [_], _, [] => rfl | [_], _, _ :: _ => rfl) fun A outer s H vs Q E hr h => ⟨t_Wheel___init__ K w, PSs.nox (pss_cons (ps_if (pt_not (pt_val (pe_fn (ok_are_levels T) (hr.mono (by decide)) rfl (glo_are_levels T) (kp_are_levels T) pass0 (pa_cons (pv 1) pa_nil)))) (pss_one ps_never) pss_nil)
  (pss_one (ps_fld (pv 0) (pe_callTy call_tupleT (by rfl) (free_tuple T) (by decide +kernel) (pa_cons (pv 1) pa_nil)) rfl))), rd_Wheel___init__ (kl T) vs H Q E h⟩
  · exact absurd rfl e
theorem sc__law_wheel_of : FnScope n__law_wheel_of ["_law_some"] (defScope s__law_wheel_of) := ⟨rfl, rfl, rfl, by decide +kernel, rfl, by decide +kernel, by decide +kernel⟩
theorem ln0__law_wheel_of (vs : List V) (H : Hp) (Q : VK) (E : XK) (h : sp__law_wheel_of K vs H Q E) : vs.length = 1 := by
  unfold sp__law_wheel_of at h
  repeat (first | (exact (congrArg List.length h.1).trans rfl) | (obtain ⟨_, h⟩ := h))
theorem okk__law_wheel_of (T : Tx K mg w) : FnOk (PySem.Challenge.rw_timerwheels_k19_lateness).prog w K mg base CX0 8 (ga K "_law_wheel_of") (d__law_wheel_of T).choose ["_law_some"] (sp__law_wheel_of K) :=
  FunD.ok (k := 7) (N := n__law_wheel_of) (d__law_wheel_of T).choose_spec sc__law_wheel_of ln0__law_wheel_of fun cdv A outer s H vs Q E hr h => ⟨t__law_wheel_of K w, PSs.nox (pss_cons (ps_if (pt_cmpR op_eq (pe_callB call_lenL (by rfl) (free_len T) (by decide +kernel) (pa_cons (pv 0) pa_nil)) pe_int (nomark _)) (pss_one (ps_ret (StX.pe_makeR (mk_Wheel T) (ok_Wheel___init__ T) (hr.mono (by decide)) rfl (glo_Wheel T) pass0 (pa_cons (pe_ix ix_lstH (pv 0) pe_int (fun _ _ => rfl)) pa_nil)))) pss_nil)
  (pss_cons (ps_if (pt_cmpR op_eq (pe_callB call_lenL (by rfl) (free_len T) (by decide +kernel) (pa_cons (pv 0) pa_nil)) pe_int (nomark _)) (pss_one (ps_ret (StX.pe_makeR (mk_Wheel T) (ok_Wheel___init__ T) (hr.mono (by decide)) rfl (glo_Wheel T) pass0 (pa_cons (pe_ix ix_lstH (pv 0) pe_int (fun _ _ => rfl)) (pa_cons (pe_ix ix_lstH (pv 0) pe_int (fun _ _ => rfl)) pa_nil))))) pss_nil)
  (pss_cons (ps_if (pt_cmpR op_eq (pe_callB call_lenL (by rfl) (free_len T) (by decide +kernel) (pa_cons (pv 0) pa_nil)) pe_int (nomark _)) (pss_one (ps_ret (StX.pe_makeR (mk_Wheel T) (ok_Wheel___init__ T) (hr.mono (by decide)) rfl (glo_Wheel T) pass0 (pa_cons (pe_ix ix_lstH (pv 0) pe_int (fun _ _ => rfl)) (pa_cons (pe_ix ix_lstH (pv 0) pe_int (fun _ _ => rfl)) (pa_cons (pe_ix ix_lstH (pv 0) pe_int (fun _ _ => rfl)) pa_nil)))))) pss_nil)
  (pss_cons (ps_if (pt_cmpR op_eq (pe_callB call_lenL (by rfl) (free_len T) (by decide +kernel) (pa_cons (pv 0) pa_nil)) pe_int (nomark _)) (pss_one (ps_ret (StX.pe_makeR (mk_Wheel T) (ok_Wheel___init__ T) (hr.mono (by decide)) rfl (glo_Wheel T) pass0 (pa_cons (pe_ix ix_lstH (pv 0) pe_int (fun _ _ => rfl)) (pa_cons (pe_ix ix_lstH (pv 0) pe_int (fun _ _ => rfl)) (pa_cons (pe_ix ix_lstH (pv 0) pe_int (fun _ _ => rfl)) (pa_cons (pe_ix ix_lstH (pv 0) pe_int (fun _ _ => rfl)) pa_nil))))))) pss_nil)
  (pss_cons (ps_if (pt_cmpR op_eq (pe_callB call_lenL (by rfl) (free_len T) (by decide +kernel) (pa_cons (pv 0) pa_nil)) pe_int (nomark _)) (pss_one (ps_ret (StX.pe_makeR (mk_Wheel T) (ok_Wheel___init__ T) (hr.mono (by decide)) rfl (glo_Wheel T) pass0 (pa_cons (pe_ix ix_lstH (pv 0) pe_int (fun _ _ => rfl)) (pa_cons (pe_ix ix_lstH (pv 0) pe_int (fun _ _ => rfl)) (pa_cons (pe_ix ix_lstH (pv 0) pe_int (fun _ _ => rfl)) (pa_cons (pe_ix ix_lstH (pv 0) pe_int (fun _ _ => rfl)) (pa_cons (pe_ix ix_lstH (pv 0) pe_int (fun _ _ => rfl)) pa_nil)))))))) pss_nil)
  (pss_one (ps_ret (pe_ifExp (pt_cmpR op_gt (pe_callB call_lenL (by rfl) (free_len T) (by decide +kernel) (pa_cons (pv 0) pa_nil)) pe_int (nomark _)) (StX.pe_makeR (mk_Wheel T) (ok_Wheel___init__ T) (hr.mono (by decide)) rfl (glo_Wheel T) pass0 (pa_cons (pe_ix ix_lstH (pv 0) pe_int (fun _ _ => rfl)) (pa_cons (pe_ix ix_lstH (pv 0) pe_int (fun _ _ => rfl)) (pa_cons (pe_ix ix_lstH (pv 0) pe_int (fun _ _ => rfl)) (pa_cons (pe_ix ix_lstH (pv 0) pe_int (fun _ _ => rfl)) (pa_cons (pe_ix ix_lstH (pv 0) pe_int (fun _ _ => rfl)) (pa_cons (pe_ix ix_lstH (pv 0) pe_int (fun _ _ => rfl)) pa_nil))))))) (Tw.pe_makeR0 (mk_Wheel T) (ok_Wheel___init__ T) (hr.mono (by decide)) rfl (glo_Wheel T) pass0))))))))), rd__law_wheel_of vs H Q E h⟩
theorem ok__law_wheel_of (T : Tx K mg w) : FnR (PySem.Challenge.rw_timerwheels_k19_lateness).prog w K mg base CX0 8 (ga K "_law_wheel_of") (sp__law_wheel_of K) :=
  fnR_of (okk__law_wheel_of T) ((d__law_wheel_of T).choose_spec.bindsN fun _ _ _ _ _ _ us hl => match us, hl with | [_], _ => rfl)
theorem kp__law_wheel_of (T : Tx K mg w) : keepIn K (.ref (ga K "_law_wheel_of")) = true := (d__law_wheel_of T).choose_spec.kp
theorem sc_is_integer : FnScope n_is_integer ["value"] (defScope s_is_integer) := ⟨rfl, rfl, rfl, by decide +kernel, rfl, by decide +kernel, by decide +kernel⟩
theorem ln0_is_integer (vs : List V) (H : Hp) (Q : VK) (E : XK) (h : sp_is_integer K vs H Q E) : vs.length = 1 := by
  unfold sp_is_integer at h
  repeat (first | (exact (congrArg List.length h.1).trans rfl) | (obtain ⟨_, h⟩ := h))
theorem okk_is_integer (T : Tx K mg w) : FnOk (PySem.Challenge.rw_timerwheels_k19_lateness).prog w K mg base CX0 2 (ga K "is_integer") (d_is_integer T).choose ["value"] (sp_is_integer K) :=
  FunD.ok (k := 1) (N := n_is_integer) (d_is_integer T).choose_spec sc_is_integer ln0_is_integer fun cdv A outer s H vs Q E hr h => ⟨t_is_integer K w, PSs.nox (pss_one (ps_ret (pe_and (pe_callB call_isi (by rfl) (free_isinstance T) (by decide +kernel) (pa_cons (pv 0) (pa_cons (pe_bltn (v := .ty "int") (by rfl) (free_int T) (by decide +kernel) rfl) pa_nil))) (pe_one (pe_not (pe_callB call_isi (by rfl) (free_isinstance T) (by decide +kernel) (pa_cons (pv 0) (pa_cons (pe_bltn (v := .ty "bool") (by rfl) (free_bool T) (by decide +kernel) rfl) pa_nil)))))))), rd_is_integer vs H Q E h⟩
theorem ok_is_integer (T : Tx K mg w) : FnR (PySem.Challenge.rw_timerwheels_k19_lateness).prog w K mg base CX0 2 (ga K "is_integer") (sp_is_integer K) :=
  fnR_of (okk_is_integer T) ((d_is_integer T).choose_spec.bindsN fun _ _ _ _ _ _ us hl => match us, hl with | [_], _ => rfl)
theorem kp_is_integer (T : Tx K mg w) : keepIn K (.ref (ga K "is_integer")) = true := (d_is_integer T).choose_spec.kp
theorem sc_is_within : FnScope n_is_within ["value", "low", "high"] (defScope s_is_within) := ⟨rfl, rfl, rfl, by decide +kernel, rfl, by decide +kernel, by decide +kernel⟩
theorem ln0_is_within (vs : List V) (H : Hp) (Q : VK) (E : XK) (h : sp_is_within K vs H Q E) : vs.length = 3 := by
  unfold sp_is_within at h
  repeat (first | (exact (congrArg List.length h.1).trans rfl) | (obtain ⟨_, h⟩ := h))
theorem okk_is_within (T : Tx K mg w) : FnOk (PySem.Challenge.rw_timerwheels_k19_lateness).prog w K mg base CX0 4 (ga K "is_within") (d_is_within T).choose ["value", "low", "high"] (sp_is_within K) :=
  FunD.ok (k := 3) (N := n_is_within) (d_is_within T).choose_spec sc_is_within ln0_is_within fun cdv A outer s H vs Q E hr h => ⟨t_is_within K w, PSs.nox (pss_one (ps_ret (pe_and (pe_fn (ok_is_integer T) (hr.mono (by decide)) rfl (glo_is_integer T) (kp_is_integer T) pass0 (pa_cons (pv 0) pa_nil)) (pe_one (pe_chain op_le op_le (pv 1) (pv 0) (pv 2)))))), rd_is_within vs H Q E h⟩
theorem ok_is_within (T : Tx K mg w) : FnR (PySem.Challenge.rw_timerwheels_k19_lateness).prog w K mg base CX0 4 (ga K "is_within") (sp_is_within K) :=
  fnR_of (okk_is_within T) ((d_is_within T).choose_spec.bindsN fun _ _ _ _ _ _ us hl => match us, hl with | [_, _, _], _ => rfl)
theorem kp_is_within (T : Tx K mg w) : keepIn K (.ref (ga K "is_within")) = true := (d_is_within T).choose_spec.kp
theorem sc_Level___init__ : FnScope n_Level___init__ ["self", "grain", "slots", "span"] (defScope s_Level___init__) := ⟨rfl, rfl, rfl, by decide +kernel, rfl, by decide +kernel, by decide +kernel⟩
theorem ln0_Level___init__ (vs : List V) (H : Hp) (Q : VK) (E : XK) (h : sp_Level___init__ K vs H Q E) : vs.length = 4 := by
  unfold sp_Level___init__ at h
  repeat (first | (exact (congrArg List.length h.1).trans rfl) | (obtain ⟨_, h⟩ := h))
theorem okk_Level___init__ (T : Tx K mg w) : FnOk (PySem.Challenge.rw_timerwheels_k19_lateness).prog w K mg base CX0 6 (ma K (ga K "Level") "__init__") (d_Level___init__ T).choose ["self", "grain", "slots", "span"] (sp_Level___init__ K) :=
  FunD.ok (k := 5) (N := n_Level___init__) (d_Level___init__ T).choose_spec sc_Level___init__ ln0_Level___init__ fun cdv A outer s H vs Q E hr h => ⟨t_Level___init__ K w, PSs.nox (pss_cons (ps_if (pt_not (pt_val (pe_fn (ok_is_within T) (hr.mono (by decide)) rfl (glo_is_within T) (kp_is_within T) pass0 (pa_cons (pv 1) (pa_cons pe_int (pa_cons (pe_glob rfl (int_MOST_GRAIN T).choose_spec ⟨_, rfl⟩) pa_nil)))))) (pss_one ps_never) pss_nil)
  (pss_cons (ps_if (pt_not (pt_val (pe_fn (ok_is_within T) (hr.mono (by decide)) rfl (glo_is_within T) (kp_is_within T) pass0 (pa_cons (pv 2) (pa_cons pe_int (pa_cons (pe_glob rfl (int_MOST_SLOTS T).choose_spec ⟨_, rfl⟩) pa_nil)))))) (pss_one ps_never) pss_nil)
  (pss_cons (ps_if (PW.pt (pw_and (pt_cmpR op_notN (pv 3) pe_non (nomark _)) (pw_and1 (pt_not (pt_val (pe_fn (ok_is_within T) (hr.mono (by decide)) rfl (glo_is_within T) (kp_is_within T) pass0 (pa_cons (pv 3) (pa_cons pe_int (pa_cons (pe_op op_mul (pe_op op_mul (pe_glob rfl (int_MOST_TURNS T).choose_spec ⟨_, rfl⟩) (pv 2)) (pv 1)) pa_nil))))))))) (pss_one ps_never) pss_nil)
  (pss_cons (ps_fld (pv 0) (pv 1) rfl)
  (pss_cons (ps_fld (pv 0) (pv 2) rfl)
  (pss_one (ps_fld (pv 0) (pe_ifExp (pt_cmpR op_isN (pv 3) pe_non (nomark _)) (pe_op op_mul (pv 2) (pv 1)) (pv 3)) rfl))))))), rd_Level___init__ (klv T) vs H Q E h⟩
theorem kb_Level_span (T : Tx K mg w) : ∃ g, KBn K (d_Level___init__ T).choose ["self", "grain", "slots", "span"] 3 ["span"] g gV_Level_span := by
  obtain ⟨mv, h⟩ := (d_Level___init__ T).choose_spec.kbinds0 (ps := ["self", "grain", "slots", "span"]) 3 ["span"] [] (fun us mv ws => us ++ ws) (fun z => by cases z) (fun q z => by cases z) (fun r _ z => r.append z) (fun D doc pm an cdv ct us mv ws l1 l2 l3 => match us, l1, mv, l2, ws, l3 with | [_, _, _], _, [], _, [_], _ => rfl)
  exact ⟨_, h⟩
theorem sc__law_made_wheel : FnScope n__law_made_wheel ["_law_rows"] (defScope s__law_made_wheel) := ⟨rfl, rfl, rfl, by decide +kernel, rfl, by decide +kernel, by decide +kernel⟩
theorem ln0__law_made_wheel (vs : List V) (H : Hp) (Q : VK) (E : XK) (h : sp__law_made_wheel K vs H Q E) : vs.length = 1 := by
  unfold sp__law_made_wheel at h
  repeat (first | (exact (congrArg List.length h.1).trans rfl) | (obtain ⟨_, h⟩ := h))
theorem okk__law_made_wheel (T : Tx K mg w) : FnOk (PySem.Challenge.rw_timerwheels_k19_lateness).prog w K mg base CX0 10 (ga K "_law_made_wheel") (d__law_made_wheel T).choose ["_law_rows"] (sp__law_made_wheel K) :=
  FunD.ok (k := 9) (N := n__law_made_wheel) (d__law_made_wheel T).choose_spec sc__law_made_wheel ln0__law_made_wheel fun cdv A outer s H vs Q E hr h => ⟨t__law_made_wheel K w, PSs.nox (pss_one (ps_ret (pe_fn (ok__law_wheel_of T) (hr.mono (by decide)) rfl (glo__law_wheel_of T) (kp__law_wheel_of T) pass0 (pa_cons (pe_lc (own := [("_law_grain", 1), ("_law_slots", 2), ("_law_size", 3)]) (g := (gTup K 3 (gCons (gName 1) (gCons (gName 2) (gCons (gName 3) gNil))))) (tt := tYes) rfl sc__law_made_wheel.nd (pi_list (pv 0)) (blkOk_by (own := [("_law_grain", 1), ("_law_slots", 2), ("_law_size", 3)]) (N := ["_law_rows", "_law_grain", "_law_slots", "_law_size"]) (sc := defScope s__law_made_wheel) (by decide +kernel)) (fun _ _ _ _ _ => (pg_tup rfl (pgs_cons (pg_name (i := 1) sc__law_made_wheel.nd rfl (Or.inl rfl)) (pgs_cons (pg_name (i := 2) sc__law_made_wheel.nd rfl (Or.inl rfl)) (pgs_cons (pg_name (i := 3) sc__law_made_wheel.nd rfl (Or.inl rfl)) pgs_nil))))) (fun _ _ _ _ _ => pts_nil) (fun _ _ _ _ _ => (pe_makeK (n := 2) (ks := ["span"]) (mk_Level T) (okk_Level___init__ T) (hr.mono (by decide)) rfl (glo_Level T) (kb_Level_span T).choose_spec pass0 (pa_cons (pv 1) (pa_cons (pv 2) pa_nil)) (pk_cons (pv 3) pk_nil)))) pa_nil)))), rd__law_made_wheel vs H Q E h⟩
theorem ok__law_made_wheel (T : Tx K mg w) : FnR (PySem.Challenge.rw_timerwheels_k19_lateness).prog w K mg base CX0 10 (ga K "_law_made_wheel") (sp__law_made_wheel K) :=
  fnR_of (okk__law_made_wheel T) ((d__law_made_wheel T).choose_spec.bindsN fun _ _ _ _ _ _ us hl => match us, hl with | [_], _ => rfl)
theorem kp__law_made_wheel (T : Tx K mg w) : keepIn K (.ref (ga K "_law_made_wheel")) = true := (d__law_made_wheel T).choose_spec.kp
theorem sc_is_value : FnScope n_is_value ["switch", "value"] (defScope s_is_value) := ⟨rfl, rfl, rfl, by decide +kernel, rfl, by decide +kernel, by decide +kernel⟩
theorem ln0_is_value (vs : List V) (H : Hp) (Q : VK) (E : XK) (h : sp_is_value K vs H Q E) : vs.length = 2 := by
  unfold sp_is_value at h
  repeat (first | (exact (congrArg List.length h.1).trans rfl) | (obtain ⟨_, h⟩ := h))
theorem okk_is_value (T : Tx K mg w) : FnOk (PySem.Challenge.rw_timerwheels_k19_lateness).prog w K mg base CX0 2 (ga K "is_value") (d_is_value T).choose ["switch", "value"] (sp_is_value K) :=
  FunD.ok (k := 1) (N := n_is_value) (d_is_value T).choose_spec sc_is_value ln0_is_value fun cdv A outer s H vs Q E hr h => ⟨t_is_value K w, PSs.nox (pss_one (ps_ret (pe_and (pe_callB call_isi (by rfl) (free_isinstance T) (by decide +kernel) (pa_cons (pv 1) (pa_cons (pe_bltn (v := .ty "str") (by rfl) (free_str T) (by decide +kernel) rfl) pa_nil))) (pe_one (pe_cmpR op_in_seq (pv 1) (pe_ix ix_kdict (pe_glob rfl (glo_VALUES T) rfl) (pv 0) (fun _ _ => rfl)) (by rfl)))))), rd_is_value (kf T) vs H Q E h⟩
theorem ok_is_value (T : Tx K mg w) : FnR (PySem.Challenge.rw_timerwheels_k19_lateness).prog w K mg base CX0 2 (ga K "is_value") (sp_is_value K) :=
  fnR_of (okk_is_value T) ((d_is_value T).choose_spec.bindsN fun _ _ _ _ _ _ us hl => match us, hl with | [_, _], _ => rfl)
theorem kp_is_value (T : Tx K mg w) : keepIn K (.ref (ga K "is_value")) = true := (d_is_value T).choose_spec.kp
theorem sc_Book___init__ : FnScope n_Book___init__ ["self", "rounding", "action", "order", "due", "zero", "beyond"] (defScope s_Book___init__) := ⟨rfl, rfl, rfl, by decide +kernel, rfl, by decide +kernel, by decide +kernel⟩
theorem ln0_Book___init__ (vs : List V) (H : Hp) (Q : VK) (E : XK) (h : sp_Book___init__ K vs H Q E) : vs.length = 7 := by
  unfold sp_Book___init__ at h
  repeat (first | (exact (congrArg List.length h.1).trans rfl) | (obtain ⟨_, h⟩ := h))
theorem okk_Book___init__ (T : Tx K mg w) : FnOk (PySem.Challenge.rw_timerwheels_k19_lateness).prog w K mg base CX0 4 (ma K (ga K "Book") "__init__") (d_Book___init__ T).choose ["self", "rounding", "action", "order", "due", "zero", "beyond"] (sp_Book___init__ K) :=
  FunD.ok (k := 3) (N := n_Book___init__) (d_Book___init__ T).choose_spec sc_Book___init__ ln0_Book___init__ fun cdv A outer s H vs Q E hr h => ⟨t_Book___init__ K w, PSs.nox (pss_cons (ps_set (i := 7) sc_Book___init__.nd rfl (Or.inl rfl) (pe_tup (pa_cons (pv 1) (pa_cons (pv 2) (pa_cons (pv 3) (pa_cons (pv 4) (pa_cons (pv 5) (pa_cons (pv 6) pa_nil))))))))
  (pss_cons (ps_for PassesOwn.never rfl (RZ.pi_zipA rfl (free_zip T) (pa_cons (pe_glob rfl (glo_SWITCHES T) rfl) (pa_cons (pv 7) pa_nil))) (pg_tup rfl (pgs_cons (pg_name (i := 8) sc_Book___init__.nd rfl (Or.inl rfl)) (pgs_cons (pg_name (i := 9) sc_Book___init__.nd rfl (Or.inl rfl)) pgs_nil)))
    (pss_one (ps_if (pt_not (pt_val (pe_fn (ok_is_value T) (hr.mono (by decide)) rfl (glo_is_value T) (kp_is_value T) pass0 (pa_cons (pv 8) (pa_cons (pv 9) pa_nil))))) (pss_one ps_never) pss_nil)))
  (pss_one (ps_fld (pv 0) (pv 7) rfl)))), rd_Book___init__ (kf T) vs H Q E h⟩
theorem kb_Book_rounding_action_order_due_zero_beyond (T : Tx K mg w) : ∃ g, KBn K (d_Book___init__ T).choose ["self", "rounding", "action", "order", "due", "zero", "beyond"] 1 ["rounding", "action", "order", "due", "zero", "beyond"] g gV_Book_rounding_action_order_due_zero_beyond := by
  obtain ⟨mv, h⟩ := (d_Book___init__ T).choose_spec.kbinds0 (ps := ["self", "rounding", "action", "order", "due", "zero", "beyond"]) 1 ["rounding", "action", "order", "due", "zero", "beyond"] [] (fun us mv ws => us ++ ws) (fun z => by cases z) (fun q z => by cases z) (fun r _ z => r.append z) (fun D doc pm an cdv ct us mv ws l1 l2 l3 => match us, l1, mv, l2, ws, l3 with | [_], _, [], _, [_, _, _, _, _, _], _ => rfl)
  exact ⟨_, h⟩
theorem sc_book_of : FnScope n_book_of ["values"] (defScope s_book_of) := ⟨rfl, rfl, rfl, by decide +kernel, rfl, by decide +kernel, by decide +kernel⟩
theorem ln0_book_of (vs : List V) (H : Hp) (Q : VK) (E : XK) (h : sp_book_of K vs H Q E) : vs.length = 1 := by
  unfold sp_book_of at h
  repeat (first | (exact (congrArg List.length h.1).trans rfl) | (obtain ⟨_, h⟩ := h))
theorem okk_book_of (T : Tx K mg w) : FnOk (PySem.Challenge.rw_timerwheels_k19_lateness).prog w K mg base CX0 6 (ga K "book_of") (d_book_of T).choose ["values"] (sp_book_of K) :=
  FunD.ok (k := 5) (N := n_book_of) (d_book_of T).choose_spec sc_book_of ln0_book_of fun cdv A outer s H vs Q E hr h => ⟨t_book_of K w, PSs.nox (pss_cons (ps_asg (pv 0) (pg_or (pg_unl rfl (pgs_cons (pg_name (i := 1) sc_book_of.nd rfl (Or.inl rfl)) (pgs_cons (pg_name (i := 2) sc_book_of.nd rfl (Or.inl rfl)) (pgs_cons (pg_name (i := 3) sc_book_of.nd rfl (Or.inl rfl)) (pgs_cons (pg_name (i := 4) sc_book_of.nd rfl (Or.inl rfl)) (pgs_cons (pg_name (i := 5) sc_book_of.nd rfl (Or.inl rfl)) (pgs_cons (pg_name (i := 6) sc_book_of.nd rfl (Or.inl rfl)) pgs_nil))))))) (pg_tup rfl (pgs_cons (pg_name (i := 1) sc_book_of.nd rfl (Or.inl rfl)) (pgs_cons (pg_name (i := 2) sc_book_of.nd rfl (Or.inl rfl)) (pgs_cons (pg_name (i := 3) sc_book_of.nd rfl (Or.inl rfl)) (pgs_cons (pg_name (i := 4) sc_book_of.nd rfl (Or.inl rfl)) (pgs_cons (pg_name (i := 5) sc_book_of.nd rfl (Or.inl rfl)) (pgs_cons (pg_name (i := 6) sc_book_of.nd rfl (Or.inl rfl)) pgs_nil)))))))))
  (pss_one (ps_ret (pe_makeK0 (ks := ["rounding", "action", "order", "due", "zero", "beyond"]) (mk_Book T) (okk_Book___init__ T) (hr.mono (by decide)) rfl (glo_Book T) (kb_Book_rounding_action_order_due_zero_beyond T).choose_spec pass0  (pk_cons (pv 1) (pk_cons (pv 2) (pk_cons (pv 3) (pk_cons (pv 4) (pk_cons (pv 5) (pk_cons (pv 6) pk_nil)))))))))), rd_book_of vs H Q E h⟩
theorem ok_book_of (T : Tx K mg w) : FnR (PySem.Challenge.rw_timerwheels_k19_lateness).prog w K mg base CX0 6 (ga K "book_of") (sp_book_of K) :=
  fnR_of (okk_book_of T) ((d_book_of T).choose_spec.bindsN fun _ _ _ _ _ _ us hl => match us, hl with | [_], _ => rfl)
theorem kp_book_of (T : Tx K mg w) : keepIn K (.ref (ga K "book_of")) = true := (d_book_of T).choose_spec.kp
theorem sc_Book_from_text : FnScope n_Book_from_text ["cls", "text"] (defScope s_Book_from_text) := ⟨rfl, rfl, rfl, by decide +kernel, rfl, by decide +kernel, by decide +kernel⟩
theorem ln0_Book_from_text (vs : List V) (H : Hp) (Q : VK) (E : XK) (h : sp_Book_from_text K vs H Q E) : vs.length = 2 := by
  unfold sp_Book_from_text at h
  repeat (first | (exact (congrArg List.length h.1).trans rfl) | (obtain ⟨_, h⟩ := h))
theorem okk_Book_from_text (T : Tx K mg w) : FnOk (PySem.Challenge.rw_timerwheels_k19_lateness).prog w K mg base CX0 8 (He5.wf K (ga K "Book") "classmethod" "from_text") (d_Book_from_text T).choose ["cls", "text"] (sp_Book_from_text K) :=
  FunD.ok (k := 7) (N := n_Book_from_text) (d_Book_from_text T).choose_spec sc_Book_from_text ln0_Book_from_text fun cdv A outer s H vs Q E hr h => ⟨t_Book_from_text K w, PSs.nox (pss_cons (ps_if (pt_not (pt_val (pe_callB call_isi (by rfl) (free_isinstance T) (by decide +kernel) (pa_cons (pv 1) (pa_cons (pe_bltn (v := .ty "str") (by rfl) (free_str T) (by decide +kernel) rfl) pa_nil))))) (pss_one ps_never) pss_nil)
  (pss_cons (ps_set (i := 2) sc_Book_from_text.nd rfl (Or.inl rfl) (pe_split (pv 1) pe_str))
  (pss_cons (ps_if (pt_cmpR op_ne (pe_callB call_lenL (by rfl) (free_len T) (by decide +kernel) (pa_cons (pv 2) pa_nil)) (pe_callB call_len_seq (by rfl) (free_len T) (by decide +kernel) (pa_cons (pe_glob rfl (glo_SWITCHES T) rfl) pa_nil)) (nomark _)) (pss_one ps_never) pss_nil)
  (pss_cons (ps_for PassesOwn.never rfl (pi_zm rfl (free_zip T) (pa_cons (pe_glob rfl (glo_SWITCHES T) rfl) (pa_cons (pv 2) pa_nil))) (pg_tup rfl (pgs_cons (pg_name (i := 3) sc_Book_from_text.nd rfl (Or.inl rfl)) (pgs_cons (pg_name (i := 4) sc_Book_from_text.nd rfl (Or.inl rfl)) pgs_nil)))
    (pss_one (ps_if (pt_not (pt_val (pe_fn (ok_is_value T) (hr.mono (by decide)) rfl (glo_is_value T) (kp_is_value T) pass0 (pa_cons (pv 3) (pa_cons (pv 4) pa_nil))))) (pss_one ps_never) pss_nil)))
  (pss_one (ps_ret (pe_fn (ok_book_of T) (hr.mono (by decide)) rfl (glo_book_of T) (kp_book_of T) pass0 (pa_cons (pv 2) pa_nil)))))))), rd_Book_from_text (kf T) vs H Q E h⟩
theorem ok_Book_from_text (T : Tx K mg w) : FnR (PySem.Challenge.rw_timerwheels_k19_lateness).prog w K mg base CX0 8 (He5.wf K (ga K "Book") "classmethod" "from_text") (sp_Book_from_text K) :=
  fnR_of (okk_Book_from_text T) ((d_Book_from_text T).choose_spec.bindsN fun _ _ _ _ _ _ us hl => match us, hl with | [_, _], _ => rfl)
theorem sc__law_made_book : FnScope n__law_made_book ["_law_values"] (defScope s__law_made_book) := ⟨rfl, rfl, rfl, by decide +kernel, rfl, by decide +kernel, by decide +kernel⟩
theorem ln0__law_made_book (vs : List V) (H : Hp) (Q : VK) (E : XK) (h : sp__law_made_book K vs H Q E) : vs.length = 1 := by
  unfold sp__law_made_book at h
  repeat (first | (exact (congrArg List.length h.1).trans rfl) | (obtain ⟨_, h⟩ := h))
theorem okk__law_made_book (T : Tx K mg w) : FnOk (PySem.Challenge.rw_timerwheels_k19_lateness).prog w K mg base CX0 10 (ga K "_law_made_book") (d__law_made_book T).choose ["_law_values"] (sp__law_made_book K) :=
  FunD.ok (k := 9) (N := n__law_made_book) (d__law_made_book T).choose_spec sc__law_made_book ln0__law_made_book fun cdv A outer s H vs Q E hr h => ⟨t__law_made_book K w, PSs.nox (pss_one (ps_ret (ClX.pe_cmeth (pe_glob rfl (glo_Book T) rfl) (cr_Book T) (cm_Book_from_text T) (ok_Book_from_text T) (hr.mono (by decide)) pass0 (pa_cons (pe_join pe_str (pv 0)) pa_nil)))), rd__law_made_book vs H Q E h⟩
theorem ok__law_made_book (T : Tx K mg w) : FnR (PySem.Challenge.rw_timerwheels_k19_lateness).prog w K mg base CX0 10 (ga K "_law_made_book") (sp__law_made_book K) :=
  fnR_of (okk__law_made_book T) ((d__law_made_book T).choose_spec.bindsN fun _ _ _ _ _ _ us hl => match us, hl with | [_], _ => rfl)
theorem kp__law_made_book (T : Tx K mg w) : keepIn K (.ref (ga K "_law_made_book")) = true := (d__law_made_book T).choose_spec.kp
theorem sc__law_belongs : FnScope n__law_belongs ["_law_rows", "_law_delay"] (defScope s__law_belongs) := ⟨rfl, rfl, rfl, by decide +kernel, rfl, by decide +kernel, by decide +kernel⟩
theorem ln0__law_belongs (vs : List V) (H : Hp) (Q : VK) (E : XK) (h : sp__law_belongs K vs H Q E) : vs.length = 2 := by
  unfold sp__law_belongs at h
  repeat (first | (exact (congrArg List.length h.1).trans rfl) | (obtain ⟨_, h⟩ := h))
theorem okk__law_belongs (T : Tx K mg w) : FnOk (PySem.Challenge.rw_timerwheels_k19_lateness).prog w K mg base CX0 2 (ga K "_law_belongs") (d__law_belongs T).choose ["_law_rows", "_law_delay"] (sp__law_belongs K) :=
  FunD.ok (k := 1) (N := n__law_belongs) (d__law_belongs T).choose_spec sc__law_belongs ln0__law_belongs fun cdv A outer s H vs Q E hr h => ⟨t__law_belongs K w, PSs.nox (pss_cons (ps_for PassesOwn.never rfl (pi_enum rfl (free_enumerate T) (pa_cons (pv 0) pa_nil)) (pg_tup rfl (pgs_cons (pg_name (i := 2) sc__law_belongs.nd rfl (Or.inl rfl)) (pgs_cons (pg_name (i := 3) sc__law_belongs.nd rfl (Or.inl rfl)) pgs_nil)))
    (pss_one (ps_if (pt_cmpR op_lt (pv 1) (pe_ix ix_tupH (pv 3) pe_int (fun _ _ => rfl)) (nomark _)) (pss_one (ps_ret (pv 2))) pss_nil)))
  (pss_one (ps_ret pe_non))), rd__law_belongs vs H Q E h⟩
theorem ok__law_belongs (T : Tx K mg w) : FnR (PySem.Challenge.rw_timerwheels_k19_lateness).prog w K mg base CX0 2 (ga K "_law_belongs") (sp__law_belongs K) :=
  fnR_of (okk__law_belongs T) ((d__law_belongs T).choose_spec.bindsN fun _ _ _ _ _ _ us hl => match us, hl with | [_, _], _ => rfl)
theorem kp__law_belongs (T : Tx K mg w) : keepIn K (.ref (ga K "_law_belongs")) = true := (d__law_belongs T).choose_spec.kp
theorem sc__law_turned : FnScope n__law_turned ["_law_tick", "_law_grain", "_law_way"] (defScope s__law_turned) := ⟨rfl, rfl, rfl, by decide +kernel, rfl, by decide +kernel, by decide +kernel⟩
theorem ln0__law_turned (vs : List V) (H : Hp) (Q : VK) (E : XK) (h : sp__law_turned K vs H Q E) : vs.length = 3 := by
  unfold sp__law_turned at h
  repeat (first | (exact (congrArg List.length h.1).trans rfl) | (obtain ⟨_, h⟩ := h))
theorem okk__law_turned (T : Tx K mg w) : FnOk (PySem.Challenge.rw_timerwheels_k19_lateness).prog w K mg base CX0 2 (ga K "_law_turned") (d__law_turned T).choose ["_law_tick", "_law_grain", "_law_way"] (sp__law_turned K) :=
  FunD.ok (k := 1) (N := n__law_turned) (d__law_turned T).choose_spec sc__law_turned ln0__law_turned fun cdv A outer s H vs Q E hr h => ⟨t__law_turned K w, PSs.nox (pss_one (ps_ret (pe_ifExp (pt_cmpR op_eq (pv 2) pe_str (nomark _)) (pe_op op_fdiv (pe_op op_sub (pe_op op_add (pv 0) (pv 1)) pe_int) (pv 1)) (pe_op op_fdiv (pv 0) (pv 1))))), rd__law_turned vs H Q E h⟩
theorem ok__law_turned (T : Tx K mg w) : FnR (PySem.Challenge.rw_timerwheels_k19_lateness).prog w K mg base CX0 2 (ga K "_law_turned") (sp__law_turned K) :=
  fnR_of (okk__law_turned T) ((d__law_turned T).choose_spec.bindsN fun _ _ _ _ _ _ us hl => match us, hl with | [_, _, _], _ => rfl)
theorem kp__law_turned (T : Tx K mg w) : keepIn K (.ref (ga K "_law_turned")) = true := (d__law_turned T).choose_spec.kp
theorem sc__law_spot_at : FnScope n__law_spot_at ["_law_rows", "_law_values", "_law_here", "_law_rest", "_law_due"] (defScope s__law_spot_at) := ⟨rfl, rfl, rfl, by decide +kernel, rfl, by decide +kernel, by decide +kernel⟩
theorem ln0__law_spot_at (vs : List V) (H : Hp) (Q : VK) (E : XK) (h : sp__law_spot_at K vs H Q E) : vs.length = 5 := by
  unfold sp__law_spot_at at h
  repeat (first | (exact (congrArg List.length h.1).trans rfl) | (obtain ⟨_, h⟩ := h))
theorem okk__law_spot_at (T : Tx K mg w) : FnOk (PySem.Challenge.rw_timerwheels_k19_lateness).prog w K mg base CX0 4 (ga K "_law_spot_at") (d__law_spot_at T).choose ["_law_rows", "_law_values", "_law_here", "_law_rest", "_law_due"] (sp__law_spot_at K) :=
  FunD.ok (k := 3) (N := n__law_spot_at) (d__law_spot_at T).choose_spec sc__law_spot_at ln0__law_spot_at fun cdv A outer s H vs Q E hr h => ⟨t__law_spot_at K w, PSs.nox (pss_cons (ps_set (i := 5) sc__law_spot_at.nd rfl (Or.inl rfl) (pe_fn (ok__law_belongs T) (hr.mono (by decide)) rfl (glo__law_belongs T) (kp__law_belongs T) pass0 (pa_cons (pv 0) (pa_cons (pv 3) pa_nil))))
  (pss_cons (ps_set (i := 6) sc__law_spot_at.nd rfl (Or.inl rfl) (pe_op op_add (pv 2) (pv 3)))
  (pss_cons (ps_if (pt_cmpR op_isN (pv 5) pe_non (nomark _)) (pss_one (ps_par (i := 5) (j := 6) (by rfl) sc__law_spot_at.nd rfl rfl (by decide) rfl rfl (pa_cons (pe_op op_sub (pe_callB call_lenL (by rfl) (free_len T) (by decide +kernel) (pa_cons (pv 0) pa_nil)) pe_int) (pa_cons (pe_op op_sub (pe_op op_add (pv 2) (pe_ix ix_tupH (pe_ix ix_lstH (pv 0) (pe_un un_neg pe_int) (fun _ _ => rfl)) pe_int (fun _ _ => rfl))) pe_int) pa_nil)) (by rfl))) pss_nil)
  (pss_one (ps_ret (pe_tup (pa_cons (pv 5) (pa_cons (pe_fn (ok__law_turned T) (hr.mono (by decide)) rfl (glo__law_turned T) (kp__law_turned T) pass0 (pa_cons (pv 6) (pa_cons (pe_ix ix_tupH (pe_ix ix_lstH (pv 0) (pv 5) (fun _ _ => rfl)) pe_int (fun _ _ => rfl)) (pa_cons (pe_ix ix_lstH (pv 1) pe_int (fun _ _ => rfl)) pa_nil)))) (pa_cons (pv 4) pa_nil))))))))), rd__law_spot_at vs H Q E h⟩
theorem ok__law_spot_at (T : Tx K mg w) : FnR (PySem.Challenge.rw_timerwheels_k19_lateness).prog w K mg base CX0 4 (ga K "_law_spot_at") (sp__law_spot_at K) :=
  fnR_of (okk__law_spot_at T) ((d__law_spot_at T).choose_spec.bindsN fun _ _ _ _ _ _ us hl => match us, hl with | [_, _, _, _, _], _ => rfl)
theorem kp__law_spot_at (T : Tx K mg w) : keepIn K (.ref (ga K "_law_spot_at")) = true := (d__law_spot_at T).choose_spec.kp
theorem sc__law_putF : FnScope n__law_putF ["_law_rows", "_law_values", "_law_here", "_law_delay"] (defScope s__law_put) := ⟨rfl, rfl, rfl, by decide +kernel, rfl, by decide +kernel, by decide +kernel⟩
theorem ln0__law_putF (vs : List V) (H : Hp) (Q : VK) (E : XK) (h : sp__law_putF K vs H Q E) : vs.length = 4 := by
  unfold sp__law_putF at h
  repeat (first | (exact (congrArg List.length h.1).trans rfl) | (obtain ⟨_, h⟩ := h))
theorem okk__law_putF (T : Tx K mg w) : FnOk (PySem.Challenge.rw_timerwheels_k19_lateness).prog w K mg base CX0 6 (ga K "_law_put") (d__law_put T).choose ["_law_rows", "_law_values", "_law_here", "_law_delay"] (sp__law_putF K) :=
  FunD.ok (k := 5) (N := n__law_putF) (d__law_put T).choose_spec sc__law_putF ln0__law_putF fun cdv A outer s H vs Q E hr h => ⟨t__law_putF K w, PSs.nox (pss_cons (ps_if (PW.pt (pw_and (pt_cmpR op_eq (pv 3) pe_int (nomark _)) (pw_and1 (pt_cmpR op_eq (pe_ix ix_lstH (pv 1) pe_int (fun _ _ => rfl)) pe_str (nomark _))))) (pss_one (ps_ret pe_non)) pss_nil)
  (pss_cons (ps_par (i := 4) (j := 5) (by rfl) sc__law_putF.nd rfl rfl (by decide) rfl rfl (pa_cons (pe_callB (call_max2 rfl) (by rfl) (free_max T) (by decide +kernel) (pa_cons (pe_callTy call_int1 (by rfl) (free_int T) (by decide +kernel) (pa_cons (pv 3) pa_nil)) (pa_cons pe_int pa_nil))) (pa_cons (pe_ix ix_tupH (pe_ix ix_lstH (pv 0) (pe_un un_neg pe_int) (fun _ _ => rfl)) pe_int (fun _ _ => rfl)) pa_nil)) (by rfl))
  (pss_cons (ps_if (PW.pt (pw_and (pt_cmpR op_ge (pv 4) (pv 5) (nomark _)) (pw_and1 (pt_cmpR op_eq (pe_ix ix_lstH (pv 1) pe_int (fun _ _ => rfl)) pe_str (nomark _))))) (pss_one (ps_ret pe_str)) pss_nil)
  (pss_cons (ps_if (PW.pt (pw_and (pt_cmpR op_ge (pv 4) (pv 5) (nomark _)) (pw_and1 (pt_cmpR op_eq (pe_ix ix_lstH (pv 1) pe_int (fun _ _ => rfl)) pe_str (nomark _))))) (pss_one (ps_set (i := 4) sc__law_putF.nd rfl (Or.inl rfl) (pe_op op_sub (pv 5) pe_int))) pss_nil)
  (pss_one (ps_ret (pe_fn (ok__law_spot_at T) (hr.mono (by decide)) rfl (glo__law_spot_at T) (kp__law_spot_at T) pass0 (pa_cons (pv 0) (pa_cons (pv 1) (pa_cons (pv 2) (pa_cons (pv 4) (pa_cons (pe_op op_add (pv 2) (pv 4)) pa_nil)))))))))))), rd__law_putF vs H Q E h⟩
theorem ok__law_putF (T : Tx K mg w) : FnR (PySem.Challenge.rw_timerwheels_k19_lateness).prog w K mg base CX0 6 (ga K "_law_put") (sp__law_putF K) :=
  fnR_of (okk__law_putF T) ((d__law_put T).choose_spec.bindsN fun _ _ _ _ _ _ us hl => match us, hl with | [_, _, _, _], _ => rfl)
theorem kp__law_put (T : Tx K mg w) : keepIn K (.ref (ga K "_law_put")) = true := (d__law_put T).choose_spec.kp
theorem sc_is_integerA : FnScope n_is_integerA ["value"] (defScope s_is_integer) := ⟨rfl, rfl, rfl, by decide +kernel, rfl, by decide +kernel, by decide +kernel⟩
theorem ln0_is_integerA (vs : List V) (H : Hp) (Q : VK) (E : XK) (h : sp_is_integerA K vs H Q E) : vs.length = 1 := by
  unfold sp_is_integerA at h
  repeat (first | (exact (congrArg List.length h.1).trans rfl) | (obtain ⟨_, h⟩ := h))
theorem okk_is_integerA (T : Tx K mg w) : FnOk (PySem.Challenge.rw_timerwheels_k19_lateness).prog w K mg base CX0 2 (ga K "is_integer") (d_is_integer T).choose ["value"] (sp_is_integerA K) :=
  FunD.ok (k := 1) (N := n_is_integerA) (d_is_integer T).choose_spec sc_is_integerA ln0_is_integerA fun cdv A outer s H vs Q E hr h => ⟨t_is_integerA K w, PSs.nox (pss_one (ps_ret (pe_and (pe_callB call_isi (by rfl) (free_isinstance T) (by decide +kernel) (pa_cons (pv 0) (pa_cons (pe_bltn (v := .ty "int") (by rfl) (free_int T) (by decide +kernel) rfl) pa_nil))) (pe_one (pe_not (pe_callB call_isi (by rfl) (free_isinstance T) (by decide +kernel) (pa_cons (pv 0) (pa_cons (pe_bltn (v := .ty "bool") (by rfl) (free_bool T) (by decide +kernel) rfl) pa_nil)))))))), rd_is_integerA vs H Q E h⟩
theorem ok_is_integerA (T : Tx K mg w) : FnR (PySem.Challenge.rw_timerwheels_k19_lateness).prog w K mg base CX0 2 (ga K "is_integer") (sp_is_integerA K) :=
  fnR_of (okk_is_integerA T) ((d_is_integer T).choose_spec.bindsN fun _ _ _ _ _ _ us hl => match us, hl with | [_], _ => rfl)
theorem sc_is_countA : FnScope n_is_countA ["value"] (defScope s_is_count) := ⟨rfl, rfl, rfl, by decide +kernel, rfl, by decide +kernel, by decide +kernel⟩
theorem ln0_is_countA (vs : List V) (H : Hp) (Q : VK) (E : XK) (h : sp_is_countA K vs H Q E) : vs.length = 1 := by
  unfold sp_is_countA at h
  repeat (first | (exact (congrArg List.length h.1).trans rfl) | (obtain ⟨_, h⟩ := h))
theorem okk_is_countA (T : Tx K mg w) : FnOk (PySem.Challenge.rw_timerwheels_k19_lateness).prog w K mg base CX0 4 (ga K "is_count") (d_is_count T).choose ["value"] (sp_is_countA K) :=
  FunD.ok (k := 3) (N := n_is_countA) (d_is_count T).choose_spec sc_is_countA ln0_is_countA fun cdv A outer s H vs Q E hr h => ⟨t_is_countA K w, PSs.nox (pss_one (ps_ret (pe_and (pe_fn (ok_is_integerA T) (hr.mono (by decide)) rfl (glo_is_integer T) (kp_is_integer T) pass0 (pa_cons (pv 0) pa_nil)) (pe_one (pe_cmpR op_ge (pv 0) pe_int (nomark _)))))), rd_is_countA vs H Q E h⟩
theorem ok_is_countA (T : Tx K mg w) : FnR (PySem.Challenge.rw_timerwheels_k19_lateness).prog w K mg base CX0 4 (ga K "is_count") (sp_is_countA K) :=
  fnR_of (okk_is_countA T) ((d_is_count T).choose_spec.bindsN fun _ _ _ _ _ _ us hl => match us, hl with | [_], _ => rfl)
theorem kp_is_count (T : Tx K mg w) : keepIn K (.ref (ga K "is_count")) = true := (d_is_count T).choose_spec.kp
theorem sc_Book_zero : FnScope n_Book_zero ["self"] (defScope s_Book_zero) := ⟨rfl, rfl, rfl, by decide +kernel, rfl, by decide +kernel, by decide +kernel⟩
theorem ln0_Book_zero (vs : List V) (H : Hp) (Q : VK) (E : XK) (h : sp_Book_zero K vs H Q E) : vs.length = 1 := by
  unfold sp_Book_zero at h
  repeat (first | (exact (congrArg List.length h.1).trans rfl) | (obtain ⟨_, h⟩ := h))
theorem okk_Book_zero (T : Tx K mg w) : FnOk (PySem.Challenge.rw_timerwheels_k19_lateness).prog w K mg base CX0 2 (pa K (ga K "Book") "zero") (d_Book_zero T).choose ["self"] (sp_Book_zero K) :=
  FunD.ok (k := 1) (N := n_Book_zero) (d_Book_zero T).choose_spec sc_Book_zero ln0_Book_zero fun cdv A outer s H vs Q E hr h => ⟨t_Book_zero K w, PSs.nox (pss_one (ps_ret (pe_ix ix_tupH (pe_fld (pv 0) rfl) pe_int (fun _ _ => rfl)))), rd_Book_zero (kf T) vs H Q E h⟩
theorem ok_Book_zero (T : Tx K mg w) : FnR (PySem.Challenge.rw_timerwheels_k19_lateness).prog w K mg base CX0 2 (pa K (ga K "Book") "zero") (sp_Book_zero K) :=
  fnR_of (okk_Book_zero T) ((d_Book_zero T).choose_spec.bindsN fun _ _ _ _ _ _ us hl => match us, hl with | [_], _ => rfl)
theorem sc_Wheel_reach : FnScope n_Wheel_reach ["self"] (defScope s_Wheel_reach) := ⟨rfl, rfl, rfl, by decide +kernel, rfl, by decide +kernel, by decide +kernel⟩
theorem ln0_Wheel_reach (vs : List V) (H : Hp) (Q : VK) (E : XK) (h : sp_Wheel_reach K vs H Q E) : vs.length = 1 := by
  unfold sp_Wheel_reach at h
  repeat (first | (exact (congrArg List.length h.1).trans rfl) | (obtain ⟨_, h⟩ := h))
theorem okk_Wheel_reach (T : Tx K mg w) : FnOk (PySem.Challenge.rw_timerwheels_k19_lateness).prog w K mg base CX0 4 (pa K (ga K "Wheel") "reach") (d_Wheel_reach T).choose ["self"] (sp_Wheel_reach K) :=
  FunD.ok (k := 3) (N := n_Wheel_reach) (d_Wheel_reach T).choose_spec sc_Wheel_reach ln0_Wheel_reach fun cdv A outer s H vs Q E hr h => ⟨t_Wheel_reach K w, PSs.nox (pss_one (ps_ret (pe_propF (pe_ix ix_tupH (pe_fld (pv 0) rfl) (pe_un un_neg pe_int) (fun _ _ => rfl)) (cls_Level T) (pr_Level_span T) (ok_Level_span T) (hr.mono (by decide)) pass0 (in_Level_span K)))), rd_Wheel_reach (kl T) vs H Q E h⟩
theorem ok_Wheel_reach (T : Tx K mg w) : FnR (PySem.Challenge.rw_timerwheels_k19_lateness).prog w K mg base CX0 4 (pa K (ga K "Wheel") "reach") (sp_Wheel_reach K) :=
  fnR_of (okk_Wheel_reach T) ((d_Wheel_reach T).choose_spec.bindsN fun _ _ _ _ _ _ us hl => match us, hl with | [_], _ => rfl)
theorem sc_Book_beyond : FnScope n_Book_beyond ["self"] (defScope s_Book_beyond) := ⟨rfl, rfl, rfl, by decide +kernel, rfl, by decide +kernel, by decide +kernel⟩
theorem ln0_Book_beyond (vs : List V) (H : Hp) (Q : VK) (E : XK) (h : sp_Book_beyond K vs H Q E) : vs.length = 1 := by
  unfold sp_Book_beyond at h
  repeat (first | (exact (congrArg List.length h.1).trans rfl) | (obtain ⟨_, h⟩ := h))
theorem okk_Book_beyond (T : Tx K mg w) : FnOk (PySem.Challenge.rw_timerwheels_k19_lateness).prog w K mg base CX0 2 (pa K (ga K "Book") "beyond") (d_Book_beyond T).choose ["self"] (sp_Book_beyond K) :=
  FunD.ok (k := 1) (N := n_Book_beyond) (d_Book_beyond T).choose_spec sc_Book_beyond ln0_Book_beyond fun cdv A outer s H vs Q E hr h => ⟨t_Book_beyond K w, PSs.nox (pss_one (ps_ret (pe_ix ix_tupH (pe_fld (pv 0) rfl) pe_int (fun _ _ => rfl)))), rd_Book_beyond (kf T) vs H Q E h⟩
theorem ok_Book_beyond (T : Tx K mg w) : FnR (PySem.Challenge.rw_timerwheels_k19_lateness).prog w K mg base CX0 2 (pa K (ga K "Book") "beyond") (sp_Book_beyond K) :=
  fnR_of (okk_Book_beyond T) ((d_Book_beyond T).choose_spec.bindsN fun _ _ _ _ _ _ us hl => match us, hl with | [_], _ => rfl)
theorem sc_is_count : FnScope n_is_count ["value"] (defScope s_is_count) := ⟨rfl, rfl, rfl, by decide +kernel, rfl, by decide +kernel, by decide +kernel⟩
theorem ln0_is_count (vs : List V) (H : Hp) (Q : VK) (E : XK) (h : sp_is_count K vs H Q E) : vs.length = 1 := by
  unfold sp_is_count at h
  repeat (first | (exact (congrArg List.length h.1).trans rfl) | (obtain ⟨_, h⟩ := h))
theorem okk_is_count (T : Tx K mg w) : FnOk (PySem.Challenge.rw_timerwheels_k19_lateness).prog w K mg base CX0 4 (ga K "is_count") (d_is_count T).choose ["value"] (sp_is_count K) :=
  FunD.ok (k := 3) (N := n_is_count) (d_is_count T).choose_spec sc_is_count ln0_is_count fun cdv A outer s H vs Q E hr h => ⟨t_is_count K w, PSs.nox (pss_one (ps_ret (pe_and (pe_fn (ok_is_integer T) (hr.mono (by decide)) rfl (glo_is_integer T) (kp_is_integer T) pass0 (pa_cons (pv 0) pa_nil)) (pe_one (pe_cmpR op_ge (pv 0) pe_int (nomark _)))))), rd_is_count vs H Q E h⟩
theorem ok_is_count (T : Tx K mg w) : FnR (PySem.Challenge.rw_timerwheels_k19_lateness).prog w K mg base CX0 4 (ga K "is_count") (sp_is_count K) :=
  fnR_of (okk_is_count T) ((d_is_count T).choose_spec.bindsN fun _ _ _ _ _ _ us hl => match us, hl with | [_], _ => rfl)
theorem sc_Wheel_level_of : FnScope n_Wheel_level_of ["self", "delay"] (defScope s_Wheel_level_of) := ⟨rfl, rfl, rfl, by decide +kernel, rfl, by decide +kernel, by decide +kernel⟩
theorem ln0_Wheel_level_of (vs : List V) (H : Hp) (Q : VK) (E : XK) (h : sp_Wheel_level_of K vs H Q E) : vs.length = 2 := by
  unfold sp_Wheel_level_of at h
  repeat (first | (exact (congrArg List.length h.1).trans rfl) | (obtain ⟨_, h⟩ := h))
theorem okk_Wheel_level_of (T : Tx K mg w) : FnOk (PySem.Challenge.rw_timerwheels_k19_lateness).prog w K mg base CX0 6 (ma K (ga K "Wheel") "level_of") (d_Wheel_level_of T).choose ["self", "delay"] (sp_Wheel_level_of K) :=
  FunD.ok (k := 5) (N := n_Wheel_level_of) (d_Wheel_level_of T).choose_spec sc_Wheel_level_of ln0_Wheel_level_of fun cdv A outer s H vs Q E hr h => ⟨t_Wheel_level_of K w, PSs.nox (pss_cons (ps_if (pt_not (pt_val (pe_fn (ok_is_count T) (hr.mono (by decide)) rfl (glo_is_count T) (kp_is_count T) pass0 (pa_cons (pv 1) pa_nil)))) (pss_one ps_never) pss_nil)
  (pss_cons (ps_for PassesOwn.never rfl (pi_enT rfl (free_enumerate T) (pa_cons (pe_fld (pv 0) rfl) pa_nil)) (pg_tup rfl (pgs_cons (pg_name (i := 2) sc_Wheel_level_of.nd rfl (Or.inl rfl)) (pgs_cons (pg_name (i := 3) sc_Wheel_level_of.nd rfl (Or.inl rfl)) pgs_nil)))
    (pss_one (ps_if (pt_cmpR op_lt (pv 1) (pe_propF (pv 3) (cls_Level T) (pr_Level_span T) (ok_Level_span T) (hr.mono (by decide)) pass0 (in_Level_span K)) (nomark _)) (pss_one (ps_ret (pv 2))) pss_nil)))
  (pss_one (ps_ret pe_non)))), rd_Wheel_level_of (kl T) vs H Q E h⟩
theorem ok_Wheel_level_of (T : Tx K mg w) : FnR (PySem.Challenge.rw_timerwheels_k19_lateness).prog w K mg base CX0 6 (ma K (ga K "Wheel") "level_of") (sp_Wheel_level_of K) :=
  fnR_of (okk_Wheel_level_of T) ((d_Wheel_level_of T).choose_spec.bindsN fun _ _ _ _ _ _ us hl => match us, hl with | [_, _], _ => rfl)
theorem sc_Wheel___len__ : FnScope n_Wheel___len__ ["self"] (defScope s_Wheel___len__) := ⟨rfl, rfl, rfl, by decide +kernel, rfl, by decide +kernel, by decide +kernel⟩
theorem ln0_Wheel___len__ (vs : List V) (H : Hp) (Q : VK) (E : XK) (h : sp_Wheel___len__ K vs H Q E) : vs.length = 1 := by
  unfold sp_Wheel___len__ at h
  repeat (first | (exact (congrArg List.length h.1).trans rfl) | (obtain ⟨_, h⟩ := h))
theorem okk_Wheel___len__ (T : Tx K mg w) : FnOk (PySem.Challenge.rw_timerwheels_k19_lateness).prog w K mg base CX0 2 (ma K (ga K "Wheel") "__len__") (d_Wheel___len__ T).choose ["self"] (sp_Wheel___len__ K) :=
  FunD.ok (k := 1) (N := n_Wheel___len__) (d_Wheel___len__ T).choose_spec sc_Wheel___len__ ln0_Wheel___len__ fun cdv A outer s H vs Q E hr h => ⟨t_Wheel___len__ K w, PSs.nox (pss_one (ps_ret (pe_callB call_lenT (by rfl) (free_len T) (by decide +kernel) (pa_cons (pe_fld (pv 0) rfl) pa_nil)))), rd_Wheel___len__ (kl T) vs H Q E h⟩
theorem ok_Wheel___len__ (T : Tx K mg w) : FnR (PySem.Challenge.rw_timerwheels_k19_lateness).prog w K mg base CX0 2 (ma K (ga K "Wheel") "__len__") (sp_Wheel___len__ K) :=
  fnR_of (okk_Wheel___len__ T) ((d_Wheel___len__ T).choose_spec.bindsN fun _ _ _ _ _ _ us hl => match us, hl with | [_], _ => rfl)
theorem sc_rounded : FnScope n_rounded ["tick", "grain", "rounding"] (defScope s_rounded) := ⟨rfl, rfl, rfl, by decide +kernel, rfl, by decide +kernel, by decide +kernel⟩
theorem ln0_rounded (vs : List V) (H : Hp) (Q : VK) (E : XK) (h : sp_rounded K vs H Q E) : vs.length = 3 := by
  unfold sp_rounded at h
  repeat (first | (exact (congrArg List.length h.1).trans rfl) | (obtain ⟨_, h⟩ := h))
theorem okk_rounded (T : Tx K mg w) : FnOk (PySem.Challenge.rw_timerwheels_k19_lateness).prog w K mg base CX0 2 (ga K "rounded") (d_rounded T).choose ["tick", "grain", "rounding"] (sp_rounded K) :=
  FunD.ok (k := 1) (N := n_rounded) (d_rounded T).choose_spec sc_rounded ln0_rounded fun cdv A outer s H vs Q E hr h => ⟨t_rounded K w, PSs.nox (pss_cons (ps_if (pt_cmpR op_eq (pv 2) pe_str (nomark _)) (pss_one (ps_ret (pe_un un_neg (pe_op op_fdiv (pe_un un_neg (pv 0)) (pv 1))))) pss_nil)
  (pss_one (ps_ret (pe_op op_fdiv (pv 0) (pv 1))))), rd_rounded vs H Q E h⟩
theorem ok_rounded (T : Tx K mg w) : FnR (PySem.Challenge.rw_timerwheels_k19_lateness).prog w K mg base CX0 2 (ga K "rounded") (sp_rounded K) :=
  fnR_of (okk_rounded T) ((d_rounded T).choose_spec.bindsN fun _ _ _ _ _ _ us hl => match us, hl with | [_, _, _], _ => rfl)
theorem kp_rounded (T : Tx K mg w) : keepIn K (.ref (ga K "rounded")) = true := (d_rounded T).choose_spec.kp
theorem sc_Wheel___getitem__ : FnScope n_Wheel___getitem__ ["self", "index"] (defScope s_Wheel___getitem__) := ⟨rfl, rfl, rfl, by decide +kernel, rfl, by decide +kernel, by decide +kernel⟩
theorem ln0_Wheel___getitem__ (vs : List V) (H : Hp) (Q : VK) (E : XK) (h : sp_Wheel___getitem__ K vs H Q E) : vs.length = 2 := by
  unfold sp_Wheel___getitem__ at h
  repeat (first | (exact (congrArg List.length h.1).trans rfl) | (obtain ⟨_, h⟩ := h))
theorem okk_Wheel___getitem__ (T : Tx K mg w) : FnOk (PySem.Challenge.rw_timerwheels_k19_lateness).prog w K mg base CX0 6 (ma K (ga K "Wheel") "__getitem__") (d_Wheel___getitem__ T).choose ["self", "index"] (sp_Wheel___getitem__ K) :=
  FunD.ok (k := 5) (N := n_Wheel___getitem__) (d_Wheel___getitem__ T).choose_spec sc_Wheel___getitem__ ln0_Wheel___getitem__ fun cdv A outer s H vs Q E hr h => ⟨t_Wheel___getitem__ K w, PSs.nox (pss_cons (ps_if (pt_not (pt_val (pe_fn (ok_is_within T) (hr.mono (by decide)) rfl (glo_is_within T) (kp_is_within T) pass0 (pa_cons (pv 1) (pa_cons pe_int (pa_cons (pe_op op_sub (pe_callB call_lenT (by rfl) (free_len T) (by decide +kernel) (pa_cons (pe_fld (pv 0) rfl) pa_nil)) pe_int) pa_nil)))))) (pss_one ps_never) pss_nil)
  (pss_one (ps_ret (pe_ix ix_tupH (pe_fld (pv 0) rfl) (pv 1) (fun _ _ => rfl))))), rd_Wheel___getitem__ (kl T) vs H Q E h⟩
theorem ok_Wheel___getitem__ (T : Tx K mg w) : FnR (PySem.Challenge.rw_timerwheels_k19_lateness).prog w K mg base CX0 6 (ma K (ga K "Wheel") "__getitem__") (sp_Wheel___getitem__ K) :=
  fnR_of (okk_Wheel___getitem__ T) ((d_Wheel___getitem__ T).choose_spec.bindsN fun _ _ _ _ _ _ us hl => match us, hl with | [_, _], _ => rfl)
theorem sc_Book_rounding : FnScope n_Book_rounding ["self"] (defScope s_Book_rounding) := ⟨rfl, rfl, rfl, by decide +kernel, rfl, by decide +kernel, by decide +kernel⟩
theorem ln0_Book_rounding (vs : List V) (H : Hp) (Q : VK) (E : XK) (h : sp_Book_rounding K vs H Q E) : vs.length = 1 := by
  unfold sp_Book_rounding at h
  repeat (first | (exact (congrArg List.length h.1).trans rfl) | (obtain ⟨_, h⟩ := h))
theorem okk_Book_rounding (T : Tx K mg w) : FnOk (PySem.Challenge.rw_timerwheels_k19_lateness).prog w K mg base CX0 2 (pa K (ga K "Book") "rounding") (d_Book_rounding T).choose ["self"] (sp_Book_rounding K) :=
  FunD.ok (k := 1) (N := n_Book_rounding) (d_Book_rounding T).choose_spec sc_Book_rounding ln0_Book_rounding fun cdv A outer s H vs Q E hr h => ⟨t_Book_rounding K w, PSs.nox (pss_one (ps_ret (pe_ix ix_tupH (pe_fld (pv 0) rfl) pe_int (fun _ _ => rfl)))), rd_Book_rounding (kf T) vs H Q E h⟩
theorem ok_Book_rounding (T : Tx K mg w) : FnR (PySem.Challenge.rw_timerwheels_k19_lateness).prog w K mg base CX0 2 (pa K (ga K "Book") "rounding") (sp_Book_rounding K) :=
  fnR_of (okk_Book_rounding T) ((d_Book_rounding T).choose_spec.bindsN fun _ _ _ _ _ _ us hl => match us, hl with | [_], _ => rfl)
theorem sc_spot_at : FnScope n_spot_at ["wheel", "book", "now", "rest", "due"] (defScope s_spot_at) := ⟨rfl, rfl, rfl, by decide +kernel, rfl, by decide +kernel, by decide +kernel⟩
theorem ln0_spot_at (vs : List V) (H : Hp) (Q : VK) (E : XK) (h : sp_spot_at K vs H Q E) : vs.length = 5 := by
  unfold sp_spot_at at h
  repeat (first | (exact (congrArg List.length h.1).trans rfl) | (obtain ⟨_, h⟩ := h))
theorem okk_spot_at (T : Tx K mg w) : FnOk (PySem.Challenge.rw_timerwheels_k19_lateness).prog w K mg base CX0 8 (ga K "spot_at") (d_spot_at T).choose ["wheel", "book", "now", "rest", "due"] (sp_spot_at K) :=
  FunD.ok (k := 7) (N := n_spot_at) (d_spot_at T).choose_spec sc_spot_at ln0_spot_at fun cdv A outer s H vs Q E hr h => ⟨t_spot_at K w, PSs.nox (pss_cons (ps_set (i := 5) sc_spot_at.nd rfl (Or.inl rfl) (pe_methR (pv 0) (cls_Wheel T) (me_Wheel_level_of T) (ok_Wheel_level_of T) (hr.mono (by decide)) pass0 (pa_cons (pv 3) pa_nil)))
  (pss_cons (ps_set (i := 6) sc_spot_at.nd rfl (Or.inl rfl) (pe_op op_add (pv 2) (pv 3)))
  (pss_cons (ps_if (pt_cmpR op_isN (pv 5) pe_non (nomark _)) (pss_cons (ps_set (i := 5) sc_spot_at.nd rfl (Or.inl rfl) (pe_op op_sub (pe_callB (call_lenF (me_Wheel___len__ T).at_ (fq_Wheel___len__ T).1 (ok_Wheel___len__ T) (hr.mono (by decide)) pass0 (in_Wheel___len__ K) (ln_Wheel___len__ K)) (by rfl) (free_len T) (by decide +kernel) (pa_cons (pv 0) pa_nil)) pe_int))
  (pss_one (ps_set (i := 6) sc_spot_at.nd rfl (Or.inl rfl) (pe_op op_sub (pe_op op_add (pv 2) (pe_propF (pv 0) (cls_Wheel T) (pr_Wheel_reach T) (ok_Wheel_reach T) (hr.mono (by decide)) pass0 (in_Wheel_reach K))) pe_int)))) pss_nil)
  (pss_one (ps_ret (pe_tup (pa_cons (pv 5) (pa_cons (pe_fn (ok_rounded T) (hr.mono (by decide)) rfl (glo_rounded T) (kp_rounded T) pass0 (pa_cons (pv 6) (pa_cons (pe_propF (pe_ixF (me_Wheel___getitem__ T).at_ (fq_Wheel___getitem__ T).1 (fq_Wheel___getitem__ T).2 (ok_Wheel___getitem__ T) (hr.mono (by decide)) pass0 (in_Wheel___getitem__ K) (pv 0) (pv 5)) (cls_Level T) (pr_Level_grain T) (ok_Level_grain T) (hr.mono (by decide)) pass0 (in_Level_grain K)) (pa_cons (pe_propF (pv 1) (cls_Book T) (pr_Book_rounding T) (ok_Book_rounding T) (hr.mono (by decide)) pass0 (in_Book_rounding K)) pa_nil)))) (pa_cons (pv 4) pa_nil))))))))), rd_spot_at vs H Q E h⟩
theorem ok_spot_at (T : Tx K mg w) : FnR (PySem.Challenge.rw_timerwheels_k19_lateness).prog w K mg base CX0 8 (ga K "spot_at") (sp_spot_at K) :=
  fnR_of (okk_spot_at T) ((d_spot_at T).choose_spec.bindsN fun _ _ _ _ _ _ us hl => match us, hl with | [_, _, _, _, _], _ => rfl)
theorem kp_spot_at (T : Tx K mg w) : keepIn K (.ref (ga K "spot_at")) = true := (d_spot_at T).choose_spec.kp
theorem sc_placeR : FnScope n_placeR ["wheel", "book", "now", "delay"] (defScope s_place) := ⟨rfl, rfl, rfl, by decide +kernel, rfl, by decide +kernel, by decide +kernel⟩
theorem ln0_placeR (vs : List V) (H : Hp) (Q : VK) (E : XK) (h : sp_placeR K vs H Q E) : vs.length = 4 := by
  unfold sp_placeR at h
  repeat (first | (exact (congrArg List.length h.1).trans rfl) | (obtain ⟨_, h⟩ := h))
theorem okk_placeR (T : Tx K mg w) : FnOk (PySem.Challenge.rw_timerwheels_k19_lateness).prog w K mg base (L2.CX (PySem.Challenge.rw_timerwheels_k19_lateness).prog w) 10 (ga K "place") (d_place T).choose ["wheel", "book", "now", "delay"] (sp_placeR K) :=
  FunD.ok (k := 9) (N := n_placeR) (d_place T).choose_spec sc_placeR ln0_placeR fun cdv A outer s H vs Q E hr h => ⟨t_placeR K w E, (pss_cons (ps_if (pt_not (pt_val (pe_fn (ok_is_countA T) (hr.mono (by decide)) rfl (glo_is_count T) (kp_is_count T) pass0 (pa_cons (pv 2) pa_nil)))) (pss_one (ps_raise rfl (takes_of rfl rfl rfl rfl) (pmk_err (pv 2) (er_InvalidNumber T).oex (er_InvalidNumber T).ini (er_InvalidNumber T).tfn (okE_InvalidNumber (CX := C8.CX0) T).choose_spec.1 (hr.mono (by decide)) (okE_InvalidNumber (CX := C8.CX0) T).choose_spec.2 (fun _ _ _ _ _ _ _ z => z.elim) rfl (glo_InvalidNumber T)))) pss_nil)
  (pss_cons (ps_if (pt_not (pt_val (pe_fn (ok_is_countA T) (hr.mono (by decide)) rfl (glo_is_count T) (kp_is_count T) pass0 (pa_cons (pv 3) pa_nil)))) (pss_one (ps_raise rfl (takes_of rfl rfl rfl rfl) (pmk_err (pv 3) (er_InvalidNumber T).oex (er_InvalidNumber T).ini (er_InvalidNumber T).tfn (okE_InvalidNumber (CX := C8.CX0) T).choose_spec.1 (hr.mono (by decide)) (okE_InvalidNumber (CX := C8.CX0) T).choose_spec.2 (fun _ _ _ _ _ _ _ z => z.elim) rfl (glo_InvalidNumber T)))) pss_nil)
  (pss_cons (ps_if (PW.pt (pw_and (pt_cmpR op_eq (pv 3) pe_int (nomark _)) (pw_and1 (pt_cmpR op_eq (pe_propF (pv 1) (cls_Book T) (pr_Book_zero T) (ok_Book_zero T) (hr.mono (by decide)) pass0 (in_Book_zero K)) pe_str (nomark _))))) (pss_one (ps_ret pe_non)) pss_nil)
  (pss_cons (ps_set (i := 4) sc_placeR.nd rfl (Or.inl rfl) (pe_callB (call_max2 rfl) (by rfl) (free_max T) (by decide +kernel) (pa_cons (pv 3) (pa_cons pe_int pa_nil))))
  (pss_cons (ps_if (PW.pt (pw_and (pt_cmpR op_ge (pv 4) (pe_propF (pv 0) (cls_Wheel T) (pr_Wheel_reach T) (ok_Wheel_reach T) (hr.mono (by decide)) pass0 (in_Wheel_reach K)) (nomark _)) (pw_and1 (pt_cmpR op_eq (pe_propF (pv 1) (cls_Book T) (pr_Book_beyond T) (ok_Book_beyond T) (hr.mono (by decide)) pass0 (in_Book_beyond K)) pe_str (nomark _))))) (pss_one (ps_raise rfl (takes_of rfl rfl rfl rfl) (pmk_erG (pv 3) (er_TooLong T).oex (er_TooLong T).ini (er_TooLong T).tfn (okE_TooLong (CX := C8.CX0) T).choose_spec.1 (hr.mono (by decide)) (okE_TooLong (CX := C8.CX0) T).choose_spec.2 (fun _ _ _ _ _ _ _ z => z.elim) rfl (glo_TooLong T)))) pss_nil)
  (pss_cons (ps_if (PW.pt (pw_and (pt_cmpR op_ge (pv 4) (pe_propF (pv 0) (cls_Wheel T) (pr_Wheel_reach T) (ok_Wheel_reach T) (hr.mono (by decide)) pass0 (in_Wheel_reach K)) (nomark _)) (pw_and1 (pt_cmpR op_eq (pe_propF (pv 1) (cls_Book T) (pr_Book_beyond T) (ok_Book_beyond T) (hr.mono (by decide)) pass0 (in_Book_beyond K)) pe_str (nomark _))))) (pss_one (ps_set (i := 4) sc_placeR.nd rfl (Or.inl rfl) (pe_op op_sub (pe_propF (pv 0) (cls_Wheel T) (pr_Wheel_reach T) (ok_Wheel_reach T) (hr.mono (by decide)) pass0 (in_Wheel_reach K)) pe_int))) pss_nil)
  (pss_one (ps_ret (pe_fn (ok_spot_at T) (hr.mono (by decide)) rfl (glo_spot_at T) (kp_spot_at T) pass0 (pa_cons (pv 0) (pa_cons (pv 1) (pa_cons (pv 2) (pa_cons (pv 4) (pa_cons (pe_op op_add (pv 2) (pv 4)) pa_nil)))))))))))))), rd_placeR vs H Q E h⟩
theorem ok_placeR (T : Tx K mg w) : FnR (PySem.Challenge.rw_timerwheels_k19_lateness).prog w K mg base (L2.CX (PySem.Challenge.rw_timerwheels_k19_lateness).prog w) 10 (ga K "place") (sp_placeR K) :=
  fnR_of (okk_placeR T) ((d_place T).choose_spec.bindsN fun _ _ _ _ _ _ us hl => match us, hl with | [_, _, _, _], _ => rfl)
theorem kp_place (T : Tx K mg w) : keepIn K (.ref (ga K "place")) = true := (d_place T).choose_spec.kp
theorem sc_Level_slots : FnScope n_Level_slots ["self"] (defScope s_Level_slots) := ⟨rfl, rfl, rfl, by decide +kernel, rfl, by decide +kernel, by decide +kernel⟩
theorem ln0_Level_slots (vs : List V) (H : Hp) (Q : VK) (E : XK) (h : sp_Level_slots K vs H Q E) : vs.length = 1 := by
  unfold sp_Level_slots at h
  repeat (first | (exact (congrArg List.length h.1).trans rfl) | (obtain ⟨_, h⟩ := h))
theorem okk_Level_slots (T : Tx K mg w) : FnOk (PySem.Challenge.rw_timerwheels_k19_lateness).prog w K mg base CX0 2 (pa K (ga K "Level") "slots") (d_Level_slots T).choose ["self"] (sp_Level_slots K) :=
  FunD.ok (k := 1) (N := n_Level_slots) (d_Level_slots T).choose_spec sc_Level_slots ln0_Level_slots fun cdv A outer s H vs Q E hr h => ⟨t_Level_slots K w, PSs.nox (pss_one (ps_ret (pe_fld (pv 0) rfl))), rd_Level_slots (klv T) vs H Q E h⟩
theorem ok_Level_slots (T : Tx K mg w) : FnR (PySem.Challenge.rw_timerwheels_k19_lateness).prog w K mg base CX0 2 (pa K (ga K "Level") "slots") (sp_Level_slots K) :=
  fnR_of (okk_Level_slots T) ((d_Level_slots T).choose_spec.bindsN fun _ _ _ _ _ _ us hl => match us, hl with | [_], _ => rfl)
theorem sc_visit_after : FnScope n_visit_after ["level", "point", "now"] (defScope s_visit_after) := ⟨rfl, rfl, rfl, by decide +kernel, rfl, by decide +kernel, by decide +kernel⟩
theorem ln0_visit_after (vs : List V) (H : Hp) (Q : VK) (E : XK) (h : sp_visit_after K vs H Q E) : vs.length = 3 := by
  unfold sp_visit_after at h
  repeat (first | (exact (congrArg List.length h.1).trans rfl) | (obtain ⟨_, h⟩ := h))
theorem okk_visit_after (T : Tx K mg w) : FnOk (PySem.Challenge.rw_timerwheels_k19_lateness).prog w K mg base CX0 4 (ga K "visit_after") (d_visit_after T).choose ["level", "point", "now"] (sp_visit_after K) :=
  FunD.ok (k := 3) (N := n_visit_after) (d_visit_after T).choose_spec sc_visit_after ln0_visit_after fun cdv A outer s H vs Q E hr h => ⟨t_visit_after K w, PSs.nox (pss_cons (ps_set (i := 3) sc_visit_after.nd rfl (Or.inl rfl) (pe_op op_fdiv (pv 2) (pe_propF (pv 0) (cls_Level T) (pr_Level_grain T) (ok_Level_grain T) (hr.mono (by decide)) pass0 (in_Level_grain K))))
  (pss_one (ps_ret (pe_op op_mul (pe_op op_add (pe_op op_add (pv 3) pe_int) (pe_op op_mod (pe_op op_sub (pe_op op_sub (pv 1) (pv 3)) pe_int) (pe_propF (pv 0) (cls_Level T) (pr_Level_slots T) (ok_Level_slots T) (hr.mono (by decide)) pass0 (in_Level_slots K)))) (pe_propF (pv 0) (cls_Level T) (pr_Level_grain T) (ok_Level_grain T) (hr.mono (by decide)) pass0 (in_Level_grain K)))))), rd_visit_after vs H Q E h⟩
theorem ok_visit_after (T : Tx K mg w) : FnR (PySem.Challenge.rw_timerwheels_k19_lateness).prog w K mg base CX0 4 (ga K "visit_after") (sp_visit_after K) :=
  fnR_of (okk_visit_after T) ((d_visit_after T).choose_spec.bindsN fun _ _ _ _ _ _ us hl => match us, hl with | [_, _, _], _ => rfl)
theorem kp_visit_after (T : Tx K mg w) : keepIn K (.ref (ga K "visit_after")) = true := (d_visit_after T).choose_spec.kp
theorem sc_Book_order : FnScope n_Book_order ["self"] (defScope s_Book_order) := ⟨rfl, rfl, rfl, by decide +kernel, rfl, by decide +kernel, by decide +kernel⟩
theorem ln0_Book_order (vs : List V) (H : Hp) (Q : VK) (E : XK) (h : sp_Book_order K vs H Q E) : vs.length = 1 := by
  unfold sp_Book_order at h
  repeat (first | (exact (congrArg List.length h.1).trans rfl) | (obtain ⟨_, h⟩ := h))
theorem okk_Book_order (T : Tx K mg w) : FnOk (PySem.Challenge.rw_timerwheels_k19_lateness).prog w K mg base CX0 2 (pa K (ga K "Book") "order") (d_Book_order T).choose ["self"] (sp_Book_order K) :=
  FunD.ok (k := 1) (N := n_Book_order) (d_Book_order T).choose_spec sc_Book_order ln0_Book_order fun cdv A outer s H vs Q E hr h => ⟨t_Book_order K w, PSs.nox (pss_one (ps_ret (pe_ix ix_tupH (pe_fld (pv 0) rfl) pe_int (fun _ _ => rfl)))), rd_Book_order (kf T) vs H Q E h⟩
theorem ok_Book_order (T : Tx K mg w) : FnR (PySem.Challenge.rw_timerwheels_k19_lateness).prog w K mg base CX0 2 (pa K (ga K "Book") "order") (sp_Book_order K) :=
  fnR_of (okk_Book_order T) ((d_Book_order T).choose_spec.bindsN fun _ _ _ _ _ _ us hl => match us, hl with | [_], _ => rfl)
theorem sc_level_order : FnScope n_level_order ["wheel", "book"] (defScope s_level_order) := ⟨rfl, rfl, rfl, by decide +kernel, rfl, by decide +kernel, by decide +kernel⟩
theorem ln0_level_order (vs : List V) (H : Hp) (Q : VK) (E : XK) (h : sp_level_order K vs H Q E) : vs.length = 2 := by
  unfold sp_level_order at h
  repeat (first | (exact (congrArg List.length h.1).trans rfl) | (obtain ⟨_, h⟩ := h))
theorem okk_level_order (T : Tx K mg w) : FnOk (PySem.Challenge.rw_timerwheels_k19_lateness).prog w K mg base CX0 4 (ga K "level_order") (d_level_order T).choose ["wheel", "book"] (sp_level_order K) :=
  FunD.ok (k := 3) (N := n_level_order) (d_level_order T).choose_spec sc_level_order ln0_level_order fun cdv A outer s H vs Q E hr h => ⟨t_level_order K w, PSs.nox (pss_cons (ps_set (i := 2) sc_level_order.nd rfl (Or.inl rfl) (pe_listRg rfl rfl (free_list T) (prg_1 rfl (free_range T) (pe_callB (call_lenF (me_Wheel___len__ T).at_ (fq_Wheel___len__ T).1 (ok_Wheel___len__ T) (hr.mono (by decide)) pass0 (in_Wheel___len__ K) (ln_Wheel___len__ K)) (by rfl) (free_len T) (by decide +kernel) (pa_cons (pv 0) pa_nil)))))
  (pss_cons (ps_if (pt_cmpR op_eq (pe_propF (pv 1) (cls_Book T) (pr_Book_order T) (ok_Book_order T) (hr.mono (by decide)) pass0 (in_Book_order K)) pe_str (nomark _)) (pss_one (ps_ret (pe_revL (pv 2)))) pss_nil)
  (pss_one (ps_ret (pv 2))))), rd_level_order vs H Q E h⟩
theorem ok_level_order (T : Tx K mg w) : FnR (PySem.Challenge.rw_timerwheels_k19_lateness).prog w K mg base CX0 4 (ga K "level_order") (sp_level_order K) :=
  fnR_of (okk_level_order T) ((d_level_order T).choose_spec.bindsN fun _ _ _ _ _ _ us hl => match us, hl with | [_, _], _ => rfl)
theorem kp_level_order (T : Tx K mg w) : keepIn K (.ref (ga K "level_order")) = true := (d_level_order T).choose_spec.kp
theorem sc_is_visited : FnScope n_is_visited ["level", "point", "before", "now"] (defScope s_is_visited) := ⟨rfl, rfl, rfl, by decide +kernel, rfl, by decide +kernel, by decide +kernel⟩
theorem ln0_is_visited (vs : List V) (H : Hp) (Q : VK) (E : XK) (h : sp_is_visited K vs H Q E) : vs.length = 4 := by
  unfold sp_is_visited at h
  repeat (first | (exact (congrArg List.length h.1).trans rfl) | (obtain ⟨_, h⟩ := h))
theorem okk_is_visited (T : Tx K mg w) : FnOk (PySem.Challenge.rw_timerwheels_k19_lateness).prog w K mg base CX0 4 (ga K "is_visited") (d_is_visited T).choose ["level", "point", "before", "now"] (sp_is_visited K) :=
  FunD.ok (k := 3) (N := n_is_visited) (d_is_visited T).choose_spec sc_is_visited ln0_is_visited fun cdv A outer s H vs Q E hr h => ⟨t_is_visited K w, PSs.nox (pss_cons (ps_set (i := 4) sc_is_visited.nd rfl (Or.inl rfl) (pe_op op_fdiv (pv 2) (pe_propF (pv 0) (cls_Level T) (pr_Level_grain T) (ok_Level_grain T) (hr.mono (by decide)) pass0 (in_Level_grain K))))
  (pss_cons (ps_set (i := 5) sc_is_visited.nd rfl (Or.inl rfl) (pe_op op_sub (pe_op op_fdiv (pv 3) (pe_propF (pv 0) (cls_Level T) (pr_Level_grain T) (ok_Level_grain T) (hr.mono (by decide)) pass0 (in_Level_grain K))) (pv 4)))
  (pss_one (ps_ret (pe_cmpR op_lt (pe_op op_mod (pe_op op_sub (pe_op op_sub (pv 1) (pv 4)) pe_int) (pe_propF (pv 0) (cls_Level T) (pr_Level_slots T) (ok_Level_slots T) (hr.mono (by decide)) pass0 (in_Level_slots K))) (pv 5) (nomark _)))))), rd_is_visited vs H Q E h⟩
theorem ok_is_visited (T : Tx K mg w) : FnR (PySem.Challenge.rw_timerwheels_k19_lateness).prog w K mg base CX0 4 (ga K "is_visited") (sp_is_visited K) :=
  fnR_of (okk_is_visited T) ((d_is_visited T).choose_spec.bindsN fun _ _ _ _ _ _ us hl => match us, hl with | [_, _, _, _], _ => rfl)
theorem kp_is_visited (T : Tx K mg w) : keepIn K (.ref (ga K "is_visited")) = true := (d_is_visited T).choose_spec.kp
theorem sc_Book_action : FnScope n_Book_action ["self"] (defScope s_Book_action) := ⟨rfl, rfl, rfl, by decide +kernel, rfl, by decide +kernel, by decide +kernel⟩
theorem ln0_Book_action (vs : List V) (H : Hp) (Q : VK) (E : XK) (h : sp_Book_action K vs H Q E) : vs.length = 1 := by
  unfold sp_Book_action at h
  repeat (first | (exact (congrArg List.length h.1).trans rfl) | (obtain ⟨_, h⟩ := h))
theorem okk_Book_action (T : Tx K mg w) : FnOk (PySem.Challenge.rw_timerwheels_k19_lateness).prog w K mg base CX0 2 (pa K (ga K "Book") "action") (d_Book_action T).choose ["self"] (sp_Book_action K) :=
  FunD.ok (k := 1) (N := n_Book_action) (d_Book_action T).choose_spec sc_Book_action ln0_Book_action fun cdv A outer s H vs Q E hr h => ⟨t_Book_action K w, PSs.nox (pss_one (ps_ret (pe_ix ix_tupH (pe_fld (pv 0) rfl) pe_int (fun _ _ => rfl)))), rd_Book_action (kf T) vs H Q E h⟩
theorem ok_Book_action (T : Tx K mg w) : FnR (PySem.Challenge.rw_timerwheels_k19_lateness).prog w K mg base CX0 2 (pa K (ga K "Book") "action") (sp_Book_action K) :=
  fnR_of (okk_Book_action T) ((d_Book_action T).choose_spec.bindsN fun _ _ _ _ _ _ us hl => match us, hl with | [_], _ => rfl)
theorem sc_Book_due : FnScope n_Book_due ["self"] (defScope s_Book_due) := ⟨rfl, rfl, rfl, by decide +kernel, rfl, by decide +kernel, by decide +kernel⟩
theorem ln0_Book_due (vs : List V) (H : Hp) (Q : VK) (E : XK) (h : sp_Book_due K vs H Q E) : vs.length = 1 := by
  unfold sp_Book_due at h
  repeat (first | (exact (congrArg List.length h.1).trans rfl) | (obtain ⟨_, h⟩ := h))
theorem okk_Book_due (T : Tx K mg w) : FnOk (PySem.Challenge.rw_timerwheels_k19_lateness).prog w K mg base CX0 2 (pa K (ga K "Book") "due") (d_Book_due T).choose ["self"] (sp_Book_due K) :=
  FunD.ok (k := 1) (N := n_Book_due) (d_Book_due T).choose_spec sc_Book_due ln0_Book_due fun cdv A outer s H vs Q E hr h => ⟨t_Book_due K w, PSs.nox (pss_one (ps_ret (pe_ix ix_tupH (pe_fld (pv 0) rfl) pe_int (fun _ _ => rfl)))), rd_Book_due (kf T) vs H Q E h⟩
theorem ok_Book_due (T : Tx K mg w) : FnR (PySem.Challenge.rw_timerwheels_k19_lateness).prog w K mg base CX0 2 (pa K (ga K "Book") "due") (sp_Book_due K) :=
  fnR_of (okk_Book_due T) ((d_Book_due T).choose_spec.bindsN fun _ _ _ _ _ _ us hl => match us, hl with | [_], _ => rfl)
theorem sc_taken_out : FnScope n_taken_out ["wheel", "book", "spot", "tick"] (defScope s_taken_out) := ⟨rfl, rfl, rfl, by decide +kernel, rfl, by decide +kernel, by decide +kernel⟩
theorem ln0_taken_out (vs : List V) (H : Hp) (Q : VK) (E : XK) (h : sp_taken_out K vs H Q E) : vs.length = 4 := by
  unfold sp_taken_out at h
  repeat (first | (exact (congrArg List.length h.1).trans rfl) | (obtain ⟨_, h⟩ := h))
theorem okk_taken_out (T : Tx K mg w) : FnOk (PySem.Challenge.rw_timerwheels_k19_lateness).prog w K mg base CX0 10 (ga K "taken_out") (d_taken_out T).choose ["wheel", "book", "spot", "tick"] (sp_taken_out K) :=
  FunD.ok (k := 9) (N := n_taken_out) (d_taken_out T).choose_spec sc_taken_out ln0_taken_out fun cdv A outer s H vs Q E hr h => ⟨t_taken_out K w, PSs.nox (pss_cons (ps_if (PW.pt (pw_or (pt_cmpR op_eq (pe_ix ix_tupH (pv 2) pe_int (fun _ _ => rfl)) pe_int (nomark _)) (pw_or1 (pt_cmpR op_eq (pe_propF (pv 1) (cls_Book T) (pr_Book_action T) (ok_Book_action T) (hr.mono (by decide)) pass0 (in_Book_action K)) pe_str (nomark _))))) (pss_one (ps_ret pe_non)) pss_nil)
  (pss_cons (ps_set (i := 4) sc_taken_out.nd rfl (Or.inl rfl) (pe_ix ix_tupH (pv 2) pe_int (fun _ _ => rfl)))
  (pss_cons (ps_if (pt_cmpR op_gt (pv 4) (pv 3) (nomark _)) (pss_one (ps_ret (pe_fn (ok_spot_at T) (hr.mono (by decide)) rfl (glo_spot_at T) (kp_spot_at T) pass0 (pa_cons (pv 0) (pa_cons (pv 1) (pa_cons (pv 3) (pa_cons (pe_op op_sub (pv 4) (pv 3)) (pa_cons (pv 4) pa_nil)))))))) pss_nil)
  (pss_cons (ps_if (pt_cmpR op_eq (pe_propF (pv 1) (cls_Book T) (pr_Book_due T) (ok_Book_due T) (hr.mono (by decide)) pass0 (in_Book_due K)) pe_str (nomark _)) (pss_one (ps_ret (pe_tup (pa_cons pe_int (pa_cons (pv 3) (pa_cons (pv 4) pa_nil)))))) pss_nil)
  (pss_one (ps_ret pe_non)))))), rd_taken_out vs H Q E h⟩
theorem ok_taken_out (T : Tx K mg w) : FnR (PySem.Challenge.rw_timerwheels_k19_lateness).prog w K mg base CX0 10 (ga K "taken_out") (sp_taken_out K) :=
  fnR_of (okk_taken_out T) ((d_taken_out T).choose_spec.bindsN fun _ _ _ _ _ _ us hl => match us, hl with | [_, _, _, _], _ => rfl)
theorem kp_taken_out (T : Tx K mg w) : keepIn K (.ref (ga K "taken_out")) = true := (d_taken_out T).choose_spec.kp
theorem sc_visited : FnScope n_visited ["wheel", "book", "spot", "before", "now"] (defScope s_visited) := ⟨rfl, rfl, rfl, by decide +kernel, rfl, by decide +kernel, by decide +kernel⟩
theorem ln0_visited (vs : List V) (H : Hp) (Q : VK) (E : XK) (h : sp_visited K vs H Q E) : vs.length = 5 := by
  unfold sp_visited at h
  repeat (first | (exact (congrArg List.length h.1).trans rfl) | (obtain ⟨_, h⟩ := h))
theorem okk_visited (T : Tx K mg w) : FnOk (PySem.Challenge.rw_timerwheels_k19_lateness).prog w K mg base CX0 12 (ga K "visited") (d_visited T).choose ["wheel", "book", "spot", "before", "now"] (sp_visited K) :=
  FunD.ok (k := 11) (N := n_visited) (d_visited T).choose_spec sc_visited ln0_visited fun cdv A outer s H vs Q E hr h => ⟨t_visited K w, PSs.nox (pss_cons (ps_set (i := 5) sc_visited.nd rfl (Or.inl rfl) (pe_lst pa_nil))
  (pss_cons (ps_for PassesOwn.never rfl (pi_list (pe_fn (ok_level_order T) (hr.mono (by decide)) rfl (glo_level_order T) (kp_level_order T) pass0 (pa_cons (pv 0) (pa_cons (pv 1) pa_nil)))) (pg_name (i := 6) sc_visited.nd rfl (Or.inl rfl))
    (pss_one (ps_if (PW.pt (pw_and (pt_cmpR op_eq (pe_ix ix_tupH (pv 2) pe_int (fun _ _ => rfl)) (pv 6) (nomark _)) (pw_and1 (pt_val (pe_fn (ok_is_visited T) (hr.mono (by decide)) rfl (glo_is_visited T) (kp_is_visited T) pass0 (pa_cons (pe_ixF (me_Wheel___getitem__ T).at_ (fq_Wheel___getitem__ T).1 (fq_Wheel___getitem__ T).2 (ok_Wheel___getitem__ T) (hr.mono (by decide)) pass0 (in_Wheel___getitem__ K) (pv 0) (pv 6)) (pa_cons (pe_ix ix_tupH (pv 2) pe_int (fun _ _ => rfl)) (pa_cons (pv 3) (pa_cons (pv 4) pa_nil))))))))) (pss_cons (ps_set (i := 2) sc_visited.nd rfl (Or.inl rfl) (pe_fn (ok_taken_out T) (hr.mono (by decide)) rfl (glo_taken_out T) (kp_taken_out T) pass0 (pa_cons (pv 0) (pa_cons (pv 1) (pa_cons (pv 2) (pa_cons (pv 4) pa_nil))))))
  (pss_cons (ps_expr (pe_bm PySem.F.plainAttrs_list PySem.F.slot_list_append PySem.F.type_list_append mt_append (pv 5) (pa_cons (pv 2) pa_nil)))
  (pss_one (ps_if (pt_cmpR op_isN (pv 2) pe_non (nomark _)) (pss_one (ps_ret (pv 5))) pss_nil)))) pss_nil)))
  (pss_one (ps_ret (pv 5))))), rd_visited vs H Q E h⟩
theorem ok_visited (T : Tx K mg w) : FnR (PySem.Challenge.rw_timerwheels_k19_lateness).prog w K mg base CX0 12 (ga K "visited") (sp_visited K) :=
  fnR_of (okk_visited T) ((d_visited T).choose_spec.bindsN fun _ _ _ _ _ _ us hl => match us, hl with | [_, _, _, _, _], _ => rfl)
theorem kp_visited (T : Tx K mg w) : keepIn K (.ref (ga K "visited")) = true := (d_visited T).choose_spec.kp
theorem sc_skipped : FnScope n_skipped ["wheel", "spot", "tick", "limit"] (defScope s_skipped) := ⟨rfl, rfl, rfl, by decide +kernel, rfl, by decide +kernel, by decide +kernel⟩
theorem ln0_skipped (vs : List V) (H : Hp) (Q : VK) (E : XK) (h : sp_skipped K vs H Q E) : vs.length = 4 := by
  unfold sp_skipped at h
  repeat (first | (exact (congrArg List.length h.1).trans rfl) | (obtain ⟨_, h⟩ := h))
theorem okk_skipped (T : Tx K mg w) : FnOk (PySem.Challenge.rw_timerwheels_k19_lateness).prog w K mg base CX0 8 (ga K "skipped") (d_skipped T).choose ["wheel", "spot", "tick", "limit"] (sp_skipped K) :=
  FunD.ok (k := 7) (N := n_skipped) (d_skipped T).choose_spec sc_skipped ln0_skipped fun cdv A outer s H vs Q E hr h => ⟨t_skipped K w, PSs.nox (pss_cons (ps_set (i := 4) sc_skipped.nd rfl (Or.inl rfl) (pe_op op_sub (pe_ix ix_tupH (pv 1) pe_int (fun _ _ => rfl)) (pv 2)))
  (pss_cons (ps_if (PW.pt (pw_or (pt_cmpR op_ne (pe_ix ix_tupH (pv 1) pe_int (fun _ _ => rfl)) (pe_op op_sub (pe_callB (call_lenF (me_Wheel___len__ T).at_ (fq_Wheel___len__ T).1 (ok_Wheel___len__ T) (hr.mono (by decide)) pass0 (in_Wheel___len__ K) (ln_Wheel___len__ K)) (by rfl) (free_len T) (by decide +kernel) (pa_cons (pv 0) pa_nil)) pe_int) (nomark _)) (pw_or1 (pt_cmpR op_lt (pv 4) (pe_propF (pv 0) (cls_Wheel T) (pr_Wheel_reach T) (ok_Wheel_reach T) (hr.mono (by decide)) pass0 (in_Wheel_reach K)) (nomark _))))) (pss_one (ps_ret (pe_tup (pa_cons pe_int (pa_cons pe_int pa_nil))))) pss_nil)
  (pss_cons (ps_set (i := 5) sc_skipped.nd rfl (Or.inl rfl) (pe_op op_sub (pe_fn (ok_visit_after T) (hr.mono (by decide)) rfl (glo_visit_after T) (kp_visit_after T) pass0 (pa_cons (pe_ixF (me_Wheel___getitem__ T).at_ (fq_Wheel___getitem__ T).1 (fq_Wheel___getitem__ T).2 (ok_Wheel___getitem__ T) (hr.mono (by decide)) pass0 (in_Wheel___getitem__ K) (pv 0) (pe_ix ix_tupH (pv 1) pe_int (fun _ _ => rfl))) (pa_cons (pe_ix ix_tupH (pv 1) pe_int (fun _ _ => rfl)) (pa_cons (pv 2) pa_nil)))) (pv 2)))
  (pss_cons (ps_set (i := 6) sc_skipped.nd rfl (Or.inl rfl) (pe_op op_fdiv (pe_op op_sub (pv 4) (pe_propF (pv 0) (cls_Wheel T) (pr_Wheel_reach T) (ok_Wheel_reach T) (hr.mono (by decide)) pass0 (in_Wheel_reach K))) (pv 5)))
  (pss_cons (ps_if (pt_cmpR op_notN (pv 3) pe_non (nomark _)) (pss_one (ps_set (i := 6) sc_skipped.nd rfl (Or.inl rfl) (pe_callB (call_min2 rfl) (by rfl) (free_min T) (by decide +kernel) (pa_cons (pe_callTy call_int1 (by rfl) (free_int T) (by decide +kernel) (pa_cons (pv 6) pa_nil)) (pa_cons (pe_callTy call_int1 (by rfl) (free_int T) (by decide +kernel) (pa_cons (pe_op op_fdiv (pe_op op_sub (pv 3) (pv 2)) (pv 5)) pa_nil)) pa_nil))))) pss_nil)
  (pss_one (ps_ret (pe_tup (pa_cons (pv 6) (pa_cons (pv 5) pa_nil)))))))))), rd_skipped vs H Q E h⟩
theorem ok_skipped (T : Tx K mg w) : FnR (PySem.Challenge.rw_timerwheels_k19_lateness).prog w K mg base CX0 8 (ga K "skipped") (sp_skipped K) :=
  fnR_of (okk_skipped T) ((d_skipped T).choose_spec.bindsN fun _ _ _ _ _ _ us hl => match us, hl with | [_, _, _, _], _ => rfl)
theorem kp_skipped (T : Tx K mg w) : keepIn K (.ref (ga K "skipped")) = true := (d_skipped T).choose_spec.kp
theorem sc_shifted : FnScope n_shifted ["wheel", "book", "spot", "tick"] (defScope s_shifted) := ⟨rfl, rfl, rfl, by decide +kernel, rfl, by decide +kernel, by decide +kernel⟩
theorem ln0_shifted (vs : List V) (H : Hp) (Q : VK) (E : XK) (h : sp_shifted K vs H Q E) : vs.length = 4 := by
  unfold sp_shifted at h
  repeat (first | (exact (congrArg List.length h.1).trans rfl) | (obtain ⟨_, h⟩ := h))
theorem okk_shifted (T : Tx K mg w) : FnOk (PySem.Challenge.rw_timerwheels_k19_lateness).prog w K mg base CX0 10 (ga K "shifted") (d_shifted T).choose ["wheel", "book", "spot", "tick"] (sp_shifted K) :=
  FunD.ok (k := 9) (N := n_shifted) (d_shifted T).choose_spec sc_shifted ln0_shifted fun cdv A outer s H vs Q E hr h => ⟨t_shifted K w, PSs.nox (pss_one (ps_ret (pe_fn (ok_spot_at T) (hr.mono (by decide)) rfl (glo_spot_at T) (kp_spot_at T) pass0 (pa_cons (pv 0) (pa_cons (pv 1) (pa_cons (pv 3) (pa_cons (pe_op op_sub (pe_ix ix_tupH (pv 2) pe_int (fun _ _ => rfl)) (pv 3)) (pa_cons (pe_ix ix_tupH (pv 2) pe_int (fun _ _ => rfl)) pa_nil)))))))), rd_shifted vs H Q E h⟩
theorem ok_shifted (T : Tx K mg w) : FnR (PySem.Challenge.rw_timerwheels_k19_lateness).prog w K mg base CX0 10 (ga K "shifted") (sp_shifted K) :=
  fnR_of (okk_shifted T) ((d_shifted T).choose_spec.bindsN fun _ _ _ _ _ _ us hl => match us, hl with | [_, _, _, _], _ => rfl)
theorem kp_shifted (T : Tx K mg w) : keepIn K (.ref (ga K "shifted")) = true := (d_shifted T).choose_spec.kp
theorem sc_followed : FnScope n_followed ["wheel", "book", "spot", "before", "limit"] (defScope s_followed) := ⟨rfl, rfl, rfl, by decide +kernel, rfl, by decide +kernel, by decide +kernel⟩
theorem ln0_followed (vs : List V) (H : Hp) (Q : VK) (E : XK) (h : sp_followed K vs H Q E) : vs.length = 5 := by
  unfold sp_followed at h
  repeat (first | (exact (congrArg List.length h.1).trans rfl) | (obtain ⟨_, h⟩ := h))
theorem okk_followed (T : Tx K mg w) : FnOk (PySem.Challenge.rw_timerwheels_k19_lateness).prog w K mg base CX0 14 (ga K "followed") (d_followed T).choose ["wheel", "book", "spot", "before", "limit"] (sp_followed K) :=
  FunD.ok (k := 13) (N := n_followed) (d_followed T).choose_spec sc_followed ln0_followed fun cdv A outer s H vs Q E hr h => ⟨t_followed K w, PSs.nox (pss_cons (ps_set (i := 5) sc_followed.nd rfl (Or.inl rfl) (pv 3))
  (pss_cons (ps_set (i := 6) sc_followed.nd rfl (Or.inl rfl) pe_int)
  (pss_one (ps_while PassesOwn.never (pt_val pe_bl)
    (pss_cons (ps_set (i := 7) sc_followed.nd rfl (Or.inl rfl) (pe_fn (ok_visit_after T) (hr.mono (by decide)) rfl (glo_visit_after T) (kp_visit_after T) pass0 (pa_cons (pe_ixF (me_Wheel___getitem__ T).at_ (fq_Wheel___getitem__ T).1 (fq_Wheel___getitem__ T).2 (ok_Wheel___getitem__ T) (hr.mono (by decide)) pass0 (in_Wheel___getitem__ K) (pv 0) (pe_ix ix_tupH (pv 2) pe_int (fun _ _ => rfl))) (pa_cons (pe_ix ix_tupH (pv 2) pe_int (fun _ _ => rfl)) (pa_cons (pv 5) pa_nil)))))
  (pss_cons (ps_if (PW.pt (pw_and (pt_cmpR op_notN (pv 4) pe_non (nomark _)) (pw_and1 (pt_cmpR op_gt (pv 7) (pv 4) (nomark _))))) (pss_one (ps_ret (pe_tup (pa_cons (pv 2) (pa_cons (pv 5) (pa_cons (pv 6) pa_nil)))))) pss_nil)
  (pss_cons (ps_set (i := 8) sc_followed.nd rfl (Or.inl rfl) (pe_fn (ok_visited T) (hr.mono (by decide)) rfl (glo_visited T) (kp_visited T) pass0 (pa_cons (pv 0) (pa_cons (pv 1) (pa_cons (pv 2) (pa_cons (pe_op op_sub (pv 7) pe_int) (pa_cons (pv 7) pa_nil)))))))
  (pss_cons (ps_set (i := 5) sc_followed.nd rfl (Or.inl rfl) (pv 7))
  (pss_cons (ps_if (pt_cmpR op_isN (pe_ix ix_lstH (pv 8) (pe_un un_neg pe_int) (fun _ _ => rfl)) pe_non (nomark _)) (pss_one (ps_ret (pe_tup (pa_cons pe_non (pa_cons (pv 5) (pa_cons (pe_op op_sub (pe_op op_add (pv 6) (pe_callB call_lenL (by rfl) (free_len T) (by decide +kernel) (pa_cons (pv 8) pa_nil))) pe_int) pa_nil)))))) pss_nil)
  (pss_cons (ps_set (i := 2) sc_followed.nd rfl (Or.inl rfl) (pe_ix ix_lstH (pv 8) (pe_un un_neg pe_int) (fun _ _ => rfl)))
  (pss_cons (ps_set (i := 6) sc_followed.nd rfl (Or.inl rfl) (pe_op op_add (pv 6) (pe_callB call_lenL (by rfl) (free_len T) (by decide +kernel) (pa_cons (pv 8) pa_nil))))
  (pss_cons (ps_asg (pe_fn (ok_skipped T) (hr.mono (by decide)) rfl (glo_skipped T) (kp_skipped T) pass0 (pa_cons (pv 0) (pa_cons (pv 2) (pa_cons (pv 5) (pa_cons (pv 4) pa_nil))))) (pg_tup rfl (pgs_cons (pg_name (i := 9) sc_followed.nd rfl (Or.inl rfl)) (pgs_cons (pg_name (i := 10) sc_followed.nd rfl (Or.inl rfl)) pgs_nil))))
  (pss_one (ps_if (pt_cmpR op_gt (pv 9) pe_int (nomark _)) (pss_cons (ps_set (i := 5) sc_followed.nd rfl (Or.inl rfl) (pe_op op_add (pv 5) (pe_op op_mul (pv 9) (pv 10))))
  (pss_cons (ps_set (i := 2) sc_followed.nd rfl (Or.inl rfl) (pe_fn (ok_shifted T) (hr.mono (by decide)) rfl (glo_shifted T) (kp_shifted T) pass0 (pa_cons (pv 0) (pa_cons (pv 1) (pa_cons (pv 2) (pa_cons (pv 5) pa_nil))))))
  (pss_one (ps_set (i := 6) sc_followed.nd rfl (Or.inl rfl) (pe_op op_add (pv 6) (pv 9)))))) pss_nil)))))))))))))), rd_followed vs H Q E h⟩
theorem ok_followed (T : Tx K mg w) : FnR (PySem.Challenge.rw_timerwheels_k19_lateness).prog w K mg base CX0 14 (ga K "followed") (sp_followed K) :=
  fnR_of (okk_followed T) ((d_followed T).choose_spec.bindsN fun _ _ _ _ _ _ us hl => match us, hl with | [_, _, _, _, _], _ => rfl)
theorem kp_followed (T : Tx K mg w) : keepIn K (.ref (ga K "followed")) = true := (d_followed T).choose_spec.kp
theorem sc_fire_tickR : FnScope n_fire_tickR ["wheel", "book", "start", "delay"] (defScope s_fire_tick) := ⟨rfl, rfl, rfl, by decide +kernel, rfl, by decide +kernel, by decide +kernel⟩
theorem ln0_fire_tickR (vs : List V) (H : Hp) (Q : VK) (E : XK) (h : sp_fire_tickR K vs H Q E) : vs.length = 4 := by
  unfold sp_fire_tickR at h
  repeat (first | (exact (congrArg List.length h.1).trans rfl) | (obtain ⟨_, h⟩ := h))
theorem okk_fire_tickR (T : Tx K mg w) : FnOk (PySem.Challenge.rw_timerwheels_k19_lateness).prog w K mg base (L2.CX (PySem.Challenge.rw_timerwheels_k19_lateness).prog w) 16 (ga K "fire_tick") (d_fire_tick T).choose ["wheel", "book", "start", "delay"] (sp_fire_tickR K) :=
  FunD.ok (k := 15) (N := n_fire_tickR) (d_fire_tick T).choose_spec sc_fire_tickR ln0_fire_tickR fun cdv A outer s H vs Q E hr h => ⟨t_fire_tickR K w E, (pss_cons (ps_set (i := 4) sc_fire_tickR.nd rfl (Or.inl rfl) (pe_fn (ok_placeR T) (hr.mono (by decide)) rfl (glo_place T) (kp_place T) (passes_call (takes_of rfl rfl rfl rfl) fun _ _ _ _ z => z) (pa_cons (pv 0) (pa_cons (pv 1) (pa_cons (pv 2) (pa_cons (pv 3) pa_nil))))))
  (pss_cons (ps_if (pt_cmpR op_isN (pv 4) pe_non (nomark _)) (pss_one (ps_ret (pv 2))) pss_nil)
  (pss_one (ps_ret (pe_ix ix_tupH (pe_fn (ok_followed T) (hr.mono (by decide)) rfl (glo_followed T) (kp_followed T) pass0 (pa_cons (pv 0) (pa_cons (pv 1) (pa_cons (pv 4) (pa_cons (pv 2) (pa_cons pe_non pa_nil)))))) pe_int (fun _ _ => rfl)))))), rd_fire_tickR vs H Q E h⟩
theorem ok_fire_tickR (T : Tx K mg w) : FnR (PySem.Challenge.rw_timerwheels_k19_lateness).prog w K mg base (L2.CX (PySem.Challenge.rw_timerwheels_k19_lateness).prog w) 16 (ga K "fire_tick") (sp_fire_tickR K) :=
  fnR_of (okk_fire_tickR T) ((d_fire_tick T).choose_spec.bindsN fun _ _ _ _ _ _ us hl => match us, hl with | [_, _, _, _], _ => rfl)
theorem kp_fire_tick (T : Tx K mg w) : keepIn K (.ref (ga K "fire_tick")) = true := (d_fire_tick T).choose_spec.kp
theorem sc_lateness : FnScope n_lateness ["wheel", "book", "start", "delay"] (defScope s_lateness) := ⟨rfl, rfl, rfl, by decide +kernel, rfl, by decide +kernel, by decide +kernel⟩
theorem ln0_lateness (vs : List V) (H : Hp) (Q : VK) (E : XK) (h : sp_lateness K vs H Q E) : vs.length = 4 := by
  unfold sp_lateness at h
  repeat (first | (exact (congrArg List.length h.1).trans rfl) | (obtain ⟨_, h⟩ := h))
theorem okk_lateness (T : Tx K mg w) : FnOk (PySem.Challenge.rw_timerwheels_k19_lateness).prog w K mg base (L2.CX (PySem.Challenge.rw_timerwheels_k19_lateness).prog w) 18 (ga K "lateness") (d_lateness T).choose ["wheel", "book", "start", "delay"] (sp_lateness K) :=
  FunD.ok (k := 17) (N := n_lateness) (d_lateness T).choose_spec sc_lateness ln0_lateness fun cdv A outer s H vs Q E hr h => ⟨t_lateness K w E, (pss_cons (ps_set (i := 4) sc_lateness.nd rfl (Or.inl rfl) (pe_fn (ok_fire_tickR T) (hr.mono (by decide)) rfl (glo_fire_tick T) (kp_fire_tick T) (passes_call (takes_of rfl rfl rfl rfl) fun _ _ _ _ z => z) (pa_cons (pv 0) (pa_cons (pv 1) (pa_cons (pv 2) (pa_cons (pv 3) pa_nil))))))
  (pss_cons (ps_if (PW.pt (pw_and (pt_cmpR op_eq (pv 3) pe_int (nomark _)) (pw_and1 (pt_cmpR op_eq (pe_propF (pv 1) (cls_Book T) (pr_Book_zero T) (ok_Book_zero T) (hr.mono (by decide)) pass0 (in_Book_zero K)) pe_str (nomark _))))) (pss_one (ps_ret (pe_op op_sub (pe_op op_sub (pv 4) (pv 2)) pe_int))) pss_nil)
  (pss_one (ps_ret (pe_op op_sub (pe_op op_sub (pv 4) (pv 2)) (pv 3)))))), rd_lateness vs H Q E h⟩
theorem ok_lateness (T : Tx K mg w) : FnR (PySem.Challenge.rw_timerwheels_k19_lateness).prog w K mg base (L2.CX (PySem.Challenge.rw_timerwheels_k19_lateness).prog w) 18 (ga K "lateness") (sp_lateness K) :=
  fnR_of (okk_lateness T) ((d_lateness T).choose_spec.bindsN fun _ _ _ _ _ _ us hl => match us, hl with | [_, _, _, _], _ => rfl)
theorem kp_lateness (T : Tx K mg w) : keepIn K (.ref (ga K "lateness")) = true := (d_lateness T).choose_spec.kp
theorem sc__law_put : FnScope n__law_put ["_law_rows", "_law_values", "_law_here", "_law_delay"] (defScope s__law_put) := ⟨rfl, rfl, rfl, by decide +kernel, rfl, by decide +kernel, by decide +kernel⟩
theorem ln0__law_put (vs : List V) (H : Hp) (Q : VK) (E : XK) (h : sp__law_put K vs H Q E) : vs.length = 4 := by
  unfold sp__law_put at h
  repeat (first | (exact (congrArg List.length h.1).trans rfl) | (obtain ⟨_, h⟩ := h))
theorem okk__law_put (T : Tx K mg w) : FnOk (PySem.Challenge.rw_timerwheels_k19_lateness).prog w K mg base CX0 6 (ga K "_law_put") (d__law_put T).choose ["_law_rows", "_law_values", "_law_here", "_law_delay"] (sp__law_put K) :=
  FunD.ok (k := 5) (N := n__law_put) (d__law_put T).choose_spec sc__law_put ln0__law_put fun cdv A outer s H vs Q E hr h => ⟨t__law_put K w, PSs.nox (pss_cons (ps_if (PW.pt (pw_and (pt_cmpR op_eq (pv 3) pe_int (nomark _)) (pw_and1 (pt_cmpR op_eq (pe_ix ix_lstH (pv 1) pe_int (fun _ _ => rfl)) pe_str (nomark _))))) (pss_one (ps_ret pe_non)) pss_nil)
  (pss_cons (ps_par (i := 4) (j := 5) (by rfl) sc__law_put.nd rfl rfl (by decide) rfl rfl (pa_cons (pe_callB (call_max2 rfl) (by rfl) (free_max T) (by decide +kernel) (pa_cons (pe_callTy call_int1 (by rfl) (free_int T) (by decide +kernel) (pa_cons (pv 3) pa_nil)) (pa_cons pe_int pa_nil))) (pa_cons (pe_ix ix_tupH (pe_ix ix_lstH (pv 0) (pe_un un_neg pe_int) (fun _ _ => rfl)) pe_int (fun _ _ => rfl)) pa_nil)) (by rfl))
  (pss_cons (ps_if (PW.pt (pw_and (pt_cmpR op_ge (pv 4) (pv 5) (nomark _)) (pw_and1 (pt_cmpR op_eq (pe_ix ix_lstH (pv 1) pe_int (fun _ _ => rfl)) pe_str (nomark _))))) (pss_one (ps_ret pe_str)) pss_nil)
  (pss_cons (ps_if (PW.pt (pw_and (pt_cmpR op_ge (pv 4) (pv 5) (nomark _)) (pw_and1 (pt_cmpR op_eq (pe_ix ix_lstH (pv 1) pe_int (fun _ _ => rfl)) pe_str (nomark _))))) (pss_one (ps_set (i := 4) sc__law_put.nd rfl (Or.inl rfl) (pe_op op_sub (pv 5) pe_int))) pss_nil)
  (pss_one (ps_ret (pe_fn (ok__law_spot_at T) (hr.mono (by decide)) rfl (glo__law_spot_at T) (kp__law_spot_at T) pass0 (pa_cons (pv 0) (pa_cons (pv 1) (pa_cons (pv 2) (pa_cons (pv 4) (pa_cons (pe_op op_add (pv 2) (pv 4)) pa_nil)))))))))))), rd__law_put vs H Q E h⟩
theorem ok__law_put (T : Tx K mg w) : FnR (PySem.Challenge.rw_timerwheels_k19_lateness).prog w K mg base CX0 6 (ga K "_law_put") (sp__law_put K) :=
  fnR_of (okk__law_put T) ((d__law_put T).choose_spec.bindsN fun _ _ _ _ _ _ us hl => match us, hl with | [_, _, _, _], _ => rfl)
theorem sc__law_visit : FnScope n__law_visit ["_law_rows", "_law_spot", "_law_here"] (defScope s__law_visit) := ⟨rfl, rfl, rfl, by decide +kernel, rfl, by decide +kernel, by decide +kernel⟩
theorem ln0__law_visit (vs : List V) (H : Hp) (Q : VK) (E : XK) (h : sp__law_visit K vs H Q E) : vs.length = 3 := by
  unfold sp__law_visit at h
  repeat (first | (exact (congrArg List.length h.1).trans rfl) | (obtain ⟨_, h⟩ := h))
theorem okk__law_visit (T : Tx K mg w) : FnOk (PySem.Challenge.rw_timerwheels_k19_lateness).prog w K mg base CX0 2 (ga K "_law_visit") (d__law_visit T).choose ["_law_rows", "_law_spot", "_law_here"] (sp__law_visit K) :=
  FunD.ok (k := 1) (N := n__law_visit) (d__law_visit T).choose_spec sc__law_visit ln0__law_visit fun cdv A outer s H vs Q E hr h => ⟨t__law_visit K w, PSs.nox (pss_cons (ps_asg (pe_slice sl_tup (pe_ix ix_lstH (pv 0) (pe_ix ix_tupH (pv 1) pe_int (fun _ _ => rfl)) (fun _ _ => rfl)) po_none (po_some pe_int)) (pg_tup rfl (pgs_cons (pg_name (i := 3) sc__law_visit.nd rfl (Or.inl rfl)) (pgs_cons (pg_name (i := 4) sc__law_visit.nd rfl (Or.inl rfl)) pgs_nil))))
  (pss_cons (ps_set (i := 5) sc__law_visit.nd rfl (Or.inl rfl) (pe_op op_add (pe_op op_fdiv (pv 2) (pv 3)) pe_int))
  (pss_cons (ps_while PassesOwn.never (pt_cmpR op_ne (pe_op op_mod (pe_op op_sub (pv 5) (pe_ix ix_tupH (pv 1) pe_int (fun _ _ => rfl))) (pv 4)) pe_int (nomark _))
    (pss_one (ps_set (i := 5) sc__law_visit.nd rfl (Or.inl rfl) (pe_op op_add (pv 5) pe_int))))
  (pss_one (ps_ret (pe_op op_mul (pv 5) (pv 3))))))), rd__law_visit vs H Q E h⟩
theorem ok__law_visit (T : Tx K mg w) : FnR (PySem.Challenge.rw_timerwheels_k19_lateness).prog w K mg base CX0 2 (ga K "_law_visit") (sp__law_visit K) :=
  fnR_of (okk__law_visit T) ((d__law_visit T).choose_spec.bindsN fun _ _ _ _ _ _ us hl => match us, hl with | [_, _, _], _ => rfl)
theorem kp__law_visit (T : Tx K mg w) : keepIn K (.ref (ga K "_law_visit")) = true := (d__law_visit T).choose_spec.kp
theorem sc__law_out : FnScope n__law_out ["_law_rows", "_law_values", "_law_spot", "_law_tick"] (defScope s__law_out) := ⟨rfl, rfl, rfl, by decide +kernel, rfl, by decide +kernel, by decide +kernel⟩
theorem ln0__law_out (vs : List V) (H : Hp) (Q : VK) (E : XK) (h : sp__law_out K vs H Q E) : vs.length = 4 := by
  unfold sp__law_out at h
  repeat (first | (exact (congrArg List.length h.1).trans rfl) | (obtain ⟨_, h⟩ := h))
theorem okk__law_out (T : Tx K mg w) : FnOk (PySem.Challenge.rw_timerwheels_k19_lateness).prog w K mg base CX0 6 (ga K "_law_out") (d__law_out T).choose ["_law_rows", "_law_values", "_law_spot", "_law_tick"] (sp__law_out K) :=
  FunD.ok (k := 5) (N := n__law_out) (d__law_out T).choose_spec sc__law_out ln0__law_out fun cdv A outer s H vs Q E hr h => ⟨t__law_out K w, PSs.nox (pss_cons (ps_if (PW.pt (pw_or (pt_cmpR op_eq (pe_ix ix_tupH (pv 2) pe_int (fun _ _ => rfl)) pe_int (nomark _)) (pw_or1 (pt_cmpR op_eq (pe_ix ix_lstH (pv 1) pe_int (fun _ _ => rfl)) pe_str (nomark _))))) (pss_one (ps_ret pe_non)) pss_nil)
  (pss_cons (ps_if (pt_cmpR op_gt (pe_ix ix_tupH (pv 2) pe_int (fun _ _ => rfl)) (pv 3) (nomark _)) (pss_one (ps_ret (pe_fn (ok__law_spot_at T) (hr.mono (by decide)) rfl (glo__law_spot_at T) (kp__law_spot_at T) pass0 (pa_cons (pv 0) (pa_cons (pv 1) (pa_cons (pv 3) (pa_cons (pe_op op_sub (pe_ix ix_tupH (pv 2) pe_int (fun _ _ => rfl)) (pv 3)) (pa_cons (pe_ix ix_tupH (pv 2) pe_int (fun _ _ => rfl)) pa_nil)))))))) pss_nil)
  (pss_one (ps_ret (pe_ifExp (pt_cmpR op_eq (pe_ix ix_lstH (pv 1) pe_int (fun _ _ => rfl)) pe_str (nomark _)) (pe_tup (pa_cons pe_int (pa_cons (pv 3) (pa_cons (pe_ix ix_tupH (pv 2) pe_int (fun _ _ => rfl)) pa_nil)))) pe_non))))), rd__law_out vs H Q E h⟩
theorem ok__law_out (T : Tx K mg w) : FnR (PySem.Challenge.rw_timerwheels_k19_lateness).prog w K mg base CX0 6 (ga K "_law_out") (sp__law_out K) :=
  fnR_of (okk__law_out T) ((d__law_out T).choose_spec.bindsN fun _ _ _ _ _ _ us hl => match us, hl with | [_, _, _, _], _ => rfl)
theorem kp__law_out (T : Tx K mg w) : keepIn K (.ref (ga K "_law_out")) = true := (d__law_out T).choose_spec.kp
theorem sc__law_sweep : FnScope n__law_sweep ["_law_rows", "_law_values", "_law_spot", "_law_before", "_law_here"] (defScope s__law_sweep) := ⟨rfl, rfl, rfl, by decide +kernel, rfl, by decide +kernel, by decide +kernel⟩
theorem ln0__law_sweep (vs : List V) (H : Hp) (Q : VK) (E : XK) (h : sp__law_sweep K vs H Q E) : vs.length = 5 := by
  unfold sp__law_sweep at h
  repeat (first | (exact (congrArg List.length h.1).trans rfl) | (obtain ⟨_, h⟩ := h))
theorem okk__law_sweep (T : Tx K mg w) : FnOk (PySem.Challenge.rw_timerwheels_k19_lateness).prog w K mg base CX0 8 (ga K "_law_sweep") (d__law_sweep T).choose ["_law_rows", "_law_values", "_law_spot", "_law_before", "_law_here"] (sp__law_sweep K) :=
  FunD.ok (k := 7) (N := n__law_sweep) (d__law_sweep T).choose_spec sc__law_sweep ln0__law_sweep fun cdv A outer s H vs Q E hr h => ⟨t__law_sweep K w, PSs.nox (pss_cons (ps_par (i := 5) (j := 6) (by rfl) sc__law_sweep.nd rfl rfl (by decide) rfl rfl (pa_cons (pe_lst pa_nil) (pa_cons (pe_listRg rfl rfl (free_list T) (prg_1 rfl (free_range T) (pe_callB call_lenL (by rfl) (free_len T) (by decide +kernel) (pa_cons (pv 0) pa_nil)))) pa_nil)) (by rfl))
  (pss_cons (ps_for PassesOwn.never rfl (pi_list (pe_ifExp (pt_cmpR op_eq (pe_ix ix_lstH (pv 1) pe_int (fun _ _ => rfl)) pe_str (nomark _)) (pe_revL (pv 6)) (pv 6))) (pg_name (i := 7) sc__law_sweep.nd rfl (Or.inl rfl))
    (pss_one (ps_if (pt_cmpR op_eq (pe_ix ix_tupH (pv 2) pe_int (fun _ _ => rfl)) (pv 7) (nomark _)) (pss_cons (ps_asg (pe_slice sl_tup (pe_ix ix_lstH (pv 0) (pv 7) (fun _ _ => rfl)) po_none (po_some pe_int)) (pg_tup rfl (pgs_cons (pg_name (i := 8) sc__law_sweep.nd rfl (Or.inl rfl)) (pgs_cons (pg_name (i := 9) sc__law_sweep.nd rfl (Or.inr rfl)) pgs_nil))))
  (pss_cons (ps_par (i := 10) (j := 11) (by rfl) sc__law_sweep.nd rfl rfl (by decide) rfl rfl (pa_cons (pe_op op_add (pe_op op_fdiv (pv 3) (pv 8)) pe_int) (pa_cons (pe_op op_fdiv (pv 4) (pv 8)) pa_nil)) (by rfl))
  (pss_cons (ps_set (i := 12) sc__law_sweep.nd rfl (Or.inl rfl) (pe_listRgW rfl rfl (free_list T) (prg_2 rfl (free_range T) (pv 10) (pe_op op_add (pe_callB (call_min2 rfl) (by rfl) (free_min T) (by decide +kernel) (pa_cons (pe_callTy call_int1 (by rfl) (free_int T) (by decide +kernel) (pa_cons (pv 11) pa_nil)) (pa_cons (pe_callTy call_int1 (by rfl) (free_int T) (by decide +kernel) (pa_cons (pe_op op_add (pv 10) (pv 9)) pa_nil)) pa_nil))) pe_int))))
  (pss_one (ps_if (pt_cmpR (op_neD (ul hr)) (pe_lc (own := [("_law_at", 13)]) (g := (gName 13)) (tt := (tTest (tOp rEq (tOp oMod (tOp oSub (tVar 13) (tOp rIxTH (tVar 2) (tC (.int 1)))) (tVar 9)) (tC (.int 0))))) rfl sc__law_sweep.nd (pi_list (pv 12)) (blkOk_by (own := [("_law_at", 13)]) (N := ["_law_rows", "_law_values", "_law_spot", "_law_before", "_law_here", "_law_found", "_law_indices", "_law_index", "_law_grain", "_law_slots", "_law_first", "_law_end", "_law_some", "_law_at"]) (sc := defScope s__law_sweep) (by decide +kernel)) (fun _ _ _ _ _ => (pg_name (i := 13) sc__law_sweep.nd rfl (Or.inl rfl))) (fun _ _ _ _ _ => (pts_one (pt_cmpR op_eq (pe_op op_mod (pe_op op_sub (pv 13) (pe_ix ix_tupH (pv 2) pe_int (fun _ _ => rfl))) (pv 9)) pe_int (nomark _)))) (fun _ _ _ _ _ => (pv 13))) (pe_lst pa_nil) (nomark _)) (pss_cons (ps_set (i := 2) sc__law_sweep.nd rfl (Or.inr rfl) (pe_fn (ok__law_out T) (hr.mono (by decide)) rfl (glo__law_out T) (kp__law_out T) pass0 (pa_cons (pv 0) (pa_cons (pv 1) (pa_cons (pv 2) (pa_cons (pv 4) pa_nil))))))
  (pss_cons (ps_expr (pe_bm PySem.F.plainAttrs_list PySem.F.slot_list_append PySem.F.type_list_append mt_append (pv 5) (pa_cons (pv 2) pa_nil)))
  (pss_one (ps_if (pt_cmpR op_isN (pv 2) pe_non (nomark _)) (pss_one (ps_ret (pv 5))) pss_nil)))) pss_nil))))) pss_nil)))
  (pss_one (ps_ret (pv 5))))), rd__law_sweep vs H Q E h⟩
theorem ok__law_sweep (T : Tx K mg w) : FnR (PySem.Challenge.rw_timerwheels_k19_lateness).prog w K mg base CX0 8 (ga K "_law_sweep") (sp__law_sweep K) :=
  fnR_of (okk__law_sweep T) ((d__law_sweep T).choose_spec.bindsN fun _ _ _ _ _ _ us hl => match us, hl with | [_, _, _, _, _], _ => rfl)
theorem kp__law_sweep (T : Tx K mg w) : keepIn K (.ref (ga K "_law_sweep")) = true := (d__law_sweep T).choose_spec.kp
theorem sc__law_run : FnScope n__law_run ["_law_rows", "_law_values", "_law_spot", "_law_here", "_law_limit"] (defScope s__law_run) := ⟨rfl, rfl, rfl, by decide +kernel, rfl, by decide +kernel, by decide +kernel⟩
theorem ln0__law_run (vs : List V) (H : Hp) (Q : VK) (E : XK) (h : sp__law_run K vs H Q E) : vs.length = 5 := by
  unfold sp__law_run at h
  repeat (first | (exact (congrArg List.length h.1).trans rfl) | (obtain ⟨_, h⟩ := h))
theorem okk__law_run (T : Tx K mg w) : FnOk (PySem.Challenge.rw_timerwheels_k19_lateness).prog w K mg base CX0 10 (ga K "_law_run") (d__law_run T).choose ["_law_rows", "_law_values", "_law_spot", "_law_here", "_law_limit"] (sp__law_run K) :=
  FunD.ok (k := 9) (N := n__law_run) (d__law_run T).choose_spec sc__law_run ln0__law_run fun cdv A outer s H vs Q E hr h => ⟨t__law_run K w, PSs.nox (pss_cons (ps_par (i := 5) (j := 6) (by rfl) sc__law_run.nd rfl rfl (by decide) rfl rfl (pa_cons (pv 3) (pa_cons pe_int pa_nil)) (by rfl))
  (pss_cons (ps_while PassesOwn.never (pt_cmpR op_notN (pv 2) pe_non (nomark _))
    (pss_cons (ps_set (i := 7) sc__law_run.nd rfl (Or.inl rfl) (pe_fn (ok__law_visit T) (hr.mono (by decide)) rfl (glo__law_visit T) (kp__law_visit T) pass0 (pa_cons (pv 0) (pa_cons (pv 2) (pa_cons (pv 5) pa_nil)))))
  (pss_cons (ps_if (PW.pt (pw_and (pt_cmpR op_notN (pv 4) pe_non (nomark _)) (pw_and1 (pt_cmpR op_gt (pv 7) (pv 4) (nomark _))))) (pss_one (ps_ret (pe_lst (pa_cons (pv 2) (pa_cons (pv 5) (pa_cons (pv 6) pa_nil)))))) pss_nil)
  (pss_cons (ps_set (i := 8) sc__law_run.nd rfl (Or.inl rfl) (pe_fn (ok__law_sweep T) (hr.mono (by decide)) rfl (glo__law_sweep T) (kp__law_sweep T) pass0 (pa_cons (pv 0) (pa_cons (pv 1) (pa_cons (pv 2) (pa_cons (pe_op op_sub (pv 7) pe_int) (pa_cons (pv 7) pa_nil)))))))
  (pss_cons (ps_par (i := 5) (j := 2) (by rfl) sc__law_run.nd rfl rfl (by decide) rfl rfl (pa_cons (pv 7) (pa_cons (pe_ix ix_lstH (pv 8) (pe_un un_neg pe_int) (fun _ _ => rfl)) pa_nil)) (by rfl))
  (pss_one (ps_set (i := 6) sc__law_run.nd rfl (Or.inl rfl) (pe_op op_add (pv 6) (pe_callB call_lenL (by rfl) (free_len T) (by decide +kernel) (pa_cons (pe_lc (own := [("_law_one", 9)]) (g := (gName 9)) (tt := (tTest (tOp oNotN (tVar 9) (tC .non)))) rfl sc__law_run.nd (pi_list (pv 8)) (blkOk_by (own := [("_law_one", 9)]) (N := ["_law_rows", "_law_values", "_law_spot", "_law_here", "_law_limit", "_law_tick", "_law_many", "_law_at", "_law_found", "_law_one"]) (sc := defScope s__law_run) (by decide +kernel)) (fun _ _ _ _ _ => (pg_name (i := 9) sc__law_run.nd rfl (Or.inl rfl))) (fun _ _ _ _ _ => (pts_one (pt_cmpR op_notN (pv 9) pe_non (nomark _)))) (fun _ _ _ _ _ => (pv 9))) pa_nil))))))))))
  (pss_one (ps_ret (pe_lst (pa_cons pe_non (pa_cons (pv 5) (pa_cons (pv 6) pa_nil)))))))), rd__law_run vs H Q E h⟩
theorem ok__law_run (T : Tx K mg w) : FnR (PySem.Challenge.rw_timerwheels_k19_lateness).prog w K mg base CX0 10 (ga K "_law_run") (sp__law_run K) :=
  fnR_of (okk__law_run T) ((d__law_run T).choose_spec.bindsN fun _ _ _ _ _ _ us hl => match us, hl with | [_, _, _, _, _], _ => rfl)
theorem kp__law_run (T : Tx K mg w) : keepIn K (.ref (ga K "_law_run")) = true := (d__law_run T).choose_spec.kp
theorem sc__law_fire : FnScope n__law_fire ["_law_rows", "_law_values", "_law_start", "_law_delay"] (defScope s__law_fire) := ⟨rfl, rfl, rfl, by decide +kernel, rfl, by decide +kernel, by decide +kernel⟩
theorem ln0__law_fire (vs : List V) (H : Hp) (Q : VK) (E : XK) (h : sp__law_fire K vs H Q E) : vs.length = 4 := by
  unfold sp__law_fire at h
  repeat (first | (exact (congrArg List.length h.1).trans rfl) | (obtain ⟨_, h⟩ := h))
theorem okk__law_fire (T : Tx K mg w) : FnOk (PySem.Challenge.rw_timerwheels_k19_lateness).prog w K mg base CX0 12 (ga K "_law_fire") (d__law_fire T).choose ["_law_rows", "_law_values", "_law_start", "_law_delay"] (sp__law_fire K) :=
  FunD.ok (k := 11) (N := n__law_fire) (d__law_fire T).choose_spec sc__law_fire ln0__law_fire fun cdv A outer s H vs Q E hr h => ⟨t__law_fire K w, PSs.nox (pss_cons (ps_set (i := 4) sc__law_fire.nd rfl (Or.inl rfl) (pe_fn (ok__law_put T) (hr.mono (by decide)) rfl (glo__law_put T) (kp__law_put T) pass0 (pa_cons (pv 0) (pa_cons (pv 1) (pa_cons (pv 2) (pa_cons (pv 3) pa_nil))))))
  (pss_one (ps_ret (pe_ifExp (pt_cmpR op_isN (pv 4) pe_non (nomark _)) (pv 2) (pe_ix ix_lstH (pe_fn (ok__law_run T) (hr.mono (by decide)) rfl (glo__law_run T) (kp__law_run T) pass0 (pa_cons (pv 0) (pa_cons (pv 1) (pa_cons (pv 4) (pa_cons (pv 2) (pa_cons pe_non pa_nil)))))) pe_int (fun _ _ => rfl)))))), rd__law_fire vs H Q E h⟩
theorem ok__law_fire (T : Tx K mg w) : FnR (PySem.Challenge.rw_timerwheels_k19_lateness).prog w K mg base CX0 12 (ga K "_law_fire") (sp__law_fire K) :=
  fnR_of (okk__law_fire T) ((d__law_fire T).choose_spec.bindsN fun _ _ _ _ _ _ us hl => match us, hl with | [_, _, _, _], _ => rfl)
theorem kp__law_fire (T : Tx K mg w) : keepIn K (.ref (ga K "_law_fire")) = true := (d__law_fire T).choose_spec.kp
theorem sc__law_lag : FnScope n__law_lag ["_law_rows", "_law_values", "_law_start", "_law_delay"] (defScope s__law_lag) := ⟨rfl, rfl, rfl, by decide +kernel, rfl, by decide +kernel, by decide +kernel⟩
theorem ln0__law_lag (vs : List V) (H : Hp) (Q : VK) (E : XK) (h : sp__law_lag K vs H Q E) : vs.length = 4 := by
  unfold sp__law_lag at h
  repeat (first | (exact (congrArg List.length h.1).trans rfl) | (obtain ⟨_, h⟩ := h))
theorem okk__law_lag (T : Tx K mg w) : FnOk (PySem.Challenge.rw_timerwheels_k19_lateness).prog w K mg base CX0 14 (ga K "_law_lag") (d__law_lag T).choose ["_law_rows", "_law_values", "_law_start", "_law_delay"] (sp__law_lag K) :=
  FunD.ok (k := 13) (N := n__law_lag) (d__law_lag T).choose_spec sc__law_lag ln0__law_lag fun cdv A outer s H vs Q E hr h => ⟨t__law_lag K w, PSs.nox (pss_one (ps_ret (pe_op op_sub (pe_op op_sub (pe_fn (ok__law_fire T) (hr.mono (by decide)) rfl (glo__law_fire T) (kp__law_fire T) pass0 (pa_cons (pv 0) (pa_cons (pv 1) (pa_cons (pv 2) (pa_cons (pv 3) pa_nil))))) (pv 2)) (pe_ifExp (PW.pt (pw_and (pt_cmpR op_eq (pv 3) pe_int (nomark _)) (pw_and1 (pt_cmpR op_eq (pe_ix ix_lstH (pv 1) pe_int (fun _ _ => rfl)) pe_str (nomark _))))) pe_int (pv 3))))), rd__law_lag vs H Q E h⟩
theorem ok__law_lag (T : Tx K mg w) : FnR (PySem.Challenge.rw_timerwheels_k19_lateness).prog w K mg base CX0 14 (ga K "_law_lag") (sp__law_lag K) :=
  fnR_of (okk__law_lag T) ((d__law_lag T).choose_spec.bindsN fun _ _ _ _ _ _ us hl => match us, hl with | [_, _, _, _], _ => rfl)
theorem kp__law_lag (T : Tx K mg w) : keepIn K (.ref (ga K "_law_lag")) = true := (d__law_lag T).choose_spec.kp
theorem sc__law_bad_number : FnScope n__law_bad_number ["_law_pool"] (defScope s__law_bad_number) := ⟨rfl, rfl, rfl, by decide +kernel, rfl, by decide +kernel, by decide +kernel⟩
theorem ln0__law_bad_number (vs : List V) (H : Hp) (Q : VK) (E : XK) (h : sp__law_bad_number K vs H Q E) : vs.length = 1 := by
  unfold sp__law_bad_number at h
  repeat (first | (exact (congrArg List.length h.1).trans rfl) | (obtain ⟨_, h⟩ := h))
theorem okk__law_bad_number (T : Tx K mg w) : FnOk (PySem.Challenge.rw_timerwheels_k19_lateness).prog w K mg base CX0 6 (ga K "_law_bad_number") (d__law_bad_number T).choose ["_law_pool"] (sp__law_bad_number K) :=
  FunD.ok (k := 5) (N := n__law_bad_number) (d__law_bad_number T).choose_spec sc__law_bad_number ln0__law_bad_number fun cdv A outer s H vs Q E hr h => ⟨t__law_bad_number K w, PSs.nox (pss_one (ps_ret (pe_ix ix_lstH (pe_lst (pa_cons (pe_un un_neg pe_int) (pa_cons pe_non (pa_cons pe_bl (pa_cons pe_str (pa_cons (pe_tup (pa_cons pe_int pa_nil)) (pa_cons (pe_lst (pa_cons pe_int pa_nil)) (pa_cons pe_dnewK (pa_cons pe_bl (pa_cons (pe_un un_neg (pe_op op_pow pe_int pe_int)) pa_nil)))))))))) (pe_fn (ok__law_draw T) (hr.mono (by decide)) rfl (glo__law_draw T) (kp__law_draw T) pass0 (pa_cons (pv 0) (pa_cons pe_int pa_nil))) (fun _ _ => rfl)))), rd__law_bad_number vs H Q E h⟩
theorem ok__law_bad_number (T : Tx K mg w) : FnR (PySem.Challenge.rw_timerwheels_k19_lateness).prog w K mg base CX0 6 (ga K "_law_bad_number") (sp__law_bad_number K) :=
  fnR_of (okk__law_bad_number T) ((d__law_bad_number T).choose_spec.bindsN fun _ _ _ _ _ _ us hl => match us, hl with | [_], _ => rfl)
theorem kp__law_bad_number (T : Tx K mg w) : keepIn K (.ref (ga K "_law_bad_number")) = true := (d__law_bad_number T).choose_spec.kp
theorem sc_law : FnScope n_law ["_law_script"] (defScope s_law) := ⟨rfl, rfl, rfl, by decide +kernel, rfl, by decide +kernel, by decide +kernel⟩
theorem ln0_law (vs : List V) (H : Hp) (Q : VK) (E : XK) (h : sp_law K vs H Q E) : vs.length = 1 := by
  unfold sp_law at h
  repeat (first | (exact (congrArg List.length h.1).trans rfl) | (obtain ⟨_, h⟩ := h))
theorem okG_law (T : Tx K mg w) (tb : TBs K mg base) : FnG (PySem.Challenge.rw_timerwheels_k19_lateness).prog w K mg base CX0 24 (ga K "law") (sp_law K) := by
  obtain ⟨fd, F⟩ := d_law T
  exact fnG_ofC (k := 23) (N := n_law) F sc_law (F.bindsN fun _ _ _ _ _ _ us hl => match us, hl with | [_], _ => rfl) ln0_law fun cdv A outer s H vs Q E hcv hr h => by
    subst hcv
    exact ⟨t_law K w, PSs.nox (pss_cons (ps_set (i := 1) sc_law.nd rfl (Or.inl rfl) (pe_fn (ok__law_begin T) (hr.rm.mono (by decide)) rfl (glo__law_begin T) (kp__law_begin T) pass0 (pa_cons (pv 0) pa_nil)))
  (pss_cons (ps_for PassesOwn.never rfl (pi_range1 rfl (free_range T) (pa_cons pe_int pa_nil)) (pg_name (i := 2) sc_law.nd rfl (Or.inl rfl))
    (pss_cons (ps_par (i := 3) (j := 4) (by rfl) sc_law.nd rfl rfl (by decide) rfl rfl (pa_cons (pe_fn (ok__law_draw_rows T) (hr.rm.mono (by decide)) rfl (glo__law_draw_rows T) (kp__law_draw_rows T) pass0 (pa_cons (pv 1) (pa_cons pe_int (pa_cons pe_int (pa_cons pe_int pa_nil))))) (pa_cons (pe_fn (ok__law_draw_values T) (hr.rm.mono (by decide)) rfl (glo__law_draw_values T) (kp__law_draw_values T) pass0 (pa_cons (pv 1) pa_nil)) pa_nil)) (by rfl))
  (pss_cons (ps_asg (pe_tup (pa_cons (pe_fn (ok__law_made_wheel T) (hr.rm.mono (by decide)) rfl (glo__law_made_wheel T) (kp__law_made_wheel T) pass0 (pa_cons (pv 3) pa_nil)) (pa_cons (pe_fn (ok__law_made_book T) (hr.rm.mono (by decide)) rfl (glo__law_made_book T) (kp__law_made_book T) pass0 (pa_cons (pv 4) pa_nil)) pa_nil))) (pg_tup rfl (pgs_cons (pg_name (i := 5) sc_law.nd rfl (Or.inr rfl)) (pgs_cons (pg_name (i := 6) sc_law.nd rfl (Or.inr rfl)) pgs_nil))))
  (pss_cons (ps_set (i := 7) sc_law.nd rfl (Or.inr rfl) (pe_ix ix_lstH (pe_lst (pa_cons (pe_fn (ok__law_draw T) (hr.rm.mono (by decide)) rfl (glo__law_draw T) (kp__law_draw T) pass0 (pa_cons (pv 1) (pa_cons pe_int pa_nil))) (pa_cons (pe_fn (ok__law_draw T) (hr.rm.mono (by decide)) rfl (glo__law_draw T) (kp__law_draw T) pass0 (pa_cons (pv 1) (pa_cons pe_int pa_nil))) (pa_cons (pe_fn (ok__law_draw T) (hr.rm.mono (by decide)) rfl (glo__law_draw T) (kp__law_draw T) pass0 (pa_cons (pv 1) (pa_cons (pe_op op_pow pe_int pe_int) pa_nil))) pa_nil)))) (pe_fn (ok__law_draw T) (hr.rm.mono (by decide)) rfl (glo__law_draw T) (kp__law_draw T) pass0 (pa_cons (pv 1) (pa_cons pe_int pa_nil))) (fun _ _ => rfl)))
  (pss_cons (ps_set (i := 8) sc_law.nd rfl (Or.inl rfl) (pe_lst (pa_cons pe_int (pa_cons pe_int (pa_cons (pe_op op_add (pe_ix ix_tupH (pe_ix ix_lstH (pv 3) (pe_un un_neg pe_int) (fun _ _ => rfl)) pe_int (fun _ _ => rfl)) (pe_fn (ok__law_draw T) (hr.rm.mono (by decide)) rfl (glo__law_draw T) (kp__law_draw T) pass0 (pa_cons (pv 1) (pa_cons (pe_ix ix_tupH (pe_ix ix_lstH (pv 3) (pe_un un_neg pe_int) (fun _ _ => rfl)) pe_int (fun _ _ => rfl)) pa_nil)))) (pa_cons (pe_fn (ok__law_draw T) (hr.rm.mono (by decide)) rfl (glo__law_draw T) (kp__law_draw T) pass0 (pa_cons (pv 1) (pa_cons (pe_ix ix_tupH (pe_ix ix_lstH (pv 3) (pe_un un_neg pe_int) (fun _ _ => rfl)) pe_int (fun _ _ => rfl)) pa_nil))) pa_nil))))))
  (pss_cons (ps_for PassesOwn.never rfl (pi_list (pv 3)) (pg_name (i := 9) sc_law.nd rfl (Or.inl rfl))
    (pss_one (ps_set (i := 8) sc_law.nd rfl (Or.inl rfl) (pe_op op_cat (pv 8) (pe_lst (pa_cons (pe_op op_sub (pe_ix ix_tupH (pv 9) pe_int (fun _ _ => rfl)) pe_int) (pa_cons (pe_ix ix_tupH (pv 9) pe_int (fun _ _ => rfl)) (pa_cons (pe_ix ix_tupH (pv 9) pe_int (fun _ _ => rfl)) (pa_cons (pe_op op_mul (pe_ix ix_tupH (pv 9) pe_int (fun _ _ => rfl)) (pe_ix ix_tupH (pv 9) pe_int (fun _ _ => rfl))) pa_nil)))))))))
  (pss_cons (ps_for PassesOwn.never rfl (pi_list (pv 8)) (pg_name (i := 10) sc_law.nd rfl (Or.inr rfl))
    (pss_one (ps_if (pt_cmpR (op_eqD (ul hr.rm)) (pe_fn (ok__law_putF T) (hr.rm.mono (by decide)) rfl (glo__law_put T) (kp__law_put T) pass0 (pa_cons (pv 3) (pa_cons (pv 4) (pa_cons (pv 7) (pa_cons (pv 10) pa_nil))))) pe_str (nomark _)) (pss_one (ps_if (pt_cmpR (op_neD (ul hr.rm)) (pe_caught (TT := TCg K) (t := fun E => (tFn (sp_lateness K) E (tCons (tVar 5) (tCons (tVar 6) (tCons (tVar 7) (tCons (tVar 10) tNil)))))) (k := 20) (d__law_caught T).choose_spec (fun _ _ _ _ _ _ us hl => match us, hl with | [_], _ => rfl) sc__law_caught rfl (Or.inl rfl) rfl (glo__law_caught T) (fun cdg => cg T (hr.mono (by decide)) _ cdg) tb.law rfl (hr.rm.mono (by decide)) (lamS_by (sc := defScope s_law) (by decide +kernel)) rfl (fun _ _ _ _ _ => rfl) (fun A outer s H E f c2 hrl => (pe_fn (ok_lateness T) (hrl.mono (by decide)) rfl (glo_lateness T) (kp_lateness T) (passes_call (takes_of rfl rfl rfl rfl) fun _ _ _ _ z => z) (pa_cons (pe_var (i := 5) rfl (Or.inr (Or.inr rfl))) (pa_cons (pe_var (i := 6) rfl (Or.inr (Or.inr rfl))) (pa_cons (pe_var (i := 7) rfl (Or.inr (Or.inr rfl))) (pa_cons (pe_var (i := 10) rfl (Or.inr (Or.inr rfl))) pa_nil))))))) (pe_lst (pa_cons pe_str (pa_cons (pe_callB (call_reprG hr) (by rfl) (free_repr T) (by decide +kernel) (pa_cons (pv 10) pa_nil)) pa_nil))) (nomark _)) (pss_one (ps_ret pe_bl)) pss_nil)) (pss_one (ps_if (pt_cmpR op_ne (pe_callB (call_reprG hr) (by rfl) (free_repr T) (by decide +kernel) (pa_cons (pe_fn (ok_lateness T) (hr.rm.mono (by decide)) rfl (glo_lateness T) (kp_lateness T) passE (pa_cons (pv 5) (pa_cons (pv 6) (pa_cons (pv 7) (pa_cons (pv 10) pa_nil))))) pa_nil)) (pe_callB (call_reprG hr) (by rfl) (free_repr T) (by decide +kernel) (pa_cons (pe_fn (ok__law_lag T) (hr.rm.mono (by decide)) rfl (glo__law_lag T) (kp__law_lag T) pass0 (pa_cons (pv 3) (pa_cons (pv 4) (pa_cons (pv 7) (pa_cons (pv 10) pa_nil))))) pa_nil)) (nomark _)) (pss_one (ps_ret pe_bl)) pss_nil)))))
  (pss_cons (ps_set (i := 11) sc_law.nd rfl (Or.inr rfl) (pe_fn (ok__law_bad_number T) (hr.rm.mono (by decide)) rfl (glo__law_bad_number T) (kp__law_bad_number T) pass0 (pa_cons (pv 1) pa_nil)))
  (pss_cons (ps_if (pt_cmpR (op_neD (ul hr.rm)) (pe_caught (TT := TCg K) (t := fun E => (tFn (sp_lateness K) E (tCons (tVar 5) (tCons (tVar 6) (tCons (tVar 11) (tCons (tVar 11) tNil)))))) (k := 20) (d__law_caught T).choose_spec (fun _ _ _ _ _ _ us hl => match us, hl with | [_], _ => rfl) sc__law_caught rfl (Or.inl rfl) rfl (glo__law_caught T) (fun cdg => cg T (hr.mono (by decide)) _ cdg) tb.law rfl (hr.rm.mono (by decide)) (lamS_by (sc := defScope s_law) (by decide +kernel)) rfl (fun _ _ _ _ _ => rfl) (fun A outer s H E f c2 hrl => (pe_fn (ok_lateness T) (hrl.mono (by decide)) rfl (glo_lateness T) (kp_lateness T) (passes_call (takes_of rfl rfl rfl rfl) fun _ _ _ _ z => z) (pa_cons (pe_var (i := 5) rfl (Or.inr (Or.inr rfl))) (pa_cons (pe_var (i := 6) rfl (Or.inr (Or.inr rfl))) (pa_cons (pe_var (i := 11) rfl (Or.inr (Or.inr rfl))) (pa_cons (pe_var (i := 11) rfl (Or.inr (Or.inr rfl))) pa_nil))))))) (pe_lst (pa_cons pe_str (pa_cons (pe_callB (call_reprE hr.gd (Nat.lt_of_le_of_lt (Nat.add_le_add_left (show 40 ≤ 64 by decide) _) (ul hr.rm))) (by rfl) (free_repr T) (by decide +kernel) (pa_cons (pv 11) pa_nil)) pa_nil))) (nomark _)) (pss_one (ps_ret pe_bl)) pss_nil)
  (pss_one (ps_if (pt_cmpR (op_neD (ul hr.rm)) (pe_caught (TT := TCg K) (t := fun E => (tFn (sp_lateness K) E (tCons (tVar 5) (tCons (tVar 6) (tCons (tVar 7) (tCons (tVar 11) tNil)))))) (k := 20) (d__law_caught T).choose_spec (fun _ _ _ _ _ _ us hl => match us, hl with | [_], _ => rfl) sc__law_caught rfl (Or.inl rfl) rfl (glo__law_caught T) (fun cdg => cg T (hr.mono (by decide)) _ cdg) tb.law rfl (hr.rm.mono (by decide)) (lamS_by (sc := defScope s_law) (by decide +kernel)) rfl (fun _ _ _ _ _ => rfl) (fun A outer s H E f c2 hrl => (pe_fn (ok_lateness T) (hrl.mono (by decide)) rfl (glo_lateness T) (kp_lateness T) (passes_call (takes_of rfl rfl rfl rfl) fun _ _ _ _ z => z) (pa_cons (pe_var (i := 5) rfl (Or.inr (Or.inr rfl))) (pa_cons (pe_var (i := 6) rfl (Or.inr (Or.inr rfl))) (pa_cons (pe_var (i := 7) rfl (Or.inr (Or.inr rfl))) (pa_cons (pe_var (i := 11) rfl (Or.inr (Or.inr rfl))) pa_nil))))))) (pe_lst (pa_cons pe_str (pa_cons (pe_callB (call_reprE hr.gd (Nat.lt_of_le_of_lt (Nat.add_le_add_left (show 40 ≤ 64 by decide) _) (ul hr.rm))) (by rfl) (free_repr T) (by decide +kernel) (pa_cons (pv 11) pa_nil)) pa_nil))) (nomark _)) (pss_one (ps_ret pe_bl)) pss_nil)))))))))))
  (pss_one (ps_ret pe_bl)))), rd_law (keg_TooLong T) (by intro q hq; simp only [List.mem_cons, List.not_mem_nil, or_false] at hq; rcases hq with rfl; exact kec_InvalidNumber T) vs H Q E h⟩
theorem kp_law (T : Tx K mg w) : keepIn K (.ref (ga K "law")) = true := (d_law T).choose_spec.kp
end
end Tw
theorem PySem.Challenge.cw_timerwheels_k19_lateness_holds : PySem.Challenge.rw_timerwheels_k19_lateness.Holds := by
  exact Hd.holds (k := 24) (CX := L2.CX0) (fun _ _ _ _ z => z) ⟨⟨rfl, by decide, by decide⟩, rfl⟩ fun K mg w base T t0 => Tw.okG_law T ⟨t0⟩
